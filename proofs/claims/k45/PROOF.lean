import PyProof.Rows.All
import Wide.All
import OpenK.AllK
import Wide.FinOn
import HandS.ForMost
import HandS.Exc
import HandS.TryOnly
import HandS.ExcOwn
import HandS.WordsExc
import HandS.ExcInit
import HandS.Flow
import HandS.Style
import HandS.IsInst
import HandS.StrMore
import HandS.SortRule
import HandS.SortInts
import HandS.Wide
import HandS.TupAny
import HandS.Walk
import KE.DataMinMax
import HandS.SortKw
import HandS.More
import HandS.Zip
import HandS.CallLocal
import HandS.Text
import HandS.Replace
import HandS.FStr
import KE.IntTextLaws
import PySem.Challenge.RW_foldlog_k45_lows_raised
set_option Elab.async false
set_option linter.all false
set_option maxRecDepth 100000
set_option maxHeartbeats 4000000
/-! G: my layer over the hand layer: worlds (a stable part, the whole heap), data, operators whatever the kinds, steps. -/
namespace G
open PySem L2

/-! ### worlds -/
/-- S: what will never change; H: all that stands -/
structure Wd where
  S : Hp
  H : Hp
  ok : Same S H

/-- from w to v: m the cells that were touched -/
structure Ext (m : Addr → Prop) (w v : Wd) : Prop where
  st : Same w.S v.S
  hp : ∀ b o, ¬ m b → w.H b = some o → v.H b = some o
  nw : ∀ b, ¬ m b → w.S b = none → w.H b ≠ none → v.S b = none
  al : ∀ b, w.H b ≠ none → v.H b ≠ none

abbrev Non : Addr → Prop := fun _ => False
abbrev One (l : Addr) : Addr → Prop := fun b => b = l
abbrev Two (l k : Addr) : Addr → Prop := fun b => b = l ∨ b = k

theorem Ext.refl (m : Addr → Prop) (w : Wd) : Ext m w w := ⟨fun _ _ h => h, fun _ _ _ h => h, fun _ _ h _ => h, fun _ h => h⟩
theorem Ext.back {m : Addr → Prop} {w v : Wd} {l : Addr} (e : Ext m w v) (h : v.H l = none) : w.H l = none := by
  cases q : w.H l with
  | none => rfl
  | some o => exact absurd h (e.al l (by rw [q]; exact fun z => by cases z))
theorem Ext.trans {m : Addr → Prop} {u w v : Wd} (a : Ext m u w) (b : Ext m w v) : Ext m u v :=
  ⟨fun c o h => b.st c o (a.st c o h), fun c o n h => b.hp c o n (a.hp c o n h), fun c n h q => b.nw c n (a.nw c n h q) (a.al c q), fun c h => b.al c (a.al c h)⟩
/-- a step that touches cells that u does not know, or may be touched -/
theorem Ext.step {m k : Addr → Prop} {u w v : Wd} (a : Ext m u w) (b : Ext k w v) (h : ∀ l, k l → u.H l = none ∨ m l) : Ext m u v := by
  have key : ∀ c, ¬ m c → u.H c ≠ none → ¬ k c := fun c n q z => (h c z).elim q n
  refine ⟨fun c o x => b.st c o (a.st c o x), fun c o n x => b.hp c o (key c n (by rw [x]; exact fun z => by cases z)) (a.hp c o n x), fun c n x q => b.nw c (key c n q) (a.nw c n x q) (a.al c q), fun c x => b.al c (a.al c x)⟩
theorem Ext.more {m k : Addr → Prop} {w v : Wd} (a : Ext m w v) (h : ∀ l, m l → w.H l = none ∨ k l) : Ext k w v := (Ext.refl k w).step a h

/-- a cell that is one's own -/
structure Own (w : Wd) (l : Addr) (o : HO) : Prop where
  s : w.S l = none
  h : w.H l = some o
theorem Own.ext {m : Addr → Prop} {w v : Wd} {l : Addr} {o : HO} (e : Ext m w v) (n : ¬ m l) (h : Own w l o) : Own v l o :=
  ⟨e.nw l n h.s (by rw [h.h]; exact fun z => by cases z), e.hp l o n h.h⟩
theorem Own.ne {w : Wd} {l p : Addr} {o : HO} (h : Own w l o) (n : w.H p = none) : l ≠ p := ne_of_none h.h n
theorem Own.ne' {w : Wd} {l p : Addr} {o : HO} (h : Own w l o) (n : w.H p = none) : p ≠ l := (ne_of_none h.h n).symm
theorem Own.nes {w : Wd} {l p : Addr} {o u : HO} (h : Own w l o) (n : w.S p = some u) : l ≠ p := fun e => by
  rw [← e, h.s] at n
  cases n

section
variable {w : Wd} {o u : HO} {l : Addr} {Q : VK} {R : Hp → Prop}
/-- a new stable thing -/
theorem newS (k : ∀ p v, Ext Non w v → w.H p = none → v.S p = some o → Q (.ref p) v.H) : ∀ p, w.H p = none → Q (.ref p) (upd w.H p o) := fun p hp => by
  have sp : w.S p = none := w.ok.free hp
  refine k p ⟨upd w.S p o, upd w.H p o, fun b q h => ?_⟩ ⟨fun b q h => ?_, fun b q _ h => ?_, fun b _ h z => ?_, fun b h => ?_⟩ hp upd_same
  · by_cases e : b = p
    · subst e
      rw [upd_same] at h
      rw [upd_same]
      exact h
    · rw [upd_ne e] at h
      rw [upd_ne e]
      exact w.ok b q h
  · show upd w.S p o b = some q
    rw [upd_ne (ne_of_none h sp)]
    exact h
  · show upd w.H p o b = some q
    rw [upd_ne (ne_of_none h hp)]
    exact h
  · have e : b ≠ p := fun e => by rw [e, hp] at z; exact z rfl
    show upd w.S p o b = none
    rw [upd_ne e]
    exact h
  · have e : b ≠ p := fun e => by rw [e, hp] at h; exact h rfl
    show upd w.H p o b ≠ none
    rw [upd_ne e]
    exact h
/-- a new thing of one's own -/
theorem newO (k : ∀ p v, Ext Non w v → w.H p = none → Own v p o → Q (.ref p) v.H) : ∀ p, w.H p = none → Q (.ref p) (upd w.H p o) := fun p hp => by
  have sp : w.S p = none := w.ok.free hp
  refine k p ⟨w.S, upd w.H p o, fun b q h => ?_⟩ ⟨fun b q h => h, fun b q _ h => ?_, fun b _ h z => h, fun b h => ?_⟩ hp ⟨sp, upd_same⟩
  · rw [upd_ne (ne_of_none h sp)]
    exact w.ok b q h
  · show upd w.H p o b = some q
    rw [upd_ne (ne_of_none h hp)]
    exact h
  · have e : b ≠ p := fun e => by rw [e, hp] at h; exact h rfl
    show upd w.H p o b ≠ none
    rw [upd_ne e]
    exact h
/-- a store into a cell of one's own -/
theorem put (h : Own w l o) (k : ∀ v, Ext (One l) w v → Own v l u → R v.H) : R (upd w.H l u) := by
  refine k ⟨w.S, upd w.H l u, fun b q x => ?_⟩ ⟨fun b q x => x, fun b q n x => ?_, fun b n x z => x, fun b x => ?_⟩ ⟨h.s, upd_same⟩
  · have e : b ≠ l := fun e => by rw [e, h.s] at x; cases x
    rw [upd_ne e]
    exact w.ok b q x
  · show upd w.H l u b = some q
    rw [upd_ne n]
    exact x
  · show upd w.H l u b ≠ none
    by_cases e : b = l
    · rw [e, upd_same]
      exact fun z => by cases z
    · rw [upd_ne e]
      exact x
/-- what one owns is laid among what never changes -/
theorem lay (h : Own w l o) (k : ∀ v, Ext (One l) w v → v.S l = some o → R v.H) : R w.H := by
  refine k ⟨upd w.S l o, w.H, fun b q x => ?_⟩ ⟨fun b q x => ?_, fun b q _ x => x, fun b n x z => ?_, fun b x => x⟩ upd_same
  · by_cases e : b = l
    · subst e
      rw [upd_same] at x
      exact (Option.some.inj x) ▸ h.h
    · rw [upd_ne e] at x
      exact w.ok b q x
  · show upd w.S l o b = some q
    rw [upd_ne (fun e => by rw [e, h.s] at x; cases x)]
    exact x
  · show upd w.S l o b = none
    rw [upd_ne n]
    exact x
end

/-! ### data that never changes -/
mutual
inductive Rp (S : Hp) : V → PyData → Prop
  | non : Rp S .non .none
  | bl (b : Bool) : Rp S (.bl b) (.bool b)
  | int (i : Int) : Rp S (.int i) (.int i)
  | str (x : Str) : Rp S (.str x) (.str x)
  | lst {a : Addr} {xs : List V} {ds : List PyData} : S a = some (.lst xs) → RpA S xs ds → Rp S (.ref a) (.list ds)
  | tup {a : Addr} {xs : List V} {ds : List PyData} : S a = some (.tup xs) → RpA S xs ds → Rp S (.ref a) (.tuple ds)
  | dct {a : Addr} {kvs : List (Key × V)} : S a = some (.dK kvs) → Rp S (.ref a) (.dict [])
inductive RpA (S : Hp) : List V → List PyData → Prop
  | nil : RpA S [] []
  | cons {v : V} {vs : List V} {d : PyData} {ds : List PyData} : Rp S v d → RpA S vs ds → RpA S (v :: vs) (d :: ds)
end
mutual
theorem Rp.mono {S T : Hp} (e : Same S T) : ∀ (d : PyData) (v : V), Rp S v d → Rp T v d
  | .none, _, h => by cases h; exact .non
  | .bool b, _, h => by cases h; exact .bl b
  | .int i, _, h => by cases h; exact .int i
  | .str x, _, h => by cases h; exact .str x
  | .list ds, _, h => by
    cases h with
    | lst h1 h2 => exact .lst (e _ _ h1) (RpA.mono e ds _ h2)
  | .tuple ds, _, h => by
    cases h with
    | tup h1 h2 => exact .tup (e _ _ h1) (RpA.mono e ds _ h2)
  | .dict _, _, h => by
    cases h with
    | dct h1 => exact .dct (e _ _ h1)
theorem RpA.mono {S T : Hp} (e : Same S T) : ∀ (ds : List PyData) (vs : List V), RpA S vs ds → RpA T vs ds
  | [], _, h => by cases h; exact .nil
  | d :: ds, _, h => by
    cases h with
    | cons h1 h2 => exact .cons (Rp.mono e d _ h1) (RpA.mono e ds _ h2)
end
theorem Rp.go {m : Addr → Prop} {w v : Wd} {x : V} {d : PyData} (e : Ext m w v) (h : Rp w.S x d) : Rp v.S x d := Rp.mono e.st d x h
theorem RpA.go {m : Addr → Prop} {w v : Wd} {x : List V} {d : List PyData} (e : Ext m w v) (h : RpA w.S x d) : RpA v.S x d := RpA.mono e.st d x h
theorem st_go {m : Addr → Prop} {w v : Wd} {a : Addr} {o : HO} (e : Ext m w v) (h : w.S a = some o) : v.S a = some o := e.st _ _ h
section
variable {S : Hp} {v : V} {vs us : List V} {ds es : List PyData} {d : PyData}
theorem Rp.list_inv (h : Rp S v (.list ds)) : ∃ a vs, v = .ref a ∧ S a = some (.lst vs) ∧ RpA S vs ds := by
  cases h with
  | lst h1 h2 => exact ⟨_, _, rfl, h1, h2⟩
theorem Rp.tuple_inv (h : Rp S v (.tuple ds)) : ∃ a vs, v = .ref a ∧ S a = some (.tup vs) ∧ RpA S vs ds := by
  cases h with
  | tup h1 h2 => exact ⟨_, _, rfl, h1, h2⟩
theorem Rp.int_inv {i : Int} (h : Rp S v (.int i)) : v = .int i := by cases h; rfl
theorem Rp.str_inv {i : Str} (h : Rp S v (.str i)) : v = .str i := by cases h; rfl
theorem Rp.bool_inv {i : Bool} (h : Rp S v (.bool i)) : v = .bl i := by cases h; rfl
theorem Rp.none_inv (h : Rp S v .none) : v = .non := by cases h; rfl
theorem RpA.length : ∀ {vs : List V} {ds : List PyData}, RpA S vs ds → vs.length = ds.length
  | _, _, .nil => rfl
  | _, _, .cons _ t => by rw [List.length_cons, List.length_cons, RpA.length t]
theorem RpA.get : ∀ {vs : List V} {ds : List PyData} {i : Nat} {v : V}, RpA S vs ds → vs[i]? = some v → ∃ d, ds[i]? = some d ∧ Rp S v d
  | _, _, i, _, .nil, h => by simp at h
  | _, _, 0, _, .cons r _, h => by simp at h; subst h; exact ⟨_, rfl, r⟩
  | _, _, i + 1, _, .cons _ t, h => by
    obtain ⟨d, h1, h2⟩ := RpA.get (i := i) t (by simpa using h)
    exact ⟨d, by simpa using h1, h2⟩
theorem RpA.get' : ∀ {vs : List V} {ds : List PyData} {i : Nat} {d : PyData}, RpA S vs ds → ds[i]? = some d → ∃ v, vs[i]? = some v ∧ Rp S v d
  | _, _, i, _, .nil, h => by simp at h
  | _, _, 0, _, .cons r _, h => by simp at h; subst h; exact ⟨_, rfl, r⟩
  | _, _, i + 1, _, .cons _ t, h => by
    obtain ⟨d, h1, h2⟩ := RpA.get' (i := i) t (by simpa using h)
    exact ⟨d, by simpa using h1, h2⟩
theorem RpA.append : ∀ {vs us : List V} {ds es : List PyData}, RpA S vs ds → RpA S us es → RpA S (vs ++ us) (ds ++ es)
  | _, _, _, _, .nil, h => h
  | _, _, _, _, .cons r t, h => .cons r (RpA.append t h)
theorem RpA.take : ∀ {vs : List V} {ds : List PyData} (n : Nat), RpA S vs ds → RpA S (vs.take n) (ds.take n)
  | _, _, 0, _ => .nil
  | _, _, _ + 1, .nil => .nil
  | _, _, n + 1, .cons r t => .cons r (RpA.take n t)
theorem RpA.drop : ∀ {vs : List V} {ds : List PyData} (n : Nat), RpA S vs ds → RpA S (vs.drop n) (ds.drop n)
  | _, _, 0, h => h
  | _, _, _ + 1, .nil => .nil
  | _, _, n + 1, .cons _ t => RpA.drop n t
theorem RpA.one (h : Rp S v d) : RpA S [v] [d] := .cons h .nil
theorem RpA.snoc (h : RpA S vs ds) (k : Rp S v d) : RpA S (vs ++ [v]) (ds ++ [d]) := h.append (.one k)
theorem RpA.reverse : ∀ {vs : List V} {ds : List PyData}, RpA S vs ds → RpA S vs.reverse ds.reverse
  | _, _, .nil => .nil
  | _, _, .cons r t => by
    rw [List.reverse_cons, List.reverse_cons]
    exact t.reverse.snoc r
theorem RpA.set : ∀ {vs : List V} {ds : List PyData} (i : Nat) {v : V} {d : PyData}, RpA S vs ds → Rp S v d → RpA S (vs.set i v) (ds.set i d)
  | _, _, _, _, _, .nil, _ => .nil
  | _, _, 0, _, _, .cons _ t, h => .cons h t
  | _, _, i + 1, _, _, .cons r t, h => .cons r (RpA.set i t h)
theorem RpA.ints : ∀ {ns : List Int}, RpA S (ns.map V.int) (ns.map PyData.int)
  | [] => .nil
  | n :: ns => .cons (.int n) RpA.ints
theorem RpA.ints_inv : ∀ {vs : List V} {ns : List Int}, RpA S vs (ns.map PyData.int) → vs = ns.map V.int
  | _, [], h => by cases h; rfl
  | _, n :: ns, h => by
    cases h with
    | cons h1 h2 =>
      rw [h1.int_inv, RpA.ints_inv h2]
      rfl
theorem RpA.strs_inv : ∀ {vs : List V} {ns : List Str}, RpA S vs (ns.map PyData.str) → vs = ns.map V.str
  | _, [], h => by cases h; rfl
  | _, n :: ns, h => by
    cases h with
    | cons h1 h2 =>
      rw [h1.str_inv, RpA.strs_inv h2]
      rfl
end
/-- no dict within -/
def nd : PyData → Bool
  | .dict _ => false
  | .list ds => ds.attach.all fun ⟨d, _⟩ => nd d
  | .tuple ds => ds.attach.all fun ⟨d, _⟩ => nd d
  | _ => true
mutual
theorem Rp.dp {K : PySem.W.Frag} {S : Hp} : ∀ (d : PyData) (v : V), Rp S v d → nd d = true → Dp K S v d
  | .none, _, h, _ => by cases h; exact .non
  | .bool b, _, h, _ => by cases h; exact .bl b
  | .int i, _, h, _ => by cases h; exact .int i
  | .str x, _, h, _ => by cases h; exact .str x
  | .list ds, _, h, n => by
    cases h with
    | lst h1 h2 =>
      unfold nd at n
      rw [List.all_eq_true] at n
      exact .lst (SqL.of h1) (RpA.dp ds _ h2 fun d hd => n ⟨d, hd⟩ (List.mem_attach ..))
  | .tuple ds, _, h, n => by
    cases h with
    | tup h1 h2 =>
      unfold nd at n
      rw [List.all_eq_true] at n
      exact .tup (SqT.of h1) (RpA.dp ds _ h2 fun d hd => n ⟨d, hd⟩ (List.mem_attach ..))
  | .dict _, _, h, n => by unfold nd at n; cases n
theorem RpA.dp {K : PySem.W.Frag} {S : Hp} : ∀ (ds : List PyData) (vs : List V), RpA S vs ds → (∀ d ∈ ds, nd d = true) → DpAll K S vs ds
  | [], _, h, _ => by cases h; exact .nil
  | d :: ds, _, h, n => by
    cases h with
    | cons h1 h2 => exact .cons (Rp.dp d _ h1 (n d List.mem_cons_self)) (RpA.dp ds _ h2 fun e he => n e (List.mem_cons_of_mem _ he))
end
mutual
theorem dp_mono {K : PySem.W.Frag} {S T : Hp} (e : Same S T) : ∀ (d : PyData) (v : V), Dp K S v d → Dp K T v d
  | .none, _, h => by cases h; exact .non
  | .bool b, _, h => by cases h; exact .bl b
  | .int i, _, h => by cases h; exact .int i
  | .str x, _, h => by cases h; exact .str x
  | .list ds, _, h => by
    cases h with
    | lst h1 h2 => exact .lst (e.seq h1) (dp_monoA e ds _ h2)
  | .tuple ds, _, h => by
    cases h with
    | tup h1 h2 => exact .tup (h1.elim (fun q => q.elim (fun z => SqT.of (e _ _ z)) fun ⟨o, z⟩ => .inl (.inr ⟨o, e _ _ z⟩)) .inr) (dp_monoA e ds _ h2)
  | .dict _, _, h => by cases h
theorem dp_monoA {K : PySem.W.Frag} {S T : Hp} (e : Same S T) : ∀ (ds : List PyData) (vs : List V), DpAll K S vs ds → DpAll K T vs ds
  | [], _, h => by cases h; exact .nil
  | d :: ds, _, h => by
    cases h with
    | cons h1 h2 => exact .cons (dp_mono e d _ h1) (dp_monoA e ds _ h2)
end
theorem sqt_mono {K : PySem.W.Frag} {S T : Hp} (e : Same S T) {a : Addr} {xs : List V} (h : SqT K S a xs) : SqT K T a xs :=
  h.elim (fun q => q.elim (fun z => SqT.of (e _ _ z)) fun ⟨o, z⟩ => .inl (.inr ⟨o, e _ _ z⟩)) .inr
end G

set_option Elab.async false
set_option linter.all false
set_option maxRecDepth 100000
set_option maxHeartbeats 4000000
/-! G2: operators whatever the kinds; steps through readings. -/
namespace G
open PySem L2
section
variable {X : Cx}
/-! ### operators whatever the kinds -/
def gAdd (K : PySem.W.Frag) : R2 := fun x y H Q => match x, y with
  | .int i, .int j => Q (.int (i + j)) H
  | .str i, .str j => i.length + j.length ≤ sizeLine ∧ Q (.str (i ++ j)) H
  | .ref a, .ref b => (∃ xs zs, H a = some (.lst xs) ∧ H b = some (.lst zs) ∧ xs.length + zs.length ≤ sizeLine ∧ ∀ p, H p = none → Q (.ref p) (upd H p (.lst (xs ++ zs)))) ∨ rCatA K (.ref a) (.ref b) H Q
  | _, _ => False
theorem g_add : OpR X (binaryOp .Add) (gAdd X.K) := by
  intro pins s σ H x y v u Q I rx ry h
  cases x <;> cases y <;> first | exact h.elim | skip
  case int.int i j => exact op_add pins s σ H _ _ v u Q I rx ry ⟨i, j, rfl, rfl, h⟩
  case str.str i j => exact op_add_str pins s σ H _ _ v u Q I rx ry ⟨i, j, rfl, rfl, h.1, h.2⟩
  case ref.ref a b =>
    rcases h with ⟨xs, zs, h1, h2, h3, h4⟩ | h
    · exact op_cat pins s σ H _ _ v u Q I rx ry ⟨a, b, xs, zs, rfl, rfl, h1, h2, h3, h4⟩
    · exact op_catA pins s σ H _ _ v u Q I rx ry h
def gMul (K : PySem.W.Frag) : R2 := fun x y H Q => match x, y with
  | .int i, .int j => (CMul i j ∨ CMulW i j) ∧ Q (.int (i * j)) H
  | .ref a, .int k => ∃ xs, H a = some (.lst xs) ∧ -(2 ^ 63) ≤ k ∧ k < 2 ^ 63 ∧ xs.length * k.toNat ≤ sizeLine ∧ ∀ p, H p = none → Q (.ref p) (upd H p (.lst (List.replicate k.toNat xs).flatten))
  | _, _ => False
def gSub : R2 := fun x y H Q => match x, y with
  | .int i, .int j => Q (.int (i - j)) H
  | _, _ => False
theorem g_sub : OpR X (binaryOp .Sub) gSub := by
  intro pins s σ H x y v u Q I rx ry h
  cases x <;> cases y <;> first | exact h.elim | skip
  case int.int i j => exact op_sub pins s σ H _ _ v u Q I rx ry ⟨i, j, rfl, rfl, h⟩
/-- any divisor above nought, of fewer than 9,000 bits -/
def gDiv : R2 := fun x y H Q => match x, y with
  | .int i, .int j => CDivW i j ∧ Q (.int (i / j)) H
  | _, _ => False
theorem g_div : OpR X (binaryOp .FloorDiv) gDiv := by
  intro pins s σ H x y v u Q I rx ry h
  cases x <;> cases y <;> first | exact h.elim | skip
  case int.int i j => exact op_fdivW pins s σ H _ _ v u Q I rx ry ⟨i, j, rfl, rfl, h.1, h.2⟩
def gMod : R2 := fun x y H Q => match x, y with
  | .int i, .int j => 0 < j ∧ Q (.int (i % j)) H
  | _, _ => False
theorem g_mod : OpR X (binaryOp .Mod) gMod := by
  intro pins s σ H x y v u Q I rx ry h
  cases x <;> cases y <;> first | exact h.elim | skip
  case int.int i j => exact op_mod pins s σ H _ _ v u Q I rx ry ⟨i, j, rfl, rfl, h.1, h.2⟩
def gPow : R2 := fun x y H Q => match x, y with
  | .int i, .int j => CPow i j ∧ Q (.int (i ^ j.toNat)) H
  | _, _ => False
theorem g_pow : OpR X (binaryOp .Pow) gPow := by
  intro pins s σ H x y v u Q I rx ry h
  cases x <;> cases y <;> first | exact h.elim | skip
  case int.int i j => exact op_pow pins s σ H _ _ v u Q I rx ry ⟨i, j, rfl, rfl, h.1, h.2⟩
def gLt : R2 := fun x y H Q => match x, y with
  | .int i, .int j => Q (.bl (decide (i < j))) H
  | .str i, .str j => Q (.bl (decide (i.cps.toList < j.cps.toList))) H
  | _, _ => False
theorem g_lt : OpR X (compareOp .Lt) gLt := by
  intro pins s σ H x y v u Q I rx ry h
  cases x <;> cases y <;> first | exact h.elim | skip
  case int.int i j => exact op_lt pins s σ H _ _ v u Q I rx ry ⟨i, j, rfl, rfl, h⟩
  case str.str i j => exact op_lt_str pins s σ H _ _ v u Q I rx ry ⟨i, j, rfl, rfl, h⟩
def gLe : R2 := fun x y H Q => match x, y with
  | .int i, .int j => Q (.bl (decide (i ≤ j))) H
  | .str i, .str j => Q (.bl (!decide (j.cps.toList < i.cps.toList))) H
  | _, _ => False
theorem g_le : OpR X (compareOp .LtE) gLe := by
  intro pins s σ H x y v u Q I rx ry h
  cases x <;> cases y <;> first | exact h.elim | skip
  case int.int i j => exact op_le pins s σ H _ _ v u Q I rx ry ⟨i, j, rfl, rfl, h⟩
  case str.str i j => exact op_le_str pins s σ H _ _ v u Q I rx ry ⟨i, j, rfl, rfl, h⟩
def gGt : R2 := fun x y H Q => match x, y with
  | .int i, .int j => Q (.bl (decide (j < i))) H
  | _, _ => False
theorem g_gt : OpR X (compareOp .Gt) gGt := by
  intro pins s σ H x y v u Q I rx ry h
  cases x <;> cases y <;> first | exact h.elim | skip
  case int.int i j => exact op_gt pins s σ H _ _ v u Q I rx ry ⟨i, j, rfl, rfl, h⟩
def gGe : R2 := fun x y H Q => match x, y with
  | .int i, .int j => Q (.bl (decide (j ≤ i))) H
  | _, _ => False
theorem g_ge : OpR X (compareOp .GtE) gGe := by
  intro pins s σ H x y v u Q I rx ry h
  cases x <;> cases y <;> first | exact h.elim | skip
  case int.int i j => exact op_ge pins s σ H _ _ v u Q I rx ry ⟨i, j, rfl, rfl, h⟩
/-- ==: two plain values, or data -/
def gEq (K : PySem.W.Frag) : R2 := fun x y H Q => rEq x y H Q ∨ rEqD K x y H Q
theorem g_eq (hu : X.A.units + 64 < cLine) : OpR X (compareOp .Eq) (gEq X.K) := op_eq.or (op_eqD hu)
def gNe (K : PySem.W.Frag) : R2 := fun x y H Q => rNe x y H Q ∨ rNeD K x y H Q
theorem g_ne (hu : X.A.units + 64 < cLine) : OpR X (compareOp .NotEq) (gNe X.K) := op_ne.or (op_neD hu)
def gIs : R2 := fun x y H Q => match y with
  | .non => Q (.bl (decide (x = .non))) H
  | .bl b => ∃ a, x = .bl a ∧ Q (.bl (decide (a = b))) H
  | _ => False
theorem g_is : OpR X (compareOp .Is) gIs := by
  intro pins s σ H x y v u Q I rx ry h
  cases y <;> first | exact h.elim | skip
  case non => exact op_isN pins s σ H _ _ v u Q I rx ry ⟨rfl, h⟩
  case bl b =>
    obtain ⟨a, rfl, h⟩ := h
    exact op_isBl pins s σ H _ _ v u Q I rx ry ⟨a, b, rfl, rfl, h⟩
def gIsNot : R2 := fun x y H Q => match y with
  | .non => Q (.bl (!decide (x = .non))) H
  | .bl b => ∃ a, x = .bl a ∧ Q (.bl (!decide (a = b))) H
  | _ => False
theorem g_isnot : OpR X (compareOp .IsNot) gIsNot := by
  intro pins s σ H x y v u Q I rx ry h
  cases y <;> first | exact h.elim | skip
  case non => exact op_notN pins s σ H _ _ v u Q I rx ry ⟨rfl, h⟩
  case bl b =>
    obtain ⟨a, rfl, h⟩ := h
    exact op_notBl pins s σ H _ _ v u Q I rx ry ⟨a, b, rfl, rfl, h⟩
/-- in: a sign in a text; a flat thing in a list or tuple of flat things -/
def gIn (K : PySem.W.Frag) : R2 := fun x y H Q => match x, y with
  | .str a, .str z => ∃ c, a = ⟨#[c]⟩ ∧ Q (.bl (decide (c ∈ z.cps.toList))) H
  | x, y => rIn K false x y H Q
theorem g_in : OpR X (compareOp .In) (gIn X.K) := by
  intro pins s σ H x y v u Q I rx ry h
  have two : (∃ a z, x = .str a ∧ y = .str z) ∨ rIn X.K false x y H Q := by
    cases x <;> cases y <;> first | exact .inl ⟨_, _, rfl, rfl⟩ | exact .inr h
  rcases two with ⟨a, z, rfl, rfl⟩ | h
  · obtain ⟨c, rfl, h⟩ := h
    exact op_in_sign pins s σ H _ _ v u Q I rx ry ⟨c, z, rfl, rfl, h⟩
  · exact op_in_seq pins s σ H _ _ v u Q I rx ry h
def gNotIn (K : PySem.W.Frag) : R2 := fun x y H Q => match x, y with
  | .str a, .str z => ∃ c, a = ⟨#[c]⟩ ∧ Q (.bl (!decide (c ∈ z.cps.toList))) H
  | x, y => rIn K true x y H Q
theorem g_notin : OpR X (compareOp .NotIn) (gNotIn X.K) := by
  intro pins s σ H x y v u Q I rx ry h
  have two : (∃ a z, x = .str a ∧ y = .str z) ∨ rIn X.K true x y H Q := by
    cases x <;> cases y <;> first | exact .inl ⟨_, _, rfl, rfl⟩ | exact .inr h
  rcases two with ⟨a, z, rfl, rfl⟩ | h
  · obtain ⟨c, rfl, h⟩ := h
    exact op_notIn_sign pins s σ H _ _ v u Q I rx ry ⟨c, z, rfl, rfl, h⟩
  · exact op_notIn_seq pins s σ H _ _ v u Q I rx ry h
/-- x[i] of a list, a tuple, a text -/
def gIx (K : PySem.W.Frag) : R2 := fun x y H Q => match x, y with
  | .ref p, .int i => ∃ xs v, (SqL K H p xs ∨ SqT K H p xs) ∧ atI xs i = some v ∧ Q v H
  | .str z, .int i => ∃ c, z.length ≤ sizeLine ∧ atI z.cps.toList i = some c ∧ Q (.str ⟨#[c]⟩) H
  | _, _ => False
theorem g_ix : IxR X (gIx X.K) := by
  intro value slice pins s σ H x y v u Q I rx ry h hs
  cases x <;> cases y <;> first | exact h.elim | skip
  case ref.int p i =>
    obtain ⟨xs, z, h1 | h1, h2, h3⟩ := h
    · exact ix_list value slice pins s σ H _ _ v u Q I rx ry ⟨p, xs, i, z, rfl, rfl, h1, h2, h3⟩ hs
    · exact ix_tup value slice pins s σ H _ _ v u Q I rx ry ⟨p, xs, i, z, rfl, rfl, h1, h2, h3⟩ hs
  case str.int z i =>
    obtain ⟨c, h1, h2, h3⟩ := h
    exact ix_str value slice pins s σ H _ _ v u Q I rx ry ⟨z, i, c, rfl, rfl, h1, h2, h3⟩ hs
/-- x[lo:hi] -/
def gSl (K : PySem.W.Frag) : V → Option Int → Option Int → Hp → VK → Prop := fun x lo hi H Q => match x with
  | .str z => z.length ≤ sizeLine ∧ Q (.str (cutS z lo hi)) H
  | .ref a => (∃ xs, SqL K H a xs ∧ ∀ p, H p = none → Q (.ref p) (upd H p (.lst (cutV xs lo hi)))) ∨ rSlA K (.ref a) lo hi H Q
  | _ => False
theorem g_sl : SlR X (gSl X.K) := by
  intro pins s σ H x v vl vu lo hi sl Q I rx hs pl pu h
  cases x <;> first | exact h.elim | skip
  case str z => exact sl_str pins s σ H _ v vl vu lo hi sl Q I rx hs pl pu ⟨z, rfl, h.1, h.2⟩
  case ref a =>
    rcases h with ⟨xs, h1, h2⟩ | h
    · exact sl_list pins s σ H _ v vl vu lo hi sl Q I rx hs pl pu ⟨a, xs, rfl, h1, h2⟩
    · exact sl_tupA pins s σ H _ v vl vu lo hi sl Q I rx hs pl pu h
/-- len -/
def gLen (K : PySem.W.Frag) : List V → Hp → VK → Prop := fun vs H Q => match vs with
  | [.ref p] => ∃ n : Nat, ((∃ ys, (SqL K H p ys ∨ SqT K H p ys) ∧ n = ys.length) ∨ ∃ kvs, H p = some (.dK kvs) ∧ n = kvs.length) ∧ Q (.int n) H
  | [.str z] => z.length ≤ sizeLine ∧ Q (.int z.length) H
  | _ => False
theorem g_len : CallR X (.builtin "len") (gLen X.K) := by
  intro pins s σ H xs us Q I r h
  match xs, h with
  | [.ref p], h =>
    obtain ⟨n, ⟨ys, h1, rfl⟩ | ⟨kvs, h1, rfl⟩, h2⟩ := h
    · exact call_len_seq pins s σ H _ us Q I r ⟨p, ys, rfl, h1, h2⟩
    · exact call_lenD pins s σ H _ us Q I r ⟨p, kvs, rfl, h1, h2⟩
  | [.str z], h => exact call_len_str pins s σ H _ us Q I r ⟨z, rfl, h.1, h.2⟩
/-- max of two numbers, or of a list of them -/
def gMax (K : PySem.W.Frag) : List V → Hp → VK → Prop := fun vs H Q => match vs with
  | [.int i, .int j] => Q (.int (max i j)) H
  | vs => rMax K vs H Q
theorem max_if (i j : Int) : (if j > i then j else i) = max i j := by omega
theorem min_if (i j : Int) : (if j < i then j else i) = min i j := by omega
theorem g_max (hc : X.calm = true) : CallR X (.builtin "max") (gMax X.K) := by
  intro pins s σ H xs us Q I r h
  have two : (∃ i j, xs = [.int i, .int j]) ∨ rMax X.K xs H Q := by
    unfold gMax at h
    split at h
    · exact .inl ⟨_, _, rfl⟩
    · exact .inr h
  rcases two with ⟨i, j, rfl⟩ | h
  · exact call_max2 hc pins s σ H _ us Q I r ⟨i, j, rfl, by rw [max_if]; exact h⟩
  · exact cr_max hc pins s σ H _ us Q I r h
def gMin (K : PySem.W.Frag) : List V → Hp → VK → Prop := fun vs H Q => match vs with
  | [.int i, .int j] => Q (.int (min i j)) H
  | vs => rMin K vs H Q
theorem g_min (hc : X.calm = true) : CallR X (.builtin "min") (gMin X.K) := by
  intro pins s σ H xs us Q I r h
  have two : (∃ i j, xs = [.int i, .int j]) ∨ rMin X.K xs H Q := by
    unfold gMin at h
    split at h
    · exact .inl ⟨_, _, rfl⟩
    · exact .inr h
  rcases two with ⟨i, j, rfl⟩ | h
  · exact call_min2 hc pins s σ H _ us Q I r ⟨i, j, rfl, by rw [min_if]; exact h⟩
  · exact cr_min hc pins s σ H _ us Q I r h
def gAbs : List V → Hp → VK → Prop := fun vs H Q => match vs with
  | [.int i] => Q (.int i.natAbs) H
  | _ => False
theorem g_abs : CallR X (.builtin "abs") gAbs := by
  intro pins s σ H xs us Q I r h
  match xs, h with
  | [.int i], h => exact call_abs pins s σ H _ us Q I r ⟨i, rfl, by
      have e : (if i < 0 then -i else i) = (i.natAbs : Int) := by omega
      rw [e]; exact h⟩
def gInt : List V → Hp → VK → Prop := fun vs H Q => match vs with
  | [.int i] => Q (.int i) H
  | [.bl b] => Q (.int (if b then 1 else 0)) H
  | [.str a] => ∃ n, PySem.intText? a = some n ∧ a.length ≤ 640 ∧ Q (.int n) H
  | _ => False
theorem g_int : CallR X (.type "int") gInt := by
  intro pins s σ H xs us Q I r h
  match xs, h with
  | [.int i], h => exact call_int1 pins s σ H _ us Q I r (.inl ⟨i, rfl, h⟩)
  | [.bl i], h => exact call_int1 pins s σ H _ us Q I r (.inr ⟨i, rfl, h⟩)
  | [.str a], h =>
    obtain ⟨n, h1, h2, h3⟩ := h
    exact call_int_str pins s σ H _ us Q I r ⟨a, n, rfl, h1, h2, h3⟩
def gStr : List V → Hp → VK → Prop := fun vs H Q => match vs with
  | [.int i] => i.natAbs.log2 < 1920 ∧ Q (.str (toString i)) H
  | _ => False
theorem g_str : CallR X (.type "str") gStr := by
  intro pins s σ H xs us Q I r h
  match xs, h with
  | [.int i], h => exact call_str_int pins s σ H _ us Q I r ⟨i, rfl, h.1, h.2⟩
/-- list(x): of a list, a tuple -/
def gList (K : PySem.W.Frag) : List V → Hp → VK → Prop := fun vs H Q => match vs with
  | [.ref p] => ∃ ys, (SqL K H p ys ∨ SqT K H p ys) ∧ ∀ l, H l = none → Q (.ref l) (upd H l (.lst ys))
  | _ => False
theorem g_list : CallR X (.type "list") (gList X.K) := by
  intro pins s σ H xs us Q I r h
  match xs, h with
  | [.ref p], h =>
    obtain ⟨ys, h1, h2⟩ := h
    exact call_list_of pins s σ H _ us Q I r ⟨p, ys, rfl, h1, h2⟩
def gTuple (K : PySem.W.Frag) : List V → Hp → VK → Prop := fun vs H Q => match vs with
  | [.ref p] => ∃ ys, ((SqL K H p ys ∧ ∀ l, H l = none → Q (.ref l) (upd H l (.tup ys))) ∨ (SqT K H p ys ∧ Q (.ref p) H))
  | _ => False
theorem g_tuple : CallR X (.type "tuple") (gTuple X.K) := by
  intro pins s σ H xs us Q I r h
  match xs, h with
  | [.ref p], h =>
    obtain ⟨ys, h1⟩ := h
    exact call_tuple_of pins s σ H _ us Q I r ⟨p, ys, rfl, h1⟩
def gDivmod : List V → Hp → VK → Prop := fun vs H Q => match vs with
  | [.int i, .int j] => CDiv i j ∧ ∀ p, H p = none → Q (.ref p) (upd H p (.tup [.int (i / j), .int (i % j)]))
  | _ => False
theorem g_divmod : CallR X (.builtin "divmod") gDivmod := by
  intro pins s σ H xs us Q I r h
  match xs, h with
  | [.int i, .int j], h => exact call_divmod pins s σ H _ us Q I r ⟨i, j, rfl, h.1, h.2⟩
end
end G

set_option Elab.async false
set_option linter.all false
set_option maxRecDepth 100000
set_option maxHeartbeats 4000000
/-! G3: steps through readings, loops over worlds, the tactics. -/
namespace G
open PySem L2
section
variable {X : Cx} {K : PySem.W.Frag}
theorem g_mul : OpR X (binaryOp .Mult) (gMul X.K) := by
  intro pins s σ H x y v u Q I rx ry h
  cases x <;> cases y <;> first | exact h.elim | skip
  case int.int i j =>
    rcases h with ⟨h | h, q⟩
    · exact op_mul pins s σ H _ _ v u Q I rx ry ⟨i, j, rfl, rfl, h, q⟩
    · exact op_mulW pins s σ H _ _ v u Q I rx ry ⟨i, j, rfl, rfl, h, q⟩
  case ref.int a k =>
    obtain ⟨xs, h1, h2, h3, h4, h5⟩ := h
    exact op_rep pins s σ H _ _ v u Q I rx ry ⟨a, k, xs, rfl, rfl, h1, h2, h3, h4, h5⟩
end

/-! ### kinds -/
def isInt : PyData → Bool | .int _ => true | .bool _ => true | _ => false
def isBool : PyData → Bool | .bool _ => true | _ => false
def isStr : PyData → Bool | .str _ => true | _ => false
def isList : PyData → Bool | .list _ => true | _ => false
def isTup : PyData → Bool | .tuple _ => true | _ => false
def isDict : PyData → Bool | .dict _ => true | _ => false
def tyN : PyData → String | .none => "NoneType" | .bool _ => "bool" | .int _ => "int" | .str _ => "str" | .list _ => "list" | .tuple _ => "tuple" | .dict _ => "dict"
theorem Rp.ty {K : PySem.W.Frag} {w : Wd} {x : V} {d : PyData} (h : Rp w.S x d) : TyX K w.H x (.type (tyN d)) := by
  cases h with
  | non => exact .base .non
  | bl b => exact .base (.bl b)
  | int i => exact .base (.int i)
  | str s => exact .base (.str s)
  | lst h1 _ => exact .base (.lst (w.ok _ _ h1))
  | tup h1 _ => exact .base (.tup (w.ok _ _ h1))
  | dct h1 => exact .base (.dK (w.ok _ _ h1))
def isT (T : String) (d : PyData) : Option Bool := kitB (tyN d) T
theorem s_isi {K : PySem.W.Frag} {w : Wd} {x : V} {d : PyData} {T : String} {b : Bool} {Q : VK} (h : Rp w.S x d) (e : isT T d = some b) (k : Q (.bl b) w.H) : rIsi K [x, .ty T] w.H Q :=
  ⟨x, .ty T, _, _, b, rfl, .ty T, h.ty, kit_ty e, k⟩
theorem isT_int : ∀ d : PyData, isT "int" d = some (isInt d)
  | .none => (by decide +kernel : kitB "NoneType" "int" = some false)
  | .bool _ => (by decide +kernel : kitB "bool" "int" = some true)
  | .int _ => (by decide +kernel : kitB "int" "int" = some true)
  | .str _ => (by decide +kernel : kitB "str" "int" = some false)
  | .list _ => (by decide +kernel : kitB "list" "int" = some false)
  | .tuple _ => (by decide +kernel : kitB "tuple" "int" = some false)
  | .dict _ => (by decide +kernel : kitB "dict" "int" = some false)
theorem isT_bool : ∀ d : PyData, isT "bool" d = some (isBool d)
  | .none => (by decide +kernel : kitB "NoneType" "bool" = some false)
  | .bool _ => (by decide +kernel : kitB "bool" "bool" = some true)
  | .int _ => (by decide +kernel : kitB "int" "bool" = some false)
  | .str _ => (by decide +kernel : kitB "str" "bool" = some false)
  | .list _ => (by decide +kernel : kitB "list" "bool" = some false)
  | .tuple _ => (by decide +kernel : kitB "tuple" "bool" = some false)
  | .dict _ => (by decide +kernel : kitB "dict" "bool" = some false)
theorem isT_str : ∀ d : PyData, isT "str" d = some (isStr d)
  | .none => (by decide +kernel : kitB "NoneType" "str" = some false)
  | .bool _ => (by decide +kernel : kitB "bool" "str" = some false)
  | .int _ => (by decide +kernel : kitB "int" "str" = some false)
  | .str _ => (by decide +kernel : kitB "str" "str" = some true)
  | .list _ => (by decide +kernel : kitB "list" "str" = some false)
  | .tuple _ => (by decide +kernel : kitB "tuple" "str" = some false)
  | .dict _ => (by decide +kernel : kitB "dict" "str" = some false)
theorem isT_list : ∀ d : PyData, isT "list" d = some (isList d)
  | .none => (by decide +kernel : kitB "NoneType" "list" = some false)
  | .bool _ => (by decide +kernel : kitB "bool" "list" = some false)
  | .int _ => (by decide +kernel : kitB "int" "list" = some false)
  | .str _ => (by decide +kernel : kitB "str" "list" = some false)
  | .list _ => (by decide +kernel : kitB "list" "list" = some true)
  | .tuple _ => (by decide +kernel : kitB "tuple" "list" = some false)
  | .dict _ => (by decide +kernel : kitB "dict" "list" = some false)
theorem isT_tup : ∀ d : PyData, isT "tuple" d = some (isTup d)
  | .none => (by decide +kernel : kitB "NoneType" "tuple" = some false)
  | .bool _ => (by decide +kernel : kitB "bool" "tuple" = some false)
  | .int _ => (by decide +kernel : kitB "int" "tuple" = some false)
  | .str _ => (by decide +kernel : kitB "str" "tuple" = some false)
  | .list _ => (by decide +kernel : kitB "list" "tuple" = some false)
  | .tuple _ => (by decide +kernel : kitB "tuple" "tuple" = some true)
  | .dict _ => (by decide +kernel : kitB "dict" "tuple" = some false)
theorem isT_dict : ∀ d : PyData, isT "dict" d = some (isDict d)
  | .none => (by decide +kernel : kitB "NoneType" "dict" = some false)
  | .bool _ => (by decide +kernel : kitB "bool" "dict" = some false)
  | .int _ => (by decide +kernel : kitB "int" "dict" = some false)
  | .str _ => (by decide +kernel : kitB "str" "dict" = some false)
  | .list _ => (by decide +kernel : kitB "list" "dict" = some false)
  | .tuple _ => (by decide +kernel : kitB "tuple" "dict" = some false)
  | .dict _ => (by decide +kernel : kitB "dict" "dict" = some true)

/-! ### steps -/
section
variable {X : Cx} {K : PySem.W.Frag} {σ σ' : L2.St} {H : Hp} {Q : VK} {v x y : V} {i n : Nat} {ta tb tc te : TE} {t u : TT} {r r' : R2} {D : Ends} {A : TA} {w : Wd} {vs : List V}
theorem s_seq {t u : TS} (k : t { D with nx := u D } σ H) : tSeq t u D σ H := k
theorem s_next (k : D.nx σ H) : tNext D σ H := k
theorem s_asg {g : TG} (k : te σ H fun x H1 => g x σ H1 D.nx) : tAsg te g D σ H := k
theorem s_gname {R : L2.St → Hp → Prop} (e : σ.set i (some v) = σ') (k : R σ' H) : gName i v σ H R := by subst e; exact k
theorem s_drop (k : te σ H fun _ H1 => D.nx σ H1) : tDrop te D σ H := k
theorem s_ret (k : te σ H D.rt) : tRet te D σ H := k
theorem s_retN (k : D.rt .non H) : tRetN D σ H := k
theorem s_break (k : D.bk σ H) : tBreak D σ H := k
theorem s_cont (k : D.ct σ H) : tCont D σ H := k
theorem s_ifS {c : TT} {t u : TS} (k : c σ H fun b H1 => if b = true then t D σ H1 else u D σ H1) : tIfS c t u D σ H := k
theorem s_aug {ti : TIp} (e : σ[i]? = some (some x)) (k : te σ H fun y H1 => ti x y H1 fun z H2 => D.nx (σ.set i (some z)) H2) : tAug i te ti D σ H := ⟨x, e, k⟩
theorem s_var (e : σ[i]? = some (some v)) (k : Q v H) : tVar i σ H Q := ⟨v, e, k⟩
theorem s_c (k : Q v H) : tC v σ H Q := k
theorem s_op (k : ta σ H fun x H1 => tb σ H1 fun y H2 => r x y H2 Q) : tOp r ta tb σ H Q := k
theorem s_un {r : V → Hp → VK → Prop} (k : ta σ H fun x H1 => r x H1 Q) : tUn r ta σ H Q := k
theorem s_neg {j : Int} (k : Q (.int (-j)) H) : (rU fun i => .int (-i)) (.int j) H Q := ⟨j, rfl, k⟩
theorem s_test {R : Bool → Hp → Prop} (k : te σ H fun x H' => ∃ k, x = .bl k ∧ R k H') : tTest te σ H R := k
theorem s_B {R : Bool → Hp → Prop} (k : te σ H fun x H1 => ∃ c, x = .bl c ∧ R c H1) : tB te σ H R := k
theorem s_bl {b : Bool} {P : Bool → Prop} (k : P b) : ∃ c, V.bl b = V.bl c ∧ P c := ⟨b, rfl, k⟩
theorem s_and {R : Bool → Hp → Prop} (k : t σ H fun c H1 => if c = true then u σ H1 R else R false H1) : tAnd t u σ H R := k
theorem s_or {R : Bool → Hp → Prop} (k : t σ H fun c H1 => if c = true then R true H1 else u σ H1 R) : tOr t u σ H R := k
theorem s_not {R : Bool → Hp → Prop} (k : t σ H fun c H1 => R (!c) H1) : tNot t σ H R := k
theorem s_andV (k : ta σ H fun x H1 => ∃ c, x = .bl c ∧ if c = true then tb σ H1 Q else Q (.bl false) H1) : tAndV ta tb σ H Q := k
theorem s_orV (k : ta σ H fun x H1 => ∃ c, x = .bl c ∧ if c = true then Q (.bl true) H1 else tb σ H1 Q) : tOrV ta tb σ H Q := k
theorem s_notV (k : ta σ H fun x H1 => ∃ c, x = .bl c ∧ Q (.bl (!c)) H1) : tNotV ta σ H Q := k
theorem s_ifE (k : t σ H fun c H1 => if c = true then ta σ H1 Q else tb σ H1 Q) : tIf t ta tb σ H Q := k
theorem s_chain (k : ta σ H fun x H1 => tb σ H1 fun y H2 => r x y H2 fun z H3 => ∃ k, z = .bl k ∧ (if k = true then tc σ H3 fun w' H4 => r' y w' H4 Q else Q (.bl false) H3)) : tChain r r' ta tb tc σ H Q := k
theorem s_nil {R : List V → Hp → Prop} (k : R [] H) : tNil σ H R := k
theorem s_cons {tr : TA} {R : List V → Hp → Prop} (k : ta σ H fun x H1 => tr σ H1 fun xs H2 => R (x :: xs) H2) : tCons ta tr σ H R := k
theorem s_CB {r : List V → Hp → VK → Prop} (k : A σ H fun vs H1 => r vs H1 Q) : tCB r A σ H Q := k
theorem s_call {sp : Sp} {dvs : List V} {E : XK} (k : A σ H fun vs H1 => sp (vs ++ dvs) H1 Q E) : tCall sp dvs E A σ H Q := k
theorem s_BM {T : String} {r : V → List V → Hp → VK → Prop} {to : TE} (k : to σ H fun x H1 => tyV K T x H1 ∧ A σ H1 fun xs H2 => r x xs H2 Q) : tBM K T r to A σ H Q := k
theorem s_BM0 {T : String} {r : V → List V → Hp → VK → Prop} {to : TE} (k : to σ H fun x H1 => tyV K T x H1 ∧ r x [] H1 Q) : tBM0 K T r to σ H Q := k
theorem s_sl {r : V → Option Int → Option Int → Hp → VK → Prop} {tl th : TO} (k : te σ H fun x H1 => tl σ H1 fun l H2 => th σ H2 fun u H3 => r x l u H3 Q) : tSl r te tl th σ H Q := k
theorem s_nopart {R : Option Int → Hp → Prop} (k : R none H) : tNoPart σ H R := k
theorem s_part {R : Option Int → Hp → Prop} (k : te σ H fun x H1 => ∃ i, x = .int i ∧ R (some i) H1) : tPart te σ H R := k
theorem s_int {j : Int} {P : Int → Prop} (k : P j) : ∃ i, V.int j = V.int i ∧ P i := ⟨j, rfl, k⟩
-- ints
theorem s_add {a b : Int} (k : Q (.int (a + b)) H) : gAdd K (.int a) (.int b) H Q := k
theorem s_adds {a b : Str} (h : a.length + b.length ≤ sizeLine) (k : Q (.str (a ++ b)) H) : gAdd K (.str a) (.str b) H Q := ⟨h, k⟩
theorem s_sub {a b : Int} (k : Q (.int (a - b)) H) : gSub (.int a) (.int b) H Q := k
theorem s_mul {a b : Int} (h : CMul a b ∨ CMulW a b) (k : Q (.int (a * b)) H) : gMul K (.int a) (.int b) H Q := ⟨h, k⟩
theorem s_div {a b : Int} (h : CDivW a b) (k : Q (.int (a / b)) H) : gDiv (.int a) (.int b) H Q := ⟨h, k⟩
theorem s_mod {a b : Int} (h : 0 < b) (k : Q (.int (a % b)) H) : gMod (.int a) (.int b) H Q := ⟨h, k⟩
theorem s_pow {a b : Int} (h : CPow a b) (k : Q (.int (a ^ b.toNat)) H) : gPow (.int a) (.int b) H Q := ⟨h, k⟩
theorem s_lt {a b : Int} (k : Q (.bl (decide (a < b))) H) : gLt (.int a) (.int b) H Q := k
theorem s_le {a b : Int} (k : Q (.bl (decide (a ≤ b))) H) : gLe (.int a) (.int b) H Q := k
theorem s_gt {a b : Int} (k : Q (.bl (decide (b < a))) H) : gGt (.int a) (.int b) H Q := k
theorem s_ge {a b : Int} (k : Q (.bl (decide (b ≤ a))) H) : gGe (.int a) (.int b) H Q := k
theorem s_eqI {a b : Int} (k : Q (.bl (decide (a = b))) H) : gEq K (.int a) (.int b) H Q := .inl ⟨rfl, by
  have e : decide (V.int a = V.int b) = decide (a = b) := by by_cases h : a = b <;> simp [h]
  rw [e]; exact k⟩
theorem s_eqS {a b : Str} (k : Q (.bl (decide (a = b))) H) : gEq K (.str a) (.str b) H Q := .inl ⟨rfl, by
  have e : decide (V.str a = V.str b) = decide (a = b) := by by_cases h : a = b <;> simp [h]
  rw [e]; exact k⟩
theorem s_eqB {a b : Bool} (k : Q (.bl (decide (a = b))) H) : gEq K (.bl a) (.bl b) H Q := .inl ⟨rfl, by
  have e : decide (V.bl a = V.bl b) = decide (a = b) := by by_cases h : a = b <;> simp [h]
  rw [e]; exact k⟩
theorem s_neI {a b : Int} (k : Q (.bl (decide (a ≠ b))) H) : gNe K (.int a) (.int b) H Q := .inl ⟨rfl, by
  have e : (!decide (V.int a = V.int b)) = decide (a ≠ b) := by by_cases h : a = b <;> simp [h]
  rw [e]; exact k⟩
theorem s_neS {a b : Str} (k : Q (.bl (decide (a ≠ b))) H) : gNe K (.str a) (.str b) H Q := .inl ⟨rfl, by
  have e : (!decide (V.str a = V.str b)) = decide (a ≠ b) := by by_cases h : a = b <;> simp [h]
  rw [e]; exact k⟩
theorem s_isN (k : Q (.bl (decide (x = .non))) H) : gIs x .non H Q := k
theorem s_isB {a b : Bool} (k : Q (.bl (decide (a = b))) H) : gIs (.bl a) (.bl b) H Q := ⟨a, rfl, k⟩
theorem s_notN (k : Q (.bl (!decide (x = .non))) H) : gIsNot x .non H Q := k
theorem s_notB {a b : Bool} (k : Q (.bl (!decide (a = b))) H) : gIsNot (.bl a) (.bl b) H Q := ⟨a, rfl, k⟩
theorem s_max {a b : Int} (k : Q (.int (max a b)) H) : gMax K [.int a, .int b] H Q := k
theorem s_min {a b : Int} (k : Q (.int (min a b)) H) : gMin K [.int a, .int b] H Q := k
theorem s_abs {a : Int} (k : Q (.int a.natAbs) H) : gAbs [.int a] H Q := k
theorem s_inti {a : Int} (k : Q (.int a) H) : gInt [.int a] H Q := k
theorem s_intb {a : Bool} (k : Q (.int (if a then 1 else 0)) H) : gInt [.bl a] H Q := k
theorem s_str {a : Int} (h : a.natAbs.log2 < 1920) (k : Q (.str (toString a)) H) : gStr [.int a] H Q := ⟨h, k⟩
theorem s_ip {a b : Int} (k : Q (.int (a + b)) H) : (fun x y H Q => ∃ i j, x = V.int i ∧ y = V.int j ∧ Q (V.int (i + j)) H) (V.int a) (V.int b) H Q := ⟨a, b, rfl, rfl, k⟩
-- tuples, lists
theorem s_tup (k : A σ H fun xs H1 => xs.length ≤ sizeLine ∧ ∀ p, H1 p = none → Q (.ref p) (upd H1 p (.tup xs))) : tTup A σ H Q := k
theorem s_lst (k : A σ H fun xs H1 => xs.length ≤ sizeLine ∧ ∀ p, H1 p = none → Q (.ref p) (upd H1 p (.lst xs))) : tLst A σ H Q := k
/-- a tuple stands for good -/
theorem s_newT (h : vs.length ≤ sizeLine) (k : ∀ p v, Ext Non w v → w.H p = none → v.S p = some (.tup vs) → Q (.ref p) v.H) : vs.length ≤ sizeLine ∧ ∀ p, w.H p = none → Q (.ref p) (upd w.H p (.tup vs)) := ⟨h, newS k⟩
theorem s_newL (h : vs.length ≤ sizeLine) (k : ∀ p v, Ext Non w v → w.H p = none → Own v p (.lst vs) → Q (.ref p) v.H) : vs.length ≤ sizeLine ∧ ∀ p, w.H p = none → Q (.ref p) (upd w.H p (.lst vs)) := ⟨h, newO k⟩
theorem s_ixT {p : Addr} {j : Int} (h : w.S p = some (.tup vs)) (e : atI vs j = some v) (k : Q v w.H) : gIx K (.ref p) (.int j) w.H Q := ⟨vs, v, .inr (SqT.of (w.ok _ _ h)), e, k⟩
theorem s_ixL {p : Addr} {j : Int} (h : w.S p = some (.lst vs)) (e : atI vs j = some v) (k : Q v w.H) : gIx K (.ref p) (.int j) w.H Q := ⟨vs, v, .inl (SqL.of (w.ok _ _ h)), e, k⟩
theorem s_ixO {p : Addr} {j : Int} (h : Own w p (.lst vs)) (e : atI vs j = some v) (k : Q v w.H) : gIx K (.ref p) (.int j) w.H Q := ⟨vs, v, .inl (SqL.of h.h), e, k⟩
theorem s_lenT {p : Addr} (h : w.S p = some (.tup vs)) (k : Q (.int vs.length) w.H) : gLen K [.ref p] w.H Q := ⟨_, .inl ⟨vs, .inr (SqT.of (w.ok _ _ h)), rfl⟩, k⟩
theorem s_lenL {p : Addr} (h : w.S p = some (.lst vs)) (k : Q (.int vs.length) w.H) : gLen K [.ref p] w.H Q := ⟨_, .inl ⟨vs, .inl (SqL.of (w.ok _ _ h)), rfl⟩, k⟩
theorem s_lenO {p : Addr} (h : Own w p (.lst vs)) (k : Q (.int vs.length) w.H) : gLen K [.ref p] w.H Q := ⟨_, .inl ⟨vs, .inl (SqL.of h.h), rfl⟩, k⟩
theorem s_lenK {p : Addr} (h : SqL K w.H p vs) (k : Q (.int vs.length) w.H) : gLen K [.ref p] w.H Q := ⟨_, .inl ⟨vs, .inl h, rfl⟩, k⟩
/-- xs.append(y), xs one's own -/
theorem s_append {l : Addr} (h : Own w l (.lst vs)) (z : vs.length < sizeLine) (k : ∀ v, Ext (One l) w v → Own v l (.lst (vs ++ [y])) → Q .non v.H) : tyV K "list" (.ref l) w.H → rAppend (.ref l) [y] w.H Q :=
  fun _ => ⟨l, vs, y, rfl, rfl, h.h, z, put (R := Q .non) h k⟩
theorem s_setL {l : Addr} {j : Int} {m : Nat} {R : Hp → Prop} (h : Own w l (.lst vs)) (e : ixN vs.length j = some m) (k : ∀ u, Ext (One l) w u → Own u l (.lst (vs.set m v)) → R u.H) : rSetL (.ref l) (.int j) v w.H R :=
  ⟨l, vs, j, m, rfl, rfl, h.h, e, put (R := R) h k⟩
theorem ty_own {l : Addr} (h : Own w l (.lst vs)) : tyV K "list" (.ref l) w.H := .inl ⟨rfl, vs, SqL.of h.h⟩
-- dicts
theorem s_dget {td ty : TE} (k : td σ H fun x H1 => ty σ H1 fun y H2 => ∃ a v, x = .ref a ∧ DGet H2 a y (some v) ∧ Q v H2) : tDGet td ty σ H Q := k
theorem s_dgetO {a : Addr} {kvs : List (Key × V)} {k : Key} {P : V → Hp → Prop} (h : Own w a (.dK kvs)) (e : valV kvs k = some v) (q : P v w.H) : ∃ b z, V.ref a = V.ref b ∧ DGet w.H b (kV k) (some z) ∧ P z w.H := ⟨a, v, rfl, by rw [← e]; exact DGet.k h.h, q⟩
theorem s_dput {td ty tv : TE} (k : tv σ H fun v H1 => td σ H1 fun x H2 => ty σ H2 fun y H3 => ∃ a H4, x = .ref a ∧ DPut H3 a y v H4 ∧ D.nx σ H4) : sDPut td ty tv D σ H := k
theorem s_dputO {a : Addr} {kvs : List (Key × V)} {k : Key} {R : Hp → Prop} (h : Own w a (.dK kvs)) (z : kvs.length < sizeLine) (q : ∀ u, Ext (One a) w u → Own u a (.dK (putK kvs k v)) → R u.H) : ∃ b H4, V.ref a = V.ref b ∧ DPut w.H b (kV k) v H4 ∧ R H4 :=
  ⟨a, _, rfl, DPut.k h.h z, put (R := R) h q⟩
theorem ite_t {A B : Prop} {c : Bool} (h : c = true) (k : A) : if c = true then A else B := by rw [if_pos h]; exact k
theorem ite_f {A B : Prop} {c : Bool} (h : c = false) (k : B) : if c = true then A else B := by rw [h]; exact k
theorem ite_b {A B : Prop} {c : Bool} (k1 : c = true → A) (k2 : c = false → B) : if c = true then A else B := by
  cases c with
  | true => exact k1 rfl
  | false => exact k2 rfl
theorem ite_d {A B p : Prop} [Decidable p] (k1 : p → A) (k2 : ¬ p → B) : if decide p = true then A else B := by
  by_cases h : p
  · rw [decide_eq_true h]; exact k1 h
  · rw [decide_eq_false h]; exact k2 h
theorem ite_nd {A B p : Prop} [Decidable p] (k1 : ¬ p → A) (k2 : p → B) : if (!decide p) = true then A else B := by
  by_cases h : p
  · rw [decide_eq_true h]; exact k2 h
  · rw [decide_eq_false h]; exact k1 h
theorem ite_n {A B : Prop} {c : Bool} (k1 : c = false → A) (k2 : c = true → B) : if (!c) = true then A else B := by
  cases c with
  | true => exact k2 rfl
  | false => exact k1 rfl
end

/-! ### loops over worlds -/
/-- an iterator by worlds -/
structure WWalk (J : It) (n : Nat) (G : Wd → Prop) (Y : Nat → Wd → V → Wd → Prop) : Prop where
  goes : ∀ i w, i < n → G w → J.go i w.H
  stops : ∀ w, G w → J.stop n w.H
  yields : ∀ i w x H', i < n → G w → J.yld i w.H x H' → ∃ v : Wd, v.H = H' ∧ Y i w x v
def wds (P : L2.St → Wd → Prop) : L2.St → Hp → Prop := fun σ H => ∃ u : Wd, u.H = H ∧ P σ u
theorem wds_i {P : L2.St → Wd → Prop} {σ : L2.St} {w : Wd} (h : P σ w) : wds P σ w.H := ⟨w, rfl, h⟩
section
variable {J : It} {n : Nat} {G : Wd → Prop} {Y : Nat → Wd → V → Wd → Prop} {K : PySem.W.Frag}
theorem forW (k : WWalk J n G Y) {g : TG} {tb : TS} {D : Ends} {σ : L2.St} {w : Wd} (Pv : Nat → L2.St → Wd → Prop) (h0 : Pv 0 σ w) (hG : ∀ i σ w, i ≤ n → Pv i σ w → G w)
    (hs : ∀ i x σ w v, i < n → Pv i σ w → Y i w x v → g x σ v.H fun σ2 H2 => tb { D with nx := wds (Pv (i + 1)), ct := wds (Pv (i + 1)), bk := D.nx } σ2 H2) (hd : ∀ σ w, Pv n σ w → D.nx σ w.H) :
    ∃ W : Nat → Nat → L2.St → Hp → Prop, (∃ m, W 0 m σ w.H) ∧ ∀ i m σ H, W i m σ H →
      (J.stop i H ∧ D.nx σ H) ∨ (J.go i H ∧ ∃ N : L2.St → Hp → Prop, (∀ σ' H', N σ' H' → ∃ m', m' < m ∧ W (i + 1) m' σ' H') ∧ ∀ x H', J.yld i H x H' → g x σ H' fun σ2 H2 => tb { D with nx := N, ct := N, bk := D.nx } σ2 H2) := by
  refine ⟨fun i m σ H => m = n - i ∧ i ≤ n ∧ wds (Pv i) σ H, ⟨n, by simp, Nat.zero_le _, w, rfl, h0⟩, ?_⟩
  rintro i m σ H ⟨rfl, hi, u, rfl, p⟩
  have q := hG i σ u hi p
  by_cases hlt : i < n
  · refine .inr ⟨k.goes i u hlt q, wds (Pv (i + 1)), fun σ' H' p' => ⟨n - (i + 1), by omega, rfl, hlt, p'⟩, fun x H' y => ?_⟩
    obtain ⟨v, rfl, yv⟩ := k.yields i u x H' hlt q y
    exact hs i x σ u v hlt p yv
  · have e : i = n := by omega
    subst e
    exact .inl ⟨k.stops u q, hd σ u p⟩
/-- a comprehension: the new list at D holds acc -/
def lcN (D : Addr) (P : Wd → List V → Prop) : Hp → Prop := fun H => ∃ (u : Wd) (acc : List V), u.H = H ∧ Own u D (.lst acc) ∧ P u acc
theorem lcN_i {D : Addr} {P : Wd → List V → Prop} {u : Wd} {acc : List V} (o : Own u D (.lst acc)) (h : P u acc) : lcN D P u.H := ⟨u, acc, rfl, o, h⟩
theorem lc_put {D : Addr} {P : Wd → List V → Prop} {u : Wd} {acc : List V} {y : V} (o : Own u D (.lst acc)) (z : acc.length < sizeLine) (k : ∀ v, Ext (One D) u v → Own v D (.lst (acc ++ [y])) → P v (acc ++ [y])) :
    ∃ acc, u.H D = some (.lst acc) ∧ acc.length < sizeLine ∧ lcN D P (upd u.H D (.lst (acc ++ [y]))) :=
  ⟨acc, o.h, z, put (R := lcN D P) o fun v e ov => ⟨v, _, rfl, ov, k v e ov⟩⟩
theorem lcW (k : WWalk J n G Y) {g : TG} {tt : TT} {te : TE} {vs : List Nat} {σ : L2.St} {w : Wd} {D : Addr} {Qd : Hp → Prop} (Pv : Nat → Wd → List V → Prop) (hD : w.H D = none)
    (h0 : ∀ u, Ext Non w u → Own u D (.lst []) → Pv 0 u []) (hG : ∀ i u acc, i ≤ n → Pv i u acc → G u)
    (hs : ∀ i x u v acc, i < n → Own u D (.lst acc) → Pv i u acc → Y i u x v → g x (wipe σ vs) v.H fun σ2 H2 => wipe σ2 vs = wipe σ vs ∧ tt σ2 H2 fun b H3 =>
      if b = true then te σ2 H3 fun y H4 => ∃ acc, H4 D = some (.lst acc) ∧ acc.length < sizeLine ∧ lcN D (Pv (i + 1)) (upd H4 D (.lst (acc ++ [y]))) else lcN D (Pv (i + 1)) H3)
    (hd : ∀ u acc, Pv n u acc → Own u D (.lst acc) → Qd u.H) :
    ∃ W : Nat → Nat → Hp → Prop, (∃ m, W 0 m (upd w.H D (.lst []))) ∧ ∀ i m H, W i m H →
      (J.stop i H ∧ Qd H) ∨ (J.go i H ∧ ∃ Nx : Hp → Prop, (∀ H', Nx H' → ∃ m', m' < m ∧ W (i + 1) m' H') ∧ ∀ x H', J.yld i H x H' → g x (wipe σ vs) H' fun σ2 H2 => wipe σ2 vs = wipe σ vs ∧ tt σ2 H2 fun b H3 =>
        if b = true then te σ2 H3 fun y H4 => ∃ acc, H4 D = some (.lst acc) ∧ acc.length < sizeLine ∧ Nx (upd H4 D (.lst (acc ++ [y]))) else Nx H3) := by
  refine ⟨fun i m H => m = n - i ∧ i ≤ n ∧ lcN D (Pv i) H, ⟨n, by simp, Nat.zero_le _, ?_⟩, ?_⟩
  · have z := newO (w := w) (o := .lst []) (Q := fun _ H => H = upd w.H D (.lst []) → lcN D (Pv 0) (upd w.H D (.lst []))) (fun p v e hp o hq => ?_) D hD rfl
    · exact z
    · have ep : p = D := by
        by_cases ep : p = D
        · exact ep
        · have h1 : v.H p = some (.lst []) := o.h
          rw [hq, upd_ne ep, hp] at h1
          cases h1
      subst ep
      exact ⟨v, [], hq, o, h0 v e o⟩
  rintro i m H ⟨rfl, hi, u, acc, rfl, o, p⟩
  have q := hG i u acc hi p
  by_cases hlt : i < n
  · refine .inr ⟨k.goes i u hlt q, lcN D (Pv (i + 1)), fun H' p' => ⟨n - (i + 1), by omega, rfl, hlt, p'⟩, fun x H' y => ?_⟩
    obtain ⟨v, rfl, yv⟩ := k.yields i u x H' hlt q y
    exact hs i x u v acc hlt o p yv
  · have e : i = n := by omega
    subst e
    exact .inl ⟨k.stops u q, hd u acc p o⟩
theorem s_Lc {wi : TI} {g : TG} {tt : TT} {te : TE} {vs : List Nat} {σ : L2.St} {H : Hp} {Q : VK} (k : wi σ H fun J H1 => ∀ D, H1 D = none → ∃ W : Nat → Nat → Hp → Prop, (∃ m, W 0 m (upd H1 D (.lst []))) ∧ ∀ i m H, W i m H →
  (J.stop i H ∧ Q (.ref D) H) ∨ (J.go i H ∧ ∃ Nx : Hp → Prop, (∀ H', Nx H' → ∃ m', m' < m ∧ W (i + 1) m' H') ∧ ∀ x H', J.yld i H x H' → g x (wipe σ vs) H' fun σ2 H2 => wipe σ2 vs = wipe σ vs ∧ tt σ2 H2 fun b H3 =>
    if b = true then te σ2 H3 fun y H4 => ∃ acc, H4 D = some (.lst acc) ∧ acc.length < sizeLine ∧ Nx (upd H4 D (.lst (acc ++ [y]))) else Nx H3)) : tLc wi g tt te vs σ H Q := k
def YI (xs : List V) : Nat → Wd → V → Wd → Prop := fun i w x v => v = w ∧ xs[i]? = some x
theorem ww_list {a : Addr} {xs : List V} : WWalk (Itl K a) xs.length (fun w => SqL K w.H a xs) (YI xs) :=
  ⟨fun i w h q => (walk_list (K := K)).goes i w.H h q, fun w q => (walk_list (K := K)).stops w.H q, fun i w x H' h q y => by
    obtain ⟨e, h2⟩ := (walk_list (K := K)).yields i w.H x H' h q y
    exact ⟨w, e.symm, rfl, h2⟩⟩
theorem ww_tup {a : Addr} {xs : List V} : WWalk (Itt K a) xs.length (fun w => SqT K w.H a xs) (YI xs) :=
  ⟨fun i w h q => (walk_tup (K := K)).goes i w.H h q, fun w q => (walk_tup (K := K)).stops w.H q, fun i w x H' h q y => by
    obtain ⟨e, h2⟩ := (walk_tup (K := K)).yields i w.H x H' h q y
    exact ⟨w, e.symm, rfl, h2⟩⟩
theorem ww_range {lo : Int} {m : Nat} : WWalk (Itr lo m) m (fun _ => True) (fun i w x v => v = w ∧ x = .int (lo + i)) :=
  ⟨fun i w h q => walk_range.goes i w.H h q, fun w q => walk_range.stops w.H q, fun i w x H' h q y => by
    obtain ⟨e, h2⟩ := walk_range.yields i w.H x H' h q y
    exact ⟨w, e.symm, rfl, h2⟩⟩
theorem ww_str {z : Str} : WWalk (Its z) z.cps.size (fun _ => True) (fun i w x v => v = w ∧ ∃ c, z.cps[i]? = some c ∧ x = .str ⟨#[c]⟩) :=
  ⟨fun i w h q => walk_str.goes i w.H h q, fun w q => walk_str.stops w.H q, fun i w x H' h q y => by
    obtain ⟨e, h2⟩ := walk_str.yields i w.H x H' h q y
    exact ⟨w, e.symm, rfl, h2⟩⟩
theorem s_for {wi : TI} {g : TG} {tb : TS} {D : Ends} {σ : L2.St} {H : Hp} (k : wi σ H fun J H1 => ∃ W : Nat → Nat → L2.St → Hp → Prop, (∃ m, W 0 m σ H1) ∧ ∀ i m σ H, W i m σ H →
  (J.stop i H ∧ D.nx σ H) ∨ (J.go i H ∧ ∃ N : L2.St → Hp → Prop, (∀ σ' H', N σ' H' → ∃ m', m' < m ∧ W (i + 1) m' σ' H') ∧ ∀ x H', J.yld i H x H' → g x σ H' fun σ2 H2 => tb { D with nx := N, ct := N, bk := D.nx } σ2 H2)) : tFor wi g tb D σ H := k
theorem s_iList {te : TE} {σ : L2.St} {H : Hp} {R : It → Hp → Prop} (k : te σ H fun x H1 => ∃ a, x = .ref a ∧ (∃ xs, SqL K H1 a xs) ∧ R (Itl K a) H1) : iList K te σ H R := k
theorem s_iListK {a : Addr} {xs : List V} {H1 : Hp} {R : It → Hp → Prop} (h : SqL K H1 a xs) (k : R (Itl K a) H1) : ∃ b, V.ref a = V.ref b ∧ (∃ xs, SqL K H1 b xs) ∧ R (Itl K b) H1 := ⟨a, rfl, ⟨xs, h⟩, k⟩
theorem s_iTup {te : TE} {σ : L2.St} {H : Hp} {R : It → Hp → Prop} (k : te σ H fun x H1 => ∃ a, x = .ref a ∧ (∃ xs, SqT K H1 a xs) ∧ R (Itt K a) H1) : iTup K te σ H R := k
theorem s_iTupK {a : Addr} {xs : List V} {H1 : Hp} {R : It → Hp → Prop} (h : SqT K H1 a xs) (k : R (Itt K a) H1) : ∃ b, V.ref a = V.ref b ∧ (∃ xs, SqT K H1 b xs) ∧ R (Itt K b) H1 := ⟨a, rfl, ⟨xs, h⟩, k⟩
theorem s_iRng1 {ta : TA} {σ : L2.St} {H : Hp} {R : It → Hp → Prop} (k : ta σ H fun vs H1 => ∃ j : Int, vs = [.int j] ∧ -(2 ^ 62) ≤ j ∧ j < 2 ^ 62 ∧ R (Itr 0 j.toNat) H1) : iRng1 ta σ H R := k
theorem s_iRng1K {j : Int} {H1 : Hp} {R : It → Hp → Prop} (h1 : -(2 ^ 62) ≤ j) (h2 : j < 2 ^ 62) (k : R (Itr 0 j.toNat) H1) : ∃ i : Int, [V.int j] = [V.int i] ∧ -(2 ^ 62) ≤ i ∧ i < 2 ^ 62 ∧ R (Itr 0 i.toNat) H1 := ⟨j, rfl, h1, h2, k⟩
theorem s_iStr {te : TE} {σ : L2.St} {H : Hp} {R : It → Hp → Prop} (k : te σ H fun v H1 => ∃ x, v = .str x ∧ R (Its x) H1) : iStr te σ H R := k
end
end G
namespace G
open PySem L2
theorem nm_one {l k : Addr} (h : l ≠ k) : ¬ One k l := h
theorem nm_two {l a b : Addr} (h : l ≠ a) (h2 : l ≠ b) : ¬ Two a b l := fun z => z.elim h h2
theorem own_ne {w : Wd} {l k : Addr} {o u : HO} (h : Own w l o) (h' : Own w k u) (d : o ≠ u) : l ≠ k := ne_of h.h h'.h d
theorem sq_go {K : PySem.W.Frag} {w v : Wd} {a : Addr} {xs : List V} {m : Addr → Prop} (e : Ext m w v) (h : SqL K w.S a xs) : SqL K v.S a xs := e.st.seq h
theorem tch_one {u : Wd} {m : Addr → Prop} {k : Addr} (h : u.H k = none ∨ m k) : ∀ l, One k l → u.H l = none ∨ m l := fun l e => by
  have e : l = k := e
  rw [e]; exact h
theorem tch_two {u : Wd} {m : Addr → Prop} {k j : Addr} (h : u.H k = none ∨ m k) (h2 : u.H j = none ∨ m j) : ∀ l, Two k j l → u.H l = none ∨ m l := fun l e => by
  rcases e with e | e <;> rw [e] <;> assumption
theorem ite_tt {A B : Prop} (k : A) : if true = true then A else B := by rw [if_pos rfl]; exact k
theorem ite_ff {A B : Prop} (k : B) : if false = true then A else B := by rw [if_neg (by decide)]; exact k
/-! promises by arity -/
def pr0 (P : Wd → VK → XK → Prop) : Sp := fun vs H Q E => ∃ w : Wd, w.H = H ∧ vs = [] ∧ P w Q E
def pr1 (P : Wd → V → VK → XK → Prop) : Sp := fun vs H Q E => ∃ (w : Wd) (a : V), w.H = H ∧ vs = [a] ∧ P w a Q E
def pr2 (P : Wd → V → V → VK → XK → Prop) : Sp := fun vs H Q E => ∃ (w : Wd) (a b : V), w.H = H ∧ vs = [a, b] ∧ P w a b Q E
def pr3 (P : Wd → V → V → V → VK → XK → Prop) : Sp := fun vs H Q E => ∃ (w : Wd) (a b c : V), w.H = H ∧ vs = [a, b, c] ∧ P w a b c Q E
def pr4 (P : Wd → V → V → V → V → VK → XK → Prop) : Sp := fun vs H Q E => ∃ (w : Wd) (a b c d : V), w.H = H ∧ vs = [a, b, c, d] ∧ P w a b c d Q E
section
variable {vs : List V} {H : Hp} {Q : VK} {E : XK} {w : Wd} {a b c d : V}
theorem len0 {P} (h : pr0 P vs H Q E) : vs.length = 0 := by obtain ⟨_, _, rfl, _⟩ := h; rfl
theorem len1 {P} (h : pr1 P vs H Q E) : vs.length = 1 := by obtain ⟨_, _, _, rfl, _⟩ := h; rfl
theorem len2 {P} (h : pr2 P vs H Q E) : vs.length = 2 := by obtain ⟨_, _, _, _, rfl, _⟩ := h; rfl
theorem len3 {P} (h : pr3 P vs H Q E) : vs.length = 3 := by obtain ⟨_, _, _, _, _, rfl, _⟩ := h; rfl
theorem len4 {P} (h : pr4 P vs H Q E) : vs.length = 4 := by obtain ⟨_, _, _, _, _, _, rfl, _⟩ := h; rfl
theorem s_pr0 {P} (h : P w Q E) : pr0 P ([] ++ []) w.H Q E := ⟨w, rfl, rfl, h⟩
theorem s_pr1 {P} (h : P w a Q E) : pr1 P ([a] ++ []) w.H Q E := ⟨w, a, rfl, rfl, h⟩
theorem s_pr2 {P} (h : P w a b Q E) : pr2 P ([a, b] ++ []) w.H Q E := ⟨w, a, b, rfl, rfl, h⟩
theorem s_pr3 {P} (h : P w a b c Q E) : pr3 P ([a, b, c] ++ []) w.H Q E := ⟨w, a, b, c, rfl, rfl, h⟩
theorem s_pr4 {P} (h : P w a b c d Q E) : pr4 P ([a, b, c, d] ++ []) w.H Q E := ⟨w, a, b, c, d, rfl, rfl, h⟩
end
/-! a def by its name -/
structure Fnc (P : Program) (w : World) (K : PySem.W.Frag) (mg : Str → Option Value) (base : Heap) (CX : CXT) (k : Nat) (x : Str) (sp : Sp) : Prop where
  ex : ∃ (f : Addr) (fd : FuncData) (ps : List Str), FnOk P w K mg base CX k f fd ps sp ∧ mg x = some (.ref f) ∧ PySem.W.keepIn K (.ref f) = true ∧ Binds K fd ps []
section
variable {X : Cx} {k j : Nat} {x : Str} {sp : Sp} {p pos : Pos} {e : Expr} {es : List Expr} {t : TA} {CX : CXT} {E : XK}
theorem pe_fn (c : Fnc X.prog X.w X.K X.mg X.base CX k x sp) (hr : Room j X.A) (hk : k ≤ j) (hx : Passes CX X E) (ha : PA X (e :: es) t) (hg : Gl X x := by rfl)
    (he : starEach (e :: es) X.env = (false, eval e X.env) :: starEach es X.env := by rfl) (hpl : (backTo pos (starEach es X.env)).any (·.1) = false := by rfl) (hd : (x == ("__debug__" : Str)) = false := by decide) :
    PE X (.Call (.Name x p) (e :: es) [] pos) (tCall sp [] E t) := by
  obtain ⟨f, fd, ps, F, hm, hkp, hb⟩ := c.ex
  exact pe_call F (hr.mono hk) hg hm hkp hb .nil hx ha hd he hpl
theorem pe_fn0 (c : Fnc X.prog X.w X.K X.mg X.base CX k x sp) (hr : Room j X.A) (hk : k ≤ j) (hx : Passes CX X E) (hg : Gl X x := by rfl) (hd : (x == ("__debug__" : Str)) = false := by decide) :
    PE X (.Call (.Name x p) [] [] pos) (tCall sp [] E tNil) := by
  obtain ⟨f, fd, ps, F, hm, hkp, hb⟩ := c.ex
  exact pe_call0 F (hr.mono hk) hg hm hkp hb .nil hx hd
end
end G
namespace G
open PySem L2
section
variable {X : Cx}
theorem kAdd (K : PySem.W.Frag) (e : X.K = K := by rfl) : OpR X (binaryOp .Add) (gAdd K) := e ▸ g_add
theorem kMul (K : PySem.W.Frag) (e : X.K = K := by rfl) : OpR X (binaryOp .Mult) (gMul K) := e ▸ g_mul
theorem kEq (K : PySem.W.Frag) (hu : X.A.units + 64 < cLine) (e : X.K = K := by rfl) : OpR X (compareOp .Eq) (gEq K) := e ▸ g_eq hu
theorem kNe (K : PySem.W.Frag) (hu : X.A.units + 64 < cLine) (e : X.K = K := by rfl) : OpR X (compareOp .NotEq) (gNe K) := e ▸ g_ne hu
theorem kIn (K : PySem.W.Frag) (e : X.K = K := by rfl) : OpR X (compareOp .In) (gIn K) := e ▸ g_in
theorem kNotIn (K : PySem.W.Frag) (e : X.K = K := by rfl) : OpR X (compareOp .NotIn) (gNotIn K) := e ▸ g_notin
theorem kIx (K : PySem.W.Frag) (e : X.K = K := by rfl) : IxR X (gIx K) := e ▸ g_ix
theorem kSl (K : PySem.W.Frag) (e : X.K = K := by rfl) : SlR X (gSl K) := e ▸ g_sl
theorem kLen (K : PySem.W.Frag) (e : X.K = K := by rfl) : CallR X (.builtin "len") (gLen K) := e ▸ g_len
theorem kMax (K : PySem.W.Frag) (hc : X.calm = true) (e : X.K = K := by rfl) : CallR X (.builtin "max") (gMax K) := e ▸ g_max hc
theorem kMin (K : PySem.W.Frag) (hc : X.calm = true) (e : X.K = K := by rfl) : CallR X (.builtin "min") (gMin K) := e ▸ g_min hc
theorem kAll (K : PySem.W.Frag) (hc : X.calm = true) (e : X.K = K := by rfl) : CallR X (.builtin "all") (rAll K) := e ▸ cr_all hc
theorem kAny (K : PySem.W.Frag) (hc : X.calm = true) (e : X.K = K := by rfl) : CallR X (.builtin "any") (rAny K) := e ▸ cr_any hc
theorem kSum (K : PySem.W.Frag) (hc : X.calm = true) (e : X.K = K := by rfl) : CallR X (.builtin "sum") (rSum K) := e ▸ cr_sum hc
theorem kSortedI (K : PySem.W.Frag) (e : X.K = K := by rfl) : CallR X (.builtin "sorted") (rSortedI K) := e ▸ cr_sortedI
theorem kSortedP (K : PySem.W.Frag) (e : X.K = K := by rfl) : CallR X (.builtin "sorted") (rSortedPO K) := e ▸ cr_sortedPO
theorem kList (K : PySem.W.Frag) (e : X.K = K := by rfl) : CallR X (.type "list") (gList K) := e ▸ g_list
theorem kTuple (K : PySem.W.Frag) (e : X.K = K := by rfl) : CallR X (.type "tuple") (gTuple K) := e ▸ g_tuple
theorem kIsi (K : PySem.W.Frag) (e : X.K = K := by rfl) : CallR X (.builtin "isinstance") (rIsi K) := e ▸ call_isi
theorem kIsiT (K : PySem.W.Frag) (e : X.K = K := by rfl) : CallR X (.builtin "isinstance") (rIsiT K) := e ▸ call_isiT
theorem kpList (K : PySem.W.Frag) {tg l : Expr} {tl : TE} (hl : PE X l tl) (e : X.K = K := by rfl) : PI X tg l (iList K tl) := e ▸ pi_list hl
theorem kpTup (K : PySem.W.Frag) {tg l : Expr} {tl : TE} (hl : PE X l tl) (e : X.K = K := by rfl) : PI X tg l (iTup K tl) := e ▸ pi_tup hl
theorem kgTup (K : PySem.W.Frag) {es : List Expr} {k : Nat} {t : TGs} {n : Nat} {pos : Pos} (hc : X.calm = true) (h : PGs X es t) (e : X.K = K := by rfl) (hn : (assignEach es X.env).length = n := by rfl)
    (hst : (assignEach es X.env).findIdx? (·.1) = none := by rfl) : PG X (.Tuple es k pos) (gTup K n t) := e ▸ pg_tup hc h hn hst
end
end G

set_option Elab.async false
set_option linter.all false
set_option maxRecDepth 100000
set_option maxHeartbeats 4000000
/-! G4: kinds of plain values; comprehensions; small laws of lists. -/
namespace G
open PySem L2
theorem kb_NoneType_int : kitB "NoneType" "int" = some false := by decide +kernel
theorem kb_NoneType_bool : kitB "NoneType" "bool" = some false := by decide +kernel
theorem kb_NoneType_str : kitB "NoneType" "str" = some false := by decide +kernel
theorem kb_NoneType_list : kitB "NoneType" "list" = some false := by decide +kernel
theorem kb_NoneType_tuple : kitB "NoneType" "tuple" = some false := by decide +kernel
theorem kb_NoneType_dict : kitB "NoneType" "dict" = some false := by decide +kernel
theorem kb_bool_int : kitB "bool" "int" = some true := by decide +kernel
theorem kb_bool_bool : kitB "bool" "bool" = some true := by decide +kernel
theorem kb_bool_str : kitB "bool" "str" = some false := by decide +kernel
theorem kb_bool_list : kitB "bool" "list" = some false := by decide +kernel
theorem kb_bool_tuple : kitB "bool" "tuple" = some false := by decide +kernel
theorem kb_bool_dict : kitB "bool" "dict" = some false := by decide +kernel
theorem kb_int_int : kitB "int" "int" = some true := by decide +kernel
theorem kb_int_bool : kitB "int" "bool" = some false := by decide +kernel
theorem kb_int_str : kitB "int" "str" = some false := by decide +kernel
theorem kb_int_list : kitB "int" "list" = some false := by decide +kernel
theorem kb_int_tuple : kitB "int" "tuple" = some false := by decide +kernel
theorem kb_int_dict : kitB "int" "dict" = some false := by decide +kernel
theorem kb_str_int : kitB "str" "int" = some false := by decide +kernel
theorem kb_str_bool : kitB "str" "bool" = some false := by decide +kernel
theorem kb_str_str : kitB "str" "str" = some true := by decide +kernel
theorem kb_str_list : kitB "str" "list" = some false := by decide +kernel
theorem kb_str_tuple : kitB "str" "tuple" = some false := by decide +kernel
theorem kb_str_dict : kitB "str" "dict" = some false := by decide +kernel
theorem kb_list_int : kitB "list" "int" = some false := by decide +kernel
theorem kb_list_bool : kitB "list" "bool" = some false := by decide +kernel
theorem kb_list_str : kitB "list" "str" = some false := by decide +kernel
theorem kb_list_list : kitB "list" "list" = some true := by decide +kernel
theorem kb_list_tuple : kitB "list" "tuple" = some false := by decide +kernel
theorem kb_list_dict : kitB "list" "dict" = some false := by decide +kernel
theorem kb_tuple_int : kitB "tuple" "int" = some false := by decide +kernel
theorem kb_tuple_bool : kitB "tuple" "bool" = some false := by decide +kernel
theorem kb_tuple_str : kitB "tuple" "str" = some false := by decide +kernel
theorem kb_tuple_list : kitB "tuple" "list" = some false := by decide +kernel
theorem kb_tuple_tuple : kitB "tuple" "tuple" = some true := by decide +kernel
theorem kb_tuple_dict : kitB "tuple" "dict" = some false := by decide +kernel
theorem kb_dict_int : kitB "dict" "int" = some false := by decide +kernel
theorem kb_dict_bool : kitB "dict" "bool" = some false := by decide +kernel
theorem kb_dict_str : kitB "dict" "str" = some false := by decide +kernel
theorem kb_dict_list : kitB "dict" "list" = some false := by decide +kernel
theorem kb_dict_tuple : kitB "dict" "tuple" = some false := by decide +kernel
theorem kb_dict_dict : kitB "dict" "dict" = some true := by decide +kernel
section
variable {K : PySem.W.Frag} {w : Wd} {H : Hp} {Q : VK} {T : String} {b : Bool} {x : V} {d : PyData}
theorem si_non (e : kitB "NoneType" T = some b) (k : Q (.bl b) H) : rIsi K [.non, .ty T] H Q := ⟨.non, .ty T, _, _, b, rfl, .ty T, .base .non, kit_ty e, k⟩
theorem si_bl {z : Bool} (e : kitB "bool" T = some b) (k : Q (.bl b) H) : rIsi K [.bl z, .ty T] H Q := ⟨(.bl z), .ty T, _, _, b, rfl, .ty T, .base (.bl _), kit_ty e, k⟩
theorem si_int {z : Int} (e : kitB "int" T = some b) (k : Q (.bl b) H) : rIsi K [.int z, .ty T] H Q := ⟨(.int z), .ty T, _, _, b, rfl, .ty T, .base (.int _), kit_ty e, k⟩
theorem si_str {z : Str} (e : kitB "str" T = some b) (k : Q (.bl b) H) : rIsi K [.str z, .ty T] H Q := ⟨(.str z), .ty T, _, _, b, rfl, .ty T, .base (.str _), kit_ty e, k⟩
theorem sd_int (h : Rp w.S x d) (k : Q (.bl (isInt d)) w.H) : rIsi K [x, .ty "int"] w.H Q := s_isi h (isT_int d) k
theorem sd_bool (h : Rp w.S x d) (k : Q (.bl (isBool d)) w.H) : rIsi K [x, .ty "bool"] w.H Q := s_isi h (isT_bool d) k
theorem sd_str (h : Rp w.S x d) (k : Q (.bl (isStr d)) w.H) : rIsi K [x, .ty "str"] w.H Q := s_isi h (isT_str d) k
theorem sd_list (h : Rp w.S x d) (k : Q (.bl (isList d)) w.H) : rIsi K [x, .ty "list"] w.H Q := s_isi h (isT_list d) k
theorem sd_tuple (h : Rp w.S x d) (k : Q (.bl (isTup d)) w.H) : rIsi K [x, .ty "tuple"] w.H Q := s_isi h (isT_tup d) k
theorem sd_dict (h : Rp w.S x d) (k : Q (.bl (isDict d)) w.H) : rIsi K [x, .ty "dict"] w.H Q := s_isi h (isT_dict d) k
theorem si_lst {p : Addr} {vs : List V} (h : w.S p = some (.lst vs)) (e : kitB "list" T = some b) (k : Q (.bl b) w.H) : rIsi K [.ref p, .ty T] w.H Q := ⟨_, .ty T, _, _, b, rfl, .ty T, .base (.lst (w.ok _ _ h)), kit_ty e, k⟩
theorem si_own {p : Addr} {vs : List V} (h : Own w p (.lst vs)) (e : kitB "list" T = some b) (k : Q (.bl b) w.H) : rIsi K [.ref p, .ty T] w.H Q := ⟨_, .ty T, _, _, b, rfl, .ty T, .base (.lst h.h), kit_ty e, k⟩
theorem si_tup {p : Addr} {vs : List V} (h : w.S p = some (.tup vs)) (e : kitB "tuple" T = some b) (k : Q (.bl b) w.H) : rIsi K [.ref p, .ty T] w.H Q := ⟨_, .ty T, _, _, b, rfl, .ty T, .base (.tup (w.ok _ _ h)), kit_ty e, k⟩
end
theorem isTup_inv {d : PyData} (h : isTup d = true) : ∃ ds, d = .tuple ds := by cases d <;> first | exact ⟨_, rfl⟩ | cases h
theorem isList_inv {d : PyData} (h : isList d = true) : ∃ ds, d = .list ds := by cases d <;> first | exact ⟨_, rfl⟩ | cases h
theorem isStr_inv {d : PyData} (h : isStr d = true) : ∃ ds, d = .str ds := by cases d <;> first | exact ⟨_, rfl⟩ | cases h
def isNum (d : PyData) : Bool := isInt d && !isBool d
theorem isNum_inv {d : PyData} (h : isNum d = true) : ∃ i, d = .int i := by cases d <;> first | exact ⟨_, rfl⟩ | cases h
theorem isInt_inv : ∀ {d : PyData}, isInt d = true → isBool d = false → ∃ i, d = .int i
  | .int i, _, _ => ⟨i, rfl⟩
  | .bool _, _, h => by cases h
theorem sqt_of {K : PySem.W.Frag} {w : Wd} {p : Addr} {vs : List V} (h : w.S p = some (.tup vs)) : SqT K w.H p vs := SqT.of (w.ok _ _ h)
theorem sql_of {K : PySem.W.Frag} {w : Wd} {p : Addr} {vs : List V} (h : w.S p = some (.lst vs)) : SqL K w.H p vs := SqL.of (w.ok _ _ h)
theorem sqo_of {K : PySem.W.Frag} {w : Wd} {p : Addr} {vs : List V} (h : Own w p (.lst vs)) : SqL K w.H p vs := SqL.of h.h
theorem sqt_ext {K : PySem.W.Frag} {w v : Wd} {p : Addr} {vs : List V} {m : Addr → Prop} (e : Ext m w v) (h : w.S p = some (.tup vs)) : SqT K v.H p vs := SqT.of (v.ok _ _ (e.st _ _ h))

theorem s_yes {σ : L2.St} {H : Hp} {R : Bool → Hp → Prop} (k : R true H) : tYes σ H R := k
/-! comprehensions -/
def rgL (lo : Int) (n : Nat) : List V := (List.range n).map fun i => V.int (lo + (i : Nat))
theorem rgL_length (lo : Int) (n : Nat) : (rgL lo n).length = n := by simp [rgL]
theorem rgL_get {lo : Int} {n i : Nat} (h : i < n) : (rgL lo n)[i]? = some (.int (lo + (i : Nat))) := by simp [rgL, h]
theorem ww_rangeI {lo : Int} {m : Nat} : WWalk (Itr lo m) m (fun _ => True) (YI (rgL lo m)) :=
  ⟨fun i w h q => ww_range.goes i w h q, fun w q => ww_range.stops w q, fun i w x H' h q y => by
    obtain ⟨v, e, e1, e2⟩ := ww_range.yields i w x H' h q y
    exact ⟨v, e, e1, by rw [e2]; exact rgL_get h⟩⟩
/-- each item's plain value is told: ys -/
theorem lc_pure {J : It} {n : Nat} {G : Wd → Prop} {xs : List V} (k : WWalk J n G (YI xs)) {te : TE} {j : Nat} {σ : L2.St} {w : Wd} {D : Addr} {Qd : Hp → Prop} (ys : List V) (hD : w.H D = none) (hG : ∀ u, Ext (One D) w u → G u) (hn : ys.length = n) (hz : n < sizeLine)
    (hw : ∀ x, wipe ((wipe σ [j]).set j (some x)) [j] = wipe σ [j])
    (hs : ∀ i x y u, i < n → xs[i]? = some x → ys[i]? = some y → Ext (One D) w u → ∀ R : VK, (∀ v, Ext Non u v → R y v.H) → te ((wipe σ [j]).set j (some x)) u.H R)
    (hd : ∀ u, Ext Non w u → w.H D = none → Own u D (.lst ys) → Qd u.H) :
    ∃ W : Nat → Nat → Hp → Prop, (∃ m, W 0 m (upd w.H D (.lst []))) ∧ ∀ i m H, W i m H →
      (J.stop i H ∧ Qd H) ∨ (J.go i H ∧ ∃ Nx : Hp → Prop, (∀ H', Nx H' → ∃ m', m' < m ∧ W (i + 1) m' H') ∧ ∀ x H', J.yld i H x H' → gName j x (wipe σ [j]) H' fun σ2 H2 => wipe σ2 [j] = wipe σ [j] ∧ tYes σ2 H2 fun b H3 =>
        if b = true then te σ2 H3 fun y H4 => ∃ acc, H4 D = some (.lst acc) ∧ acc.length < sizeLine ∧ Nx (upd H4 D (.lst (acc ++ [y]))) else Nx H3) := by
  refine lcW k (fun i u acc => Ext (One D) w u ∧ acc = ys.take i) hD (fun u e o => ⟨e.more fun _ z => z.elim, by simp⟩) (fun i u acc _ p => hG u p.1) ?_ ?_
  · rintro i x u v acc hi o ⟨e, ha⟩ ⟨rfl, hx⟩
    refine ⟨hw x, s_yes (ite_tt ?_)⟩
    have hy : i < ys.length := by omega
    refine hs i x ys[i] v hi hx (by simp [hy]) e _ fun t et => ?_
    have ha2 : acc.length < sizeLine := by rw [ha, List.length_take]; omega
    refine lc_put (o.ext et fun z => z) ha2 fun z ez oz => ⟨(e.step et fun _ z => z.elim).step ez fun l hl => .inr hl, ?_⟩
    rw [ha, List.take_succ]
    simp [hy]
  · rintro u acc ⟨e, ha⟩ o
    refine hd u (e.more fun l hl => .inl (by rw [show l = D from hl]; exact hD)) hD ?_
    rw [ha, ← hn, List.take_length] at o
    exact o
end G

set_option Elab.async false
set_option linter.all false
set_option maxRecDepth 100000
set_option maxHeartbeats 4000000
/-! G5: dicts by text keys, displays, all and any, the numbers' sizes. -/
namespace G
open PySem L2
section
variable {K : PySem.W.Frag} {w : Wd} {H : Hp} {Q : VK} {σ : L2.St} {v x y : V} {vs : List V} {D : Ends}
theorem s_allO {p : Addr} {bs : List Bool} (h : Own w p (.lst (bs.map V.bl))) (k : Q (.bl (bs.all id)) w.H) : rAll K [.ref p] w.H Q := ⟨p, bs, rfl, SqL.of h.h, k⟩
theorem s_anyO {p : Addr} {bs : List Bool} (h : Own w p (.lst (bs.map V.bl))) (k : Q (.bl (bs.any id)) w.H) : rAny K [.ref p] w.H Q := ⟨p, bs, rfl, SqL.of h.h, k⟩
theorem s_sumO {p : Addr} {ns : List Int} (h : Own w p (.lst (ns.map V.int))) (k : Q (.int ns.sum) w.H) : rSum K [.ref p] w.H Q := ⟨p, ns, rfl, SqL.of h.h, k⟩
-- dicts by texts
theorem s_dgetS {p : Addr} {kvs : List (Key × V)} {z : Str} {P : V → Hp → Prop} (h : Own w p (.dK kvs)) (e : valV kvs (.inr z) = some v) (q : P v w.H) : ∃ b u, V.ref p = V.ref b ∧ DGet w.H b (.str z) (some u) ∧ P u w.H :=
  ⟨p, v, rfl, by rw [← e]; exact DGet.k (k := .inr z) h.h, q⟩
theorem dgetS {p : Addr} {kvs : List (Key × V)} {z : Str} (h : Own w p (.dK kvs)) (e : valV kvs (.inr z) = some v) : DGet w.H p (.str z) (some v) := by rw [← e]; exact DGet.k (k := .inr z) h.h
theorem s_dputS {p : Addr} {kvs kvs' : List (Key × V)} {z : Str} {R : Hp → Prop} (h : Own w p (.dK kvs)) (e : putK kvs (.inr z) v = kvs') (hz : kvs.length < sizeLine) (q : ∀ u, Ext (One p) w u → Own u p (.dK kvs') → R u.H) :
    ∃ b H4, V.ref p = V.ref b ∧ DPut w.H b (.str z) v H4 ∧ R H4 := by
  subst e
  exact ⟨p, _, rfl, DPut.k (k := .inr z) h.h hz, put (R := R) h q⟩
theorem s_disp {trs : List (TE × TE)} (k : ∀ p u, Ext Non w u → w.H p = none → Own u p (.dK []) → tPairs trs σ u.H fun ps H2 => H2 p = some (.dK []) ∧ ∃ kvs : List (Key × V), ps = kvs.map (fun kv => (kV kv.1, kv.2)) ∧ kvs.length ≤ 15 ∧ Q (.ref p) (upd H2 p (.dK (mergeK [] kvs)))) : tDisp trs σ w.H Q :=
  fun p hp => newO (Q := fun r H => ∀ p', r = .ref p' → tPairs trs σ H fun ps H2 => H2 p' = some (.dK []) ∧ ∃ kvs : List (Key × V), ps = kvs.map (fun kv => (kV kv.1, kv.2)) ∧ kvs.length ≤ 15 ∧ Q (.ref p') (upd H2 p' (.dK (mergeK [] kvs)))) (fun p v e n o p' hp' => by cases hp'; exact k p v e n o) p hp p rfl
theorem s_pnil {R : List (V × V) → Hp → Prop} (k : R [] H) : tPairs [] σ H R := k
theorem s_pcons {tk tv : TE} {r : List (TE × TE)} {R : List (V × V) → Hp → Prop} (k : tk σ H fun x H1 => tv σ H1 fun y H2 => tPairs r σ H2 fun ps H3 => R ((x, y) :: ps) H3) : tPairs ((tk, tv) :: r) σ H R := k
theorem s_dispE {p : Addr} {ps : List (V × V)} (o : Own w p (.dK [])) (kvs kvs' : List (Key × V)) (e : ps = kvs.map (fun kv => (kV kv.1, kv.2))) (e2 : mergeK [] kvs = kvs') (hz : kvs.length ≤ 15) (k : ∀ u, Ext (One p) w u → Own u p (.dK kvs') → Q (.ref p) u.H) :
    w.H p = some (.dK []) ∧ ∃ kvs : List (Key × V), ps = kvs.map (fun kv => (kV kv.1, kv.2)) ∧ kvs.length ≤ 15 ∧ Q (.ref p) (upd w.H p (.dK (mergeK [] kvs))) := by
  subst e2
  exact ⟨o.h, kvs, e, hz, put (R := Q (.ref p)) o k⟩
theorem s_dnew (k : ∀ p u, Ext Non w u → w.H p = none → Own u p (.dK []) → Q (.ref p) u.H) : tDNewK σ w.H Q := newO k
end
/-- of numbers below 2 ^ 200 -/
theorem divW {i j : Int} (h : 0 < j) (h2 : j < 2 ^ 200) : CDivW i j := ⟨h, by
  have : j.natAbs < 2 ^ 200 := by omega
  exact Nat.lt_of_lt_of_le (PySem.Flt.log2_lt_of (by decide) this) (by decide)⟩
theorem mulL {i j : Int} (h : -(2 ^ 64) < i) (h2 : i < 2 ^ 64) : CMul i j ∨ CMulW i j := .inl (.inl ⟨h, h2⟩)
theorem mulR {i j : Int} (h : -(2 ^ 64) < j) (h2 : j < 2 ^ 64) : CMul i j ∨ CMulW i j := .inl (.inr ⟨h, h2⟩)
/-! dicts by written texts -/
section
variable {a b : Str} {u v : V} {r r' : List (Key × V)}
theorem valS_pos : valV ((.inr a, u) :: r) (.inr a) = some u := valV_pos rfl
theorem valS_neg {o : Option V} (h : decide (a = b) = false) (t : valV r (.inr b) = o) : valV ((.inr a, u) :: r) (.inr b) = o := by
  rw [valV_neg (fun z => of_decide_eq_false h (Sum.inr.inj z))]
  exact t
theorem valS_nil : valV ([] : List (Key × V)) (.inr b) = none := rfl
theorem putK_nil {k : Key} : putK ([] : List (Key × V)) k v = [(k, v)] := rfl
theorem map_same {k : Key} (h : valV r k = none) : r.map (fun kv => if kv.1 = k then (kv.1, v) else kv) = r := by
  induction r with
  | nil => rfl
  | cons p r ih =>
    by_cases e : p.1 = k
    · rw [valV_pos e] at h; cases h
    · rw [valV_neg e] at h
      rw [List.map_cons, if_neg e, ih h]
theorem any_none {k : Key} (h : valV r k = none) : (r.any fun kv => decide (kv.1 = k)) = false := by rw [valV_any, h]; rfl
theorem putS_pos (h : valV r (.inr a) = none) : putK ((.inr a, u) :: r) (.inr a) v = (.inr a, v) :: r := by
  unfold putK
  rw [if_pos (by simp), List.map_cons, if_pos rfl, map_same h]
theorem putS_neg (h : decide (a = b) = false) (t : putK r (.inr b) v = r') : putK ((.inr a, u) :: r) (.inr b) v = (.inr a, u) :: r' := by
  have hn : ¬ (Sum.inr a : Key) = Sum.inr b := fun z => of_decide_eq_false h (Sum.inr.inj z)
  subst t
  unfold putK
  rw [List.any_cons, decide_eq_false hn, Bool.false_or, List.map_cons, if_neg hn]
  split <;> rfl
theorem merge_go : ∀ (r acc : List (Key × V)), ((acc ++ r).map (·.1)).Nodup → mergeK acc r = acc ++ r
  | [], acc, _ => by simp [mergeK]
  | p :: r, acc, h => by
    have hn : valV acc p.1 = none := by
      cases e : valV acc p.1 with
      | none => rfl
      | some z =>
        exfalso
        have h1 : (acc.any fun kv => decide (kv.1 = p.1)) = true := by rw [valV_any, e]; rfl
        rw [List.any_eq_true] at h1
        obtain ⟨q, hq, hqe⟩ := h1
        rw [List.map_append, List.nodup_append] at h
        exact h.2.2 q.1 (List.mem_map_of_mem hq) p.1 (by simp) (of_decide_eq_true hqe)
    have e1 : putK acc p.1 p.2 = acc ++ [p] := by
      unfold putK
      rw [if_neg (by rw [any_none hn]; decide)]
    show List.foldl _ (putK acc p.1 p.2) r = _
    rw [e1]
    have ih := merge_go r (acc ++ [p]) (by simpa using h)
    unfold mergeK at ih
    rw [ih]
    simp
theorem mergeK_nd {r : List (Key × V)} (h : (r.map (·.1)).Nodup) : mergeK [] r = r := merge_go r [] h
end
theorem atI_nn {α : Type} {xs : List α} {i : Int} (h : 0 ≤ i) (h2 : i < xs.length) : atI xs i = xs[i.toNat]? := by
  unfold atI ixN
  rw [if_pos h, if_pos h2]
  rfl
theorem atI_of {α : Type} {xs : List α} {i : Int} {v : α} (h : 0 ≤ i) (h2 : xs[i.toNat]? = some v) : atI xs i = some v := by
  have h3 := (List.getElem?_eq_some_iff.mp h2).1
  rw [atI_nn h (by omega), h2]
theorem atI_back {α : Type} {xs : List α} {v : α} (h : xs.getLast? = some v) : atI xs (-1) = some v := by
  have hne : xs ≠ [] := by intro z; rw [z] at h; cases h
  have hl : 0 < xs.length := List.length_pos_iff.mpr hne
  unfold atI ixN
  rw [if_neg (by decide), if_pos (by omega)]
  show xs[((-1 : Int) + xs.length).toNat]? = _
  rw [List.getLast?_eq_getElem?] at h
  rw [← h]
  congr 1
  omega
theorem ixN_nn {n : Nat} {i : Int} (h : 0 ≤ i) (h2 : i < n) : ixN n i = some i.toNat := by
  unfold ixN
  rw [if_pos h, if_pos h2]
/-- a pair of numbers -/
abbrev prD (p : Int × Int) : PyData := .tuple [.int p.1, .int p.2]
abbrev spD (xs : List (Int × Int)) : PyData := .list (xs.map prD)
theorem pr_inv {S : Hp} {v : V} {a b : Int} (h : Rp S v (.tuple [.int a, .int b])) : ∃ t, v = .ref t ∧ S t = some (.tup [.int a, .int b]) := by
  obtain ⟨t, vs, rfl, h1, h2⟩ := h.tuple_inv
  cases h2 with
  | cons a1 a2 => cases a2 with
    | cons b1 b2 =>
      cases b2
      rw [a1.int_inv, b1.int_inv] at h1
      exact ⟨t, rfl, h1⟩
theorem pr_rp {S : Hp} {t : Addr} {a b : Int} (h : S t = some (.tup [.int a, .int b])) : Rp S (.ref t) (.tuple [.int a, .int b]) := .tup h (.cons (.int a) (.cons (.int b) .nil))
theorem rp_tup {S : Hp} {t : Addr} {vs : List V} {ds : List PyData} (h : S t = some (.tup vs)) (k : RpA S vs ds) : Rp S (.ref t) (.tuple ds) := .tup h k
theorem rp_lst {S : Hp} {t : Addr} {vs : List V} {ds : List PyData} (h : S t = some (.lst vs)) (k : RpA S vs ds) : Rp S (.ref t) (.list ds) := .lst h k
end G

set_option Elab.async false
set_option linter.all false
set_option maxRecDepth 100000
set_option maxHeartbeats 4000000
/-! G6: more steps: sums and slices of lists, list(x), tuple(x), items by places that are not written. -/
namespace G
open PySem L2
section
variable {K : PySem.W.Frag} {w : Wd} {H : Hp} {Q : VK} {σ : L2.St} {v x y : V} {d1 d2 : PyData} {vs xs ys : List V} {a b : Addr} {lo hi : Option Int}
theorem s_newLS (h : vs.length ≤ sizeLine) (k : ∀ p v, Ext Non w v → w.H p = none → v.S p = some (.lst vs) → Q (.ref p) v.H) : vs.length ≤ sizeLine ∧ ∀ p, w.H p = none → Q (.ref p) (upd w.H p (.lst vs)) := ⟨h, newS k⟩
theorem s_catS (h1 : w.H a = some (.lst xs)) (h2 : w.H b = some (.lst ys)) (z : xs.length + ys.length ≤ sizeLine) (k : ∀ p v, Ext Non w v → w.H p = none → v.S p = some (.lst (xs ++ ys)) → Q (.ref p) v.H) : gAdd K (.ref a) (.ref b) w.H Q :=
  .inl ⟨xs, ys, h1, h2, z, newS k⟩
theorem s_catO (h1 : w.H a = some (.lst xs)) (h2 : w.H b = some (.lst ys)) (z : xs.length + ys.length ≤ sizeLine) (k : ∀ p v, Ext Non w v → w.H p = none → Own v p (.lst (xs ++ ys)) → Q (.ref p) v.H) : gAdd K (.ref a) (.ref b) w.H Q :=
  .inl ⟨xs, ys, h1, h2, z, newO k⟩
theorem s_slS (h : SqL K w.H a xs) (k : ∀ p v, Ext Non w v → w.H p = none → v.S p = some (.lst (cutV xs lo hi)) → Q (.ref p) v.H) : gSl K (.ref a) lo hi w.H Q := .inl ⟨xs, h, newS k⟩
theorem s_slO (h : SqL K w.H a xs) (k : ∀ p v, Ext Non w v → w.H p = none → Own v p (.lst (cutV xs lo hi)) → Q (.ref p) v.H) : gSl K (.ref a) lo hi w.H Q := .inl ⟨xs, h, newO k⟩
theorem s_slT {z : Str} (h : z.length ≤ sizeLine) (k : Q (.str (cutS z lo hi)) H) : gSl K (.str z) lo hi H Q := ⟨h, k⟩
theorem s_listS (h : SqL K w.H a xs ∨ SqT K w.H a xs) (k : ∀ p v, Ext Non w v → w.H p = none → v.S p = some (.lst xs) → Q (.ref p) v.H) : gList K [.ref a] w.H Q := ⟨xs, h, newS k⟩
theorem s_listO (h : SqL K w.H a xs ∨ SqT K w.H a xs) (k : ∀ p v, Ext Non w v → w.H p = none → Own v p (.lst xs) → Q (.ref p) v.H) : gList K [.ref a] w.H Q := ⟨xs, h, newO k⟩
theorem s_tupleS (h : SqL K w.H a xs) (k : ∀ p v, Ext Non w v → w.H p = none → v.S p = some (.tup xs) → Q (.ref p) v.H) : gTuple K [.ref a] w.H Q := ⟨xs, .inl ⟨h, newS k⟩⟩
theorem s_rev {te : TE} (k : te σ H fun x H1 => ∃ a xs, x = .ref a ∧ SqL K H1 a xs ∧ ∀ p, H1 p = none → Q (.ref p) (upd H1 p (.lst xs.reverse))) : tRevL K te σ H Q := k
theorem s_revS (h : SqL K w.H a xs) (k : ∀ p v, Ext Non w v → w.H p = none → v.S p = some (.lst xs.reverse) → Q (.ref p) v.H) : ∃ b ys, V.ref a = .ref b ∧ SqL K w.H b ys ∧ ∀ p, w.H p = none → Q (.ref p) (upd w.H p (.lst ys.reverse)) := ⟨a, xs, rfl, h, newS k⟩
theorem s_revO (h : SqL K w.H a xs) (k : ∀ p v, Ext Non w v → w.H p = none → Own v p (.lst xs.reverse) → Q (.ref p) v.H) : ∃ b ys, V.ref a = .ref b ∧ SqL K w.H b ys ∧ ∀ p, w.H p = none → Q (.ref p) (upd w.H p (.lst ys.reverse)) := ⟨a, xs, rfl, h, newO k⟩
theorem s_divmod {i j : Int} (h : CDiv i j) (k : ∀ p v, Ext Non w v → w.H p = none → v.S p = some (.tup [.int (i / j), .int (i % j)]) → Q (.ref p) v.H) : gDivmod [.int i, .int j] w.H Q := ⟨h, newS k⟩
theorem s_eqD (h1 : Dp K w.H x d1) (h2 : Dp K w.H y d2) (s1 : SeqAt.shaped d1 = true) (s2 : SeqAt.shaped d2 = true) (k : Q (.bl (PyData.eqv d1 d2)) w.H) : gEq K x y w.H Q := .inr ⟨d1, d2, h1, h2, s1, s2, k⟩
theorem s_neD (h1 : Dp K w.H x d1) (h2 : Dp K w.H y d2) (s1 : SeqAt.shaped d1 = true) (s2 : SeqAt.shaped d2 = true) (k : Q (.bl (!PyData.eqv d1 d2)) w.H) : gNe K x y w.H Q := .inr ⟨d1, d2, h1, h2, s1, s2, k⟩
/-- a tuple as a target -/
theorem s_gtup {n : Nat} {t : TGs} {R : L2.St → Hp → Prop} (h : w.S a = some (.tup vs)) (e : vs.length = n) (k : t vs σ w.H R) : gTup K n t (.ref a) σ w.H R := ⟨a, vs, rfl, sqt_of h, e, k⟩
theorem s_gcons {t : TG} {u : TGs} {R : L2.St → Hp → Prop} (k : t v σ H fun σ' H' => u vs σ' H' R) : gCons t u (v :: vs) σ H R := ⟨v, vs, rfl, k⟩
theorem s_gnil {R : L2.St → Hp → Prop} (k : R σ H) : gNil [] σ H R := ⟨rfl, k⟩
theorem s_gsub {to ti : TE} {t : TSet} {R : L2.St → Hp → Prop} (k : to σ H fun o H1 => ti σ H1 fun i H2 => t o i v H2 fun H3 => R σ H3) : L2.gSub to ti t v σ H R := k
end
theorem Rp.dpH {K : PySem.W.Frag} {w : Wd} {v : V} {d : PyData} (h : Rp w.S v d) (n : nd d = true) : Dp K w.H v d := dp_mono w.ok d v (Rp.dp d v h n)
theorem own_dp {K : PySem.W.Frag} {w : Wd} {a : Addr} {vs : List V} {ds : List PyData} (o : Own w a (.lst vs)) (h : RpA w.S vs ds) (n : nd (.list ds) = true) : Dp K w.H (.ref a) (.list ds) := by
  unfold nd at n
  rw [List.all_eq_true] at n
  exact .lst (SqL.of o.h) (dp_monoA w.ok ds vs (RpA.dp ds vs h fun d hd => n ⟨d, hd⟩ (List.mem_attach ..)))
theorem nd_list {ds : List PyData} (h : ∀ d ∈ ds, nd d = true) : nd (.list ds) = true := by
  unfold nd
  rw [List.all_eq_true]
  exact fun ⟨d, hd⟩ _ => h d hd
theorem nd_tuple {ds : List PyData} (h : ∀ d ∈ ds, nd d = true) : nd (.tuple ds) = true := by
  unfold nd
  rw [List.all_eq_true]
  exact fun ⟨d, hd⟩ _ => h d hd
theorem nd_pr (p : Int × Int) : nd (prD p) = true := nd_tuple (by intro d hd; simp at hd; rcases hd with rfl | rfl <;> simp [nd])
theorem nd_sp (xs : List (Int × Int)) : nd (spD xs) = true := nd_list (by intro d hd; simp at hd; obtain ⟨a, b, _, rfl⟩ := hd; exact nd_pr (a, b))
theorem rpa_at {S : Hp} {vs : List V} {ds : List PyData} {i : Int} (h : RpA S vs ds) (h0 : 0 ≤ i) (h1 : i < ds.length) : ∃ v d, atI vs i = some v ∧ ds[i.toNat]? = some d ∧ Rp S v d := by
  have hd : ds[i.toNat]? = some ds[i.toNat] := List.getElem?_eq_getElem (by omega)
  obtain ⟨v, h2, h3⟩ := h.get' hd
  exact ⟨v, _, atI_of h0 h2, hd, h3⟩
theorem rpa_pr {S : Hp} {vs : List V} {ps : List (Int × Int)} {i : Nat} {v : V} (h : RpA S vs (ps.map prD)) (e : vs[i]? = some v) : ∃ p t, ps[i]? = some p ∧ v = .ref t ∧ S t = some (.tup [.int p.1, .int p.2]) := by
  obtain ⟨d, h1, h2⟩ := h.get e
  rw [List.getElem?_map] at h1
  cases hp : ps[i]? with
  | none => rw [hp] at h1; cases h1
  | some p =>
    rw [hp] at h1
    obtain rfl := Option.some.inj h1
    obtain ⟨t, rfl, h3⟩ := pr_inv h2
    exact ⟨p, t, rfl, rfl, h3⟩
theorem rpa_cut {S : Hp} {vs : List V} {ds : List PyData} (lo hi : Option Int) (h : RpA S vs ds) : ∃ es, RpA S (cutV vs lo hi) es := ⟨_, (h.drop _).take _⟩
theorem rpa_len_cut {vs : List V} {lo hi : Option Int} : (cutV vs lo hi).length ≤ vs.length := cutV_length vs lo hi
section
variable {K : PySem.W.Frag} {w : Wd} {H : Hp} {Q : VK} {σ : L2.St} {v x y : V} {vs xs ys : List V} {l : Addr} {P : Prop}
theorem s_ty (h : Own w l (.lst vs)) (k : P) : tyV K "list" (.ref l) w.H ∧ P := ⟨ty_own h, k⟩
theorem s_tyS {z : Str} (k : P) : tyV K "str" (.str z) H ∧ P := ⟨rfl, k⟩
theorem s_app (h : Own w l (.lst vs)) (z : vs.length < sizeLine) (k : ∀ v, Ext (One l) w v → Own v l (.lst (vs ++ [y])) → Q .non v.H) : rAppend (.ref l) [y] w.H Q := ⟨l, vs, y, rfl, rfl, h.h, z, put (R := Q .non) h k⟩
theorem s_clear (h : Own w l (.lst vs)) (k : ∀ v, Ext (One l) w v → Own v l (.lst []) → Q .non v.H) : rClear (.ref l) [] w.H Q := ⟨l, vs, rfl, rfl, h.h, put (R := Q .non) h k⟩
theorem s_reverse (h : Own w l (.lst vs)) (k : ∀ v, Ext (One l) w v → Own v l (.lst vs.reverse) → Q .non v.H) : rReverse (.ref l) [] w.H Q := ⟨l, vs, rfl, rfl, h.h, put (R := Q .non) h k⟩
theorem s_m1 {r : V → List V → Hp → VK → Prop} {to te : TE} (k : to σ H fun x H1 => (∃ a, x = .str a) ∧ te σ H1 fun y H2 => r x [y] H2 Q) : tM1 r to te σ H Q := k
theorem s_isS {z : Str} (k : P) : (∃ a, V.str z = .str a) ∧ P := ⟨⟨z, rfl⟩, k⟩
end
section
variable {K : PySem.W.Frag} {w : Wd} {H : Hp} {Q : VK} {vs : List V} {p : Addr} {a b c j : Int}
theorem s_powN (h : CPow a b) (e : a ^ b.toNat = c) (k : Q (.int c) H) : gPow (.int a) (.int b) H Q := ⟨h, by rw [e]; exact k⟩
theorem at_mem {α : Type} {xs : List α} (h0 : 0 ≤ j) (h1 : j < xs.length) : ∃ v, xs[j.toNat]? = some v ∧ atI xs j = some v ∧ v ∈ xs := by
  have hd : xs[j.toNat]? = some xs[j.toNat] := List.getElem?_eq_getElem (by omega)
  exact ⟨_, hd, atI_of h0 hd, List.getElem_mem _⟩
theorem s_ixOm (h : Own w p (.lst vs)) (h0 : 0 ≤ j) (h1 : j < vs.length) (k : ∀ v, vs[j.toNat]? = some v → v ∈ vs → Q v w.H) : gIx K (.ref p) (.int j) w.H Q := by
  obtain ⟨v, h2, h3, h4⟩ := at_mem h0 h1
  exact s_ixO h h3 (k v h2 h4)
theorem s_ixSm (h : w.S p = some (.lst vs)) (h0 : 0 ≤ j) (h1 : j < vs.length) (k : ∀ v, vs[j.toNat]? = some v → v ∈ vs → Q v w.H) : gIx K (.ref p) (.int j) w.H Q := by
  obtain ⟨v, h2, h3, h4⟩ := at_mem h0 h1
  exact s_ixL h h3 (k v h2 h4)
theorem s_ixTm (h : w.S p = some (.tup vs)) (h0 : 0 ≤ j) (h1 : j < vs.length) (k : ∀ v, vs[j.toNat]? = some v → v ∈ vs → Q v w.H) : gIx K (.ref p) (.int j) w.H Q := by
  obtain ⟨v, h2, h3, h4⟩ := at_mem h0 h1
  exact s_ixT h h3 (k v h2 h4)
end
theorem p10_1 : (10 : Int) ^ (1 : Int).toNat = 10 := by decide
theorem p10_2 : (10 : Int) ^ (2 : Int).toNat = 100 := by decide
theorem p10_3 : (10 : Int) ^ (3 : Int).toNat = 1000 := by decide
theorem p10_4 : (10 : Int) ^ (4 : Int).toNat = 10000 := by decide
theorem p10_5 : (10 : Int) ^ (5 : Int).toNat = 100000 := by decide
theorem p10_6 : (10 : Int) ^ (6 : Int).toNat = 1000000 := by decide
theorem p10_7 : (10 : Int) ^ (7 : Int).toNat = 10000000 := by decide
theorem p10_8 : (10 : Int) ^ (8 : Int).toNat = 100000000 := by decide
theorem p10_9 : (10 : Int) ^ (9 : Int).toNat = 1000000000 := by decide
theorem p10_10 : (10 : Int) ^ (10 : Int).toNat = 10000000000 := by decide
theorem p10_11 : (10 : Int) ^ (11 : Int).toNat = 100000000000 := by decide
theorem p10_12 : (10 : Int) ^ (12 : Int).toNat = 1000000000000 := by decide
theorem p10_13 : (10 : Int) ^ (13 : Int).toNat = 10000000000000 := by decide
theorem p10_14 : (10 : Int) ^ (14 : Int).toNat = 100000000000000 := by decide
theorem p10_15 : (10 : Int) ^ (15 : Int).toNat = 1000000000000000 := by decide
theorem p10_16 : (10 : Int) ^ (16 : Int).toNat = 10000000000000000 := by decide
theorem p10_17 : (10 : Int) ^ (17 : Int).toNat = 100000000000000000 := by decide
theorem p10_18 : (10 : Int) ^ (18 : Int).toNat = 1000000000000000000 := by decide
theorem p10_19 : (10 : Int) ^ (19 : Int).toNat = 10000000000000000000 := by decide
theorem p10_20 : (10 : Int) ^ (20 : Int).toNat = 100000000000000000000 := by decide
theorem p10_21 : (10 : Int) ^ (21 : Int).toNat = 1000000000000000000000 := by decide
theorem p10_22 : (10 : Int) ^ (22 : Int).toNat = 10000000000000000000000 := by decide
theorem p10_23 : (10 : Int) ^ (23 : Int).toNat = 100000000000000000000000 := by decide
theorem p10_24 : (10 : Int) ^ (24 : Int).toNat = 1000000000000000000000000 := by decide
theorem p10_25 : (10 : Int) ^ (25 : Int).toNat = 10000000000000000000000000 := by decide
theorem p10_26 : (10 : Int) ^ (26 : Int).toNat = 100000000000000000000000000 := by decide
theorem p10_27 : (10 : Int) ^ (27 : Int).toNat = 1000000000000000000000000000 := by decide
theorem p10_28 : (10 : Int) ^ (28 : Int).toNat = 10000000000000000000000000000 := by decide
theorem p10_29 : (10 : Int) ^ (29 : Int).toNat = 100000000000000000000000000000 := by decide
theorem p10_30 : (10 : Int) ^ (30 : Int).toNat = 1000000000000000000000000000000 := by decide
theorem p10_31 : (10 : Int) ^ (31 : Int).toNat = 10000000000000000000000000000000 := by decide
theorem p2_63 : (2 : Int) ^ (63 : Int).toNat = 9223372036854775808 := by decide
section
variable {K : PySem.W.Frag} {w : Wd} {H : Hp} {Q : VK} {vs xs : List V} {p a : Addr} {σ : L2.St} {A : TA}
/-- a new tuple, a new list: what is wanted of it -/
def mkT (Q : VK) (xs : List V) (H : Hp) : Prop := xs.length ≤ sizeLine ∧ ∀ p, H p = none → Q (.ref p) (upd H p (.tup xs))
def mkL (Q : VK) (xs : List V) (H : Hp) : Prop := xs.length ≤ sizeLine ∧ ∀ p, H p = none → Q (.ref p) (upd H p (.lst xs))
def mkR (K : PySem.W.Frag) (Q : VK) (x : V) (H : Hp) : Prop := ∃ a xs, x = .ref a ∧ SqL K H a xs ∧ ∀ p, H p = none → Q (.ref p) (upd H p (.lst xs.reverse))
def mkD (Q : VK) (p : Addr) (ps : List (V × V)) (H2 : Hp) : Prop := H2 p = some (.dK []) ∧ ∃ kvs : List (Key × V), ps = kvs.map (fun kv => (kV kv.1, kv.2)) ∧ kvs.length ≤ 15 ∧ Q (.ref p) (upd H2 p (.dK (mergeK [] kvs)))
theorem t_tup (k : A σ H (mkT Q)) : tTup A σ H Q := k
theorem t_lst (k : A σ H (mkL Q)) : tLst A σ H Q := k
theorem t_rev {te : TE} (k : te σ H (mkR K Q)) : tRevL K te σ H Q := k
theorem t_newT (h : vs.length ≤ sizeLine) (k : ∀ p v, Ext Non w v → w.H p = none → v.S p = some (.tup vs) → Q (.ref p) v.H) : mkT Q vs w.H := ⟨h, newS k⟩
theorem t_newL (h : vs.length ≤ sizeLine) (k : ∀ p v, Ext Non w v → w.H p = none → Own v p (.lst vs) → Q (.ref p) v.H) : mkL Q vs w.H := ⟨h, newO k⟩
theorem t_newLS (h : vs.length ≤ sizeLine) (k : ∀ p v, Ext Non w v → w.H p = none → v.S p = some (.lst vs) → Q (.ref p) v.H) : mkL Q vs w.H := ⟨h, newS k⟩
theorem t_revS (h : SqL K w.H a xs) (k : ∀ p v, Ext Non w v → w.H p = none → v.S p = some (.lst xs.reverse) → Q (.ref p) v.H) : mkR K Q (.ref a) w.H := ⟨a, xs, rfl, h, newS k⟩
theorem t_revO (h : SqL K w.H a xs) (k : ∀ p v, Ext Non w v → w.H p = none → Own v p (.lst xs.reverse) → Q (.ref p) v.H) : mkR K Q (.ref a) w.H := ⟨a, xs, rfl, h, newO k⟩
theorem t_disp {trs : List (TE × TE)} (k : ∀ p u, Ext Non w u → w.H p = none → Own u p (.dK []) → tPairs trs σ u.H (mkD Q p)) : tDisp trs σ w.H Q := s_disp k
theorem t_dispE {ps : List (V × V)} (o : Own w p (.dK [])) (kvs kvs' : List (Key × V)) (e : ps = kvs.map (fun kv => (kV kv.1, kv.2))) (e2 : mergeK [] kvs = kvs') (hz : kvs.length ≤ 15) (k : ∀ u, Ext (One p) w u → Own u p (.dK kvs') → Q (.ref p) u.H) : mkD Q p ps w.H :=
  s_dispE o kvs kvs' e e2 hz k
end
theorem log_small {i : Int} (h : -(10 ^ 60) < i) (h2 : i < 10 ^ 60) : i.natAbs.log2 < 1920 := by
  have h3 : i.natAbs < 2 ^ 200 := by omega
  exact Nat.lt_trans (PySem.Flt.log2_lt_of (by decide) h3) (by decide)
theorem RpA.cut {S : Hp} {vs : List V} {ds : List PyData} (h : RpA S vs ds) (lo hi : Option Int) : RpA S (cutV vs lo hi) ((ds.drop (HT.sIx vs.length 0 lo)).take (HT.sIx vs.length vs.length hi - HT.sIx vs.length 0 lo)) := (h.drop _).take _
section
variable {xs ys : List V} {n m : Nat} {lo hi : Option Int}
theorem len_app (h : xs.length ≤ n) (h2 : ys.length ≤ m) : (xs ++ ys).length ≤ n + m := by rw [List.length_append]; omega
theorem len_cut (h : xs.length ≤ n) : (cutV xs lo hi).length ≤ n := Nat.le_trans (cutV_length _ _ _) h
theorem len_rev (h : xs.length ≤ n) : xs.reverse.length ≤ n := by rw [List.length_reverse]; exact h
theorem z_cat (h1 : xs.length ≤ n) (h2 : ys.length ≤ m) (k : n + m ≤ sizeLine) : xs.length + ys.length ≤ sizeLine := by omega
end
theorem t_disp0 {w : Wd} {Q : VK} {σ : L2.St} (k : ∀ p v, Ext Non w v → w.H p = none → v.S p = some (.dK []) → Q (.ref p) v.H) : tDisp [] σ w.H Q :=
  s_disp fun p u e n o => t_dispE o [] [] rfl rfl (by simp) fun v e2 o2 => lay (R := Q (.ref p)) o2 fun x e3 s => k p x (e.step (e2.trans e3) fun l hl => .inl (hl ▸ n)) n s
end G

namespace G
open PySem L2
mutual
theorem nd_can : ∀ d : PyData, d.canLay0 = true → nd d = true
  | .none, _ => by unfold nd; rfl
  | .bool _, _ => by unfold nd; rfl
  | .int _, _ => by unfold nd; rfl
  | .str _, _ => by unfold nd; rfl
  | .list ds, h => by
    unfold nd
    rw [List.all_eq_true]
    rintro ⟨d, hd⟩ _
    exact nd_canA ds (by simpa [PyData.canLay0] using h) d hd
  | .tuple ds, h => by
    unfold nd
    rw [List.all_eq_true]
    rintro ⟨d, hd⟩ _
    exact nd_canA ds (by simpa [PyData.canLay0] using h) d hd
  | .dict _, h => by simp [PyData.canLay0] at h
theorem nd_canA : ∀ ds : List PyData, PyData.canLayAll0 ds = true → ∀ d ∈ ds, nd d = true
  | [], _, d, h => by cases h
  | x :: xs, h, d, hd => by
    have h' : x.canLay0 = true ∧ PyData.canLayAll0 xs = true := by simpa [PyData.canLayAll0] using h
    cases hd with
    | head => exact nd_can x h'.1
    | tail _ hd => exact nd_canA xs h'.2 d hd
end
theorem can_prs : ∀ rows : List (Int × Int), PyData.canLayAll0 (rows.map prD) = true
  | [] => by simp [PyData.canLayAll0]
  | q :: r => by simp [PyData.canLayAll0, PyData.canLay0, can_prs r]
theorem dep_prs : ∀ rows : List (Int × Int), PyData.depthAll (rows.map prD) ≤ 2
  | [] => by simp [PyData.depthAll]
  | q :: r => by
    have := dep_prs r
    simp only [List.map_cons, PyData.depthAll, PyData.depth]
    omega
theorem shaped_spD (rows : List (Int × Int)) : SeqAt.shaped (spD rows) = true := by
  have h1 := dep_prs rows
  have h2 : PyData.depth (spD rows) ≤ 64 := by simp only [PyData.depth]; omega
  show (PyData.canLay0 (spD rows) && decide (PyData.depth (spD rows) ≤ 64)) = true
  rw [Bool.and_eq_true]
  exact ⟨by simp only [PyData.canLay0]; exact can_prs rows, decide_eq_true h2⟩
theorem s_dnewS {w : Wd} {Q : VK} {σ : L2.St} (k : ∀ p v, Ext Non w v → w.H p = none → v.S p = some (.dK []) → Q (.ref p) v.H) : tDNewK σ w.H Q := newS k
theorem rp_some {S : Hp} {xs : List V} {a : Addr} (_ : S a = some (.lst xs)) (h : ∃ ds, RpA S xs ds) : ∃ ds, RpA S xs ds := h
theorem ite_nr {α : Type} {A B : Prop} {x : α} [DecidableEq α] (k : B) : if (!decide (x = x)) = true then A else B := by
  rw [decide_eq_true rfl]
  exact k
theorem ite_nt {A B : Prop} (k : B) : if (!true) = true then A else B := k
theorem ite_nf {A B : Prop} (k : A) : if (!false) = true then A else B := k
theorem nd_shaped {d : PyData} (h : SeqAt.shaped d = true) : nd d = true := nd_can d (SeqAt.canLay_of_shaped h)
section
variable {K : PySem.W.Frag} {w : Wd} {x y : V} {d1 d2 : PyData} {Q : VK}
theorem s_eqR (h1 : Rp w.S x d1) (h2 : Rp w.S y d2) (s1 : SeqAt.shaped d1 = true) (s2 : SeqAt.shaped d2 = true) (k : Q (.bl (PyData.eqv d1 d2)) w.H) : gEq K x y w.H Q := s_eqD (h1.dpH (nd_shaped s1)) (h2.dpH (nd_shaped s2)) s1 s2 k
theorem s_neR (h1 : Rp w.S x d1) (h2 : Rp w.S y d2) (s1 : SeqAt.shaped d1 = true) (s2 : SeqAt.shaped d2 = true) (k : Q (.bl (!PyData.eqv d1 d2)) w.H) : gNe K x y w.H Q := s_neD (h1.dpH (nd_shaped s1)) (h2.dpH (nd_shaped s2)) s1 s2 k
theorem eqv_self {d : PyData} (h : SeqAt.shaped d = true) : PyData.eqv d d = true := SeqAt.eqv_refl d (SeqAt.canLay_of_shaped h)
end
end G

namespace G
open PySem L2
section
variable {K : PySem.W.Frag} {w u v : Wd} {a p : Addr} {o : HO} {m : Addr → Prop} {vs : List V} {Q : VK} {x y : V}
/-- what stands at a, for good or owned: may be read -/
def Rd (w : Wd) (a : Addr) (o : HO) : Prop := w.S a = some o ∨ Own w a o
theorem Rd.h (r : Rd w a o) : w.H a = some o := r.elim (fun s => w.ok _ _ s) Own.h
theorem Rd.go (e : Ext m w v) (n : ¬ m a) (r : Rd w a o) : Rd v a o := r.elim (fun s => .inl (st_go e s)) fun s => .inr (s.ext e n)
theorem Rd.ne (r : Rd w a o) (n : w.H p = none) : a ≠ p := ne_of_none r.h n
theorem Rd.ne' (r : Rd w a o) (n : w.H p = none) : p ≠ a := (ne_of_none r.h n).symm
theorem Rd.own (r : Rd w a o) {q : HO} (s : Own w p q) (d : o ≠ q) : a ≠ p := fun e => d (by subst e; exact Option.some.inj (r.h.symm.trans s.h))
theorem s_ixA {i : Nat} (r : Rd w a (.lst vs)) (e : vs[i]? = some y) (k : Q y w.H) : gIx K (.ref a) (.int (i : Int)) w.H Q :=
  have hi : i < vs.length := (List.getElem?_eq_some_iff.mp e).1
  ⟨_, y, .inl (SqL.of r.h), by rw [atI_nn (Int.natCast_nonneg i) (by omega)]; simpa using e, k⟩
theorem nil_or_snoc {α : Type} (l : List α) : l = [] ∨ ∃ r x, l = r ++ [x] := by
  by_cases h : l = []
  · exact .inl h
  · exact .inr ⟨l.dropLast, l.getLast h, (List.dropLast_concat_getLast h).symm⟩
theorem atI_snoc {α : Type} {xs : List α} {v : α} : atI (xs ++ [v]) (-1) = some v := atI_back (by simp)
theorem get3 {α β : Type} {i : Nat} {a b c x : α} {d e f q : β} (h1 : [a, b, c][i]? = some x) (h2 : [d, e, f][i]? = some q) : (x = a ∧ q = d) ∨ (x = b ∧ q = e) ∨ (x = c ∧ q = f) := by
  match i, h1, h2 with
  | 0, h1, h2 => simp at h1 h2; exact .inl ⟨h1.symm, h2.symm⟩
  | 1, h1, h2 => simp at h1 h2; exact .inr (.inl ⟨h1.symm, h2.symm⟩)
  | 2, h1, h2 => simp at h1 h2; exact .inr (.inr ⟨h1.symm, h2.symm⟩)
  | n + 3, h1, _ => simp at h1
theorem s_lenR (r : Rd w a (.lst vs)) (k : Q (.int vs.length) w.H) : gLen K [.ref a] w.H Q := s_lenK (SqL.of r.h) k
theorem rd_dp {ds : List PyData} (r : Rd w a (.lst vs)) (h : RpA w.S vs ds) (n : nd (.list ds) = true) : Dp K w.H (.ref a) (.list ds) := by
  unfold nd at n
  rw [List.all_eq_true] at n
  exact .lst (SqL.of r.h) (dp_monoA w.ok ds vs (RpA.dp ds vs h fun d hd => n ⟨d, hd⟩ (List.mem_attach ..)))
/-- == and != of two lists that may be read -/
theorem s_eqL {b : Addr} {us : List V} {ds es : List PyData} (r1 : Rd w a (.lst vs)) (h1 : RpA w.S vs ds) (r2 : Rd w b (.lst us)) (h2 : RpA w.S us es) (s1 : SeqAt.shaped (.list ds) = true) (s2 : SeqAt.shaped (.list es) = true)
    (k : Q (.bl (PyData.eqv (.list ds) (.list es))) w.H) : gEq K (.ref a) (.ref b) w.H Q := s_eqD (rd_dp r1 h1 (nd_shaped s1)) (rd_dp r2 h2 (nd_shaped s2)) s1 s2 k
theorem s_neL {b : Addr} {us : List V} {ds es : List PyData} (r1 : Rd w a (.lst vs)) (h1 : RpA w.S vs ds) (r2 : Rd w b (.lst us)) (h2 : RpA w.S us es) (s1 : SeqAt.shaped (.list ds) = true) (s2 : SeqAt.shaped (.list es) = true)
    (k : Q (.bl (!PyData.eqv (.list ds) (.list es))) w.H) : gNe K (.ref a) (.ref b) w.H Q := s_neD (rd_dp r1 h1 (nd_shaped s1)) (rd_dp r2 h2 (nd_shaped s2)) s1 s2 k
theorem si_rd {T : String} {b : Bool} (h : Rd w a (.lst vs)) (e : kitB "list" T = some b) (k : Q (.bl b) w.H) : rIsi K [.ref a, .ty T] w.H Q := ⟨_, .ty T, _, _, b, rfl, .ty T, .base (.lst h.h), kit_ty e, k⟩
theorem any_filter {α : Type} (f : α → Bool) (l : List α) : (!(l.filter f).isEmpty) = l.any f := by
  rw [Bool.eq_iff_iff]
  simp [List.any_eq_true, List.isEmpty_iff, List.filter_eq_nil_iff]
theorem filter_all {α : Type} (l : List α) : l.filter (fun _ => true) = l := by
  induction l with
  | nil => rfl
  | cons x r ih => rw [List.filter_cons_of_pos rfl, ih]
theorem eqv_nil (ds : List PyData) : PyData.eqv (.list ds) (.list []) = ds.isEmpty := by
  cases ds <;> simp [PyData.eqv, PyData.eqvAll]
theorem shaped_nil : SeqAt.shaped (.list []) = true := shaped_spD []
/-- xs != [] -/
theorem s_neN {b : Addr} {rows : List (Int × Int)} (r : Rd w a (.lst vs)) (h : RpA w.S vs (rows.map prD)) (s : w.S b = some (.lst [])) (k : Q (.bl (!rows.isEmpty)) w.H) : gNe K (.ref a) (.ref b) w.H Q :=
  s_neL r h (.inl s) .nil (shaped_spD rows) shaped_nil (by rw [eqv_nil, List.isEmpty_map]; exact k)
theorem s_eqN {b : Addr} {rows : List (Int × Int)} (r : Rd w a (.lst vs)) (h : RpA w.S vs (rows.map prD)) (s : w.S b = some (.lst [])) (k : Q (.bl rows.isEmpty) w.H) : gEq K (.ref a) (.ref b) w.H Q :=
  s_eqL r h (.inl s) .nil (shaped_spD rows) shaped_nil (by rw [eqv_nil, List.isEmpty_map]; exact k)
/-- pop and a store at the end -/
theorem s_pop (h : Own w a (.lst (vs ++ [y]))) (k : ∀ v, Ext (One a) w v → Own v a (.lst vs) → Q y v.H) : rPop (.ref a) [] w.H Q :=
  ⟨a, vs ++ [y], y, rfl, rfl, h.h, by simp, put (R := Q y) h fun v e o => k v e (by rw [List.dropLast_concat] at o; exact o)⟩
theorem s_setB {R : Hp → Prop} (h : Own w a (.lst (vs ++ [y]))) (k : ∀ u, Ext (One a) w u → Own u a (.lst (vs ++ [x])) → R u.H) : rSetL (.ref a) (.int (-1)) x w.H R :=
  s_setL h (m := vs.length) (by simp [ixN]; omega) fun u e o => k u e (by
    have := o
    rw [List.set_append] at this
    simpa using this)
end
section
variable {K : PySem.W.Frag} {w : Wd} {a : Addr} {vs : List V} {Q : VK} {rows : List (Int × Int)}
theorem RpA.snoc_inv {S : Hp} {d : PyData} : ∀ {ds : List PyData} {vs : List V}, RpA S vs (ds ++ [d]) → ∃ us y, vs = us ++ [y] ∧ RpA S us ds ∧ Rp S y d
  | [], _, h => by
    cases h with
    | cons h1 h2 =>
      cases h2
      exact ⟨[], _, rfl, .nil, h1⟩
  | e :: ds, _, h => by
    cases h with
    | cons h1 h2 =>
      obtain ⟨us, y, rfl, h3, h4⟩ := RpA.snoc_inv h2
      exact ⟨_ :: us, y, rfl, .cons h1 h3, h4⟩
/-- a pair at an address -/
def kP (S : Hp) : V → Int × Int
  | .ref t => match S t with
    | some (.tup [.int a, .int b]) => (a, b)
    | _ => (0, 0)
  | _ => (0, 0)
theorem kP_of {S : Hp} {x : V} {q : Int × Int} (h : Rp S x (prD q)) : kP S x = q ∧ ∃ t, x = .ref t ∧ S t = some (.tup [.int q.1, .int q.2]) := by
  obtain ⟨t, rfl, ht⟩ := pr_inv h
  exact ⟨by simp [kP, ht], t, rfl, ht⟩
theorem kP_map {S : Hp} : ∀ {vs : List V} {rows : List (Int × Int)}, RpA S vs (rows.map prD) → vs.map (kP S) = rows
  | _, [], h => by cases h; rfl
  | _, q :: r, h => by
    cases h with
    | cons h1 h2 => rw [List.map_cons, (kP_of h1).1, kP_map h2]
theorem kP_back {S : Hp} : ∀ {ys : List V}, (∀ x ∈ ys, Rp S x (prD (kP S x))) → RpA S ys ((ys.map (kP S)).map prD)
  | [], _ => .nil
  | y :: ys, h => .cons (h y List.mem_cons_self) (kP_back fun x hx => h x (List.mem_cons_of_mem _ hx))
theorem kP_all {S : Hp} : ∀ {vs : List V} {rows : List (Int × Int)}, RpA S vs (rows.map prD) → ∀ x ∈ vs, Rp S x (prD (kP S x))
  | _, [], h, x, hx => by cases h; cases hx
  | _, q :: r, h, x, hx => by
    cases h with
    | cons h1 h2 =>
      cases hx with
      | head => rw [(kP_of h1).1]; exact h1
      | tail _ hx => exact kP_all h2 x hx
def leP (p q : Int × Int) : Prop := p.1 < q.1 ∨ (p.1 = q.1 ∧ p.2 ≤ q.2)
/-- sorted of pairs -/
theorem s_sortP (h : SqL K w.H a vs) (r : RpA w.S vs (rows.map prD)) (k : ∀ p v (rows' : List (Int × Int)) vs', Ext Non w v → w.H p = none → v.S p = some (.lst vs') → RpA v.S vs' (rows'.map prD) → rows'.Perm rows → rows'.Pairwise leP → Q (.ref p) v.H) :
    rSortedPO K [.ref a] w.H Q := by
  refine ⟨a, vs, kP w.S, rfl, h, fun x hx => ?_, fun ys p hs hp hn => ?_⟩
  · obtain ⟨t, e, ht⟩ := (kP_of (kP_all r x hx)).2
    exact ⟨t, e, w.ok _ _ ht⟩
  · refine newS (Q := Q) (fun p v e n s => ?_) p hn
    have hall : ∀ x ∈ ys, Rp w.S x (prD (kP w.S x)) := fun x hx => kP_all r x (hp.perm.mem_iff.mp hx)
    refine k p v (ys.map (kP w.S)) ys e n s ((kP_back hall).go e) ?_ ?_
    · rw [← kP_map r]
      exact hp.perm.map _
    · rw [List.pairwise_map]
      refine List.Pairwise.imp (fun {x y} hxy => ?_) hs
      have := SrtO.lexB_no.mp hxy
      unfold leP
      omega
/-- a comprehension over items told by rows -/
theorem lc_gen {α : Type} {rows : List α} {J : It} {n : Nat} {G : Wd → Prop} {xs : List V} (k : WWalk J n G (YI xs)) {g : TG} {tt : TT} {te : TE} {js : List Nat} {σ : L2.St} {D : Addr} {Qd : Hp → Prop} (f : α → Bool) (gd : α → PyData) (hD : w.H D = none)
    (hlen : rows.length = n) (hz : n < sizeLine) (hG : ∀ u, Ext (One D) w u → G u)
    (hs : ∀ i x q u, i < n → xs[i]? = some x → rows[i]? = some q → Ext (One D) w u → ∀ (R : VK) (Z : Hp → Prop), (∀ v y, Ext Non u v → f q = true → Rp v.S y (gd q) → R y v.H) → (∀ v, Ext Non u v → f q = false → Z v.H) →
      g x (wipe σ js) u.H fun σ2 H2 => wipe σ2 js = wipe σ js ∧ tt σ2 H2 fun b H3 => if b = true then te σ2 H3 R else Z H3)
    (hd : ∀ u acc, Ext Non w u → w.H D = none → Own u D (.lst acc) → RpA u.S acc ((rows.filter f).map gd) → Qd u.H) :
    ∃ W : Nat → Nat → Hp → Prop, (∃ m, W 0 m (upd w.H D (.lst []))) ∧ ∀ i m H, W i m H →
      (J.stop i H ∧ Qd H) ∨ (J.go i H ∧ ∃ Nx : Hp → Prop, (∀ H', Nx H' → ∃ m', m' < m ∧ W (i + 1) m' H') ∧ ∀ x H', J.yld i H x H' → g x (wipe σ js) H' fun σ2 H2 => wipe σ2 js = wipe σ js ∧ tt σ2 H2 fun b H3 =>
        if b = true then te σ2 H3 fun y H4 => ∃ acc, H4 D = some (.lst acc) ∧ acc.length < sizeLine ∧ Nx (upd H4 D (.lst (acc ++ [y]))) else Nx H3) := by
  refine lcW k (fun i u acc => Ext (One D) w u ∧ RpA u.S acc (((rows.take i).filter f).map gd)) hD (fun u e o => ⟨e.more fun _ z => z.elim, .nil⟩) (fun i u acc _ p => hG u p.1) ?_ ?_
  · rintro i x u0 u acc hi o ⟨e, ha2⟩ ⟨rfl, hx⟩
    have hi' : i < rows.length := by omega
    have ht : rows.take (i + 1) = rows.take i ++ [rows[i]] := by rw [List.take_add_one, List.getElem?_eq_getElem hi']; rfl
    have hal : acc.length < sizeLine := by
      have h1 := ha2.length
      rw [List.length_map] at h1
      have h2 := List.length_filter_le f (rows.take i)
      rw [List.length_take] at h2
      omega
    refine hs i x rows[i] u hi hx (List.getElem?_eq_getElem hi') e _ _ (fun t y et hf hy => ?_) (fun t et hf => ?_)
    · refine lc_put (o.ext et fun z => z) hal fun z ez oz => ⟨(e.step et fun _ z => z.elim).step ez fun l hl => .inr hl, ?_⟩
      rw [ht, List.filter_append, List.filter_cons_of_pos hf, List.filter_nil, List.map_append]
      exact RpA.append ((ha2.go et).go ez) (.one (hy.go ez))
    · refine lcN_i (o.ext et fun z => z) ⟨e.step et fun _ z => z.elim, ?_⟩
      rw [ht, List.filter_append, List.filter_cons_of_neg (by rw [hf]; decide), List.filter_nil, List.append_nil]
      exact ha2.go et
  · rintro u acc ⟨e, ha2⟩ o
    refine hd u acc (e.more fun l hl => .inl (by rw [show l = D from hl]; exact hD)) hD o ?_
    rw [← hlen, List.take_length] at ha2
    exact ha2
/-- a comprehension over pairs -/
theorem lc_rows {J : It} {n : Nat} {G : Wd → Prop} {xs : List V} (k : WWalk J n G (YI xs)) {g : TG} {tt : TT} {te : TE} {js : List Nat} {σ : L2.St} {D : Addr} {Qd : Hp → Prop} (f : Int × Int → Bool) (gd : Int × Int → PyData) (hD : w.H D = none)
    (ha : RpA w.S xs (rows.map prD)) (hn : xs.length = n) (hz : n < sizeLine) (hG : ∀ u, Ext (One D) w u → G u)
    (hs : ∀ i x q u, i < n → xs[i]? = some x → rows[i]? = some q → Rp u.S x (prD q) → Ext (One D) w u → ∀ (R : VK) (Z : Hp → Prop), (∀ v y, Ext Non u v → f q = true → Rp v.S y (gd q) → R y v.H) → (∀ v, Ext Non u v → f q = false → Z v.H) →
      g x (wipe σ js) u.H fun σ2 H2 => wipe σ2 js = wipe σ js ∧ tt σ2 H2 fun b H3 => if b = true then te σ2 H3 R else Z H3)
    (hd : ∀ u acc, Ext Non w u → w.H D = none → Own u D (.lst acc) → RpA u.S acc ((rows.filter f).map gd) → Qd u.H) :
    ∃ W : Nat → Nat → Hp → Prop, (∃ m, W 0 m (upd w.H D (.lst []))) ∧ ∀ i m H, W i m H →
      (J.stop i H ∧ Qd H) ∨ (J.go i H ∧ ∃ Nx : Hp → Prop, (∀ H', Nx H' → ∃ m', m' < m ∧ W (i + 1) m' H') ∧ ∀ x H', J.yld i H x H' → g x (wipe σ js) H' fun σ2 H2 => wipe σ2 js = wipe σ js ∧ tt σ2 H2 fun b H3 =>
        if b = true then te σ2 H3 fun y H4 => ∃ acc, H4 D = some (.lst acc) ∧ acc.length < sizeLine ∧ Nx (upd H4 D (.lst (acc ++ [y]))) else Nx H3) := by
  have hlen : rows.length = n := by have := ha.length; rw [List.length_map] at this; omega
  refine lc_gen k f gd hD hlen hz hG (fun i x q u hi hx hq e R Z h1 h2 => ?_) hd
  obtain ⟨d, h3, h4⟩ := ha.get hx
  have h3' : d = prD q := by rw [List.getElem?_map, hq] at h3; exact (Option.some.inj h3).symm
  subst h3'
  exact hs i x q u hi hx hq (h4.go e) e R Z h1 h2
/-- while -/
def whN (Pv : Nat → L2.St → Wd → Prop) (m : Nat) (tb : TS) (D : Ends) (σ : L2.St) (H1 : Hp) : Prop :=
  ∃ N : L2.St → Hp → Prop, (∀ σ' H', N σ' H' → ∃ m', m' < m ∧ ∃ u : Wd, u.H = H' ∧ Pv m' σ' u) ∧ tb { D with nx := N, ct := N, bk := D.nx } σ H1
theorem s_whN {Pv : Nat → L2.St → Wd → Prop} {m : Nat} {tb : TS} {D : Ends} {σ : L2.St} {H1 : Hp} (k : tb { D with nx := wds (fun σ u => ∃ m', m' < m ∧ Pv m' σ u), ct := wds (fun σ u => ∃ m', m' < m ∧ Pv m' σ u), bk := D.nx } σ H1) : whN Pv m tb D σ H1 :=
  ⟨_, fun _ _ ⟨u, e, m', h, p⟩ => ⟨m', h, u, e, p⟩, k⟩
theorem whW {c : TT} {tb : TS} {D : Ends} {σ : L2.St} {w : Wd} (Pv : Nat → L2.St → Wd → Prop) (n : Nat) (h0 : Pv n σ w)
    (hs : ∀ m σ w, Pv m σ w → c σ w.H fun b H1 => if b = true then whN Pv m tb D σ H1 else D.nx σ H1) : tWhile c tb D σ w.H := by
  refine ⟨fun m σ H => ∃ u : Wd, u.H = H ∧ Pv m σ u, ⟨n, w, rfl, h0⟩, ?_⟩
  rintro m σ H ⟨u, rfl, p⟩
  exact hs m σ u p
/-- with what holds behind it -/
theorem whW2 {c : TT} {tb : TS} {D : Ends} {σ : L2.St} {w : Wd} (Pv : Nat → L2.St → Wd → Prop) (n : Nat) (R : L2.St → Wd → Prop) (h0 : Pv n σ w)
    (hs : ∀ (Z : L2.St → Hp → Prop), (∀ σ u, R σ u → Z σ u.H) → ∀ m σ w, Pv m σ w → c σ w.H fun b H1 => if b = true then whN Pv m tb D σ H1 else Z σ H1) (hd : ∀ σ u, R σ u → D.nx σ u.H) : tWhile c tb D σ w.H := whW Pv n h0 (hs D.nx hd)
theorem s_augA {a b : Int} {i : Nat} {D : Ends} {σ σ' : L2.St} {H : Hp} (e : σ[i]? = some (some (.int a))) (e2 : σ.set i (some (.int (a + b))) = σ') (k : D.nx σ' H) : tAug i (tC (.int b)) (ipI fun i j => i + j) D σ H := by
  subst e2
  exact ⟨.int a, e, a, b, rfl, rfl, k⟩
end
end G
namespace G
open PySem L2
theorem cut_to {xs : List V} {d : Int} (h : 0 ≤ d) : cutV xs none (some d) = xs.take d.toNat := by
  have e : HT.sIx xs.length 0 none = 0 := rfl
  unfold cutV
  rw [e, List.drop_zero, Nat.sub_zero]
  by_cases hd : d ≤ xs.length
  · have e2 : HT.sIx xs.length xs.length (some d) = d.toNat := by
      show (if d < 0 then _ else min d.toNat _) = _
      rw [if_neg (by omega)]
      omega
    rw [e2]
  · have e2 : HT.sIx xs.length xs.length (some d) = xs.length := by
      show (if d < 0 then _ else min d.toNat _) = _
      rw [if_neg (by omega)]
      omega
    rw [e2, List.take_length, List.take_of_length_le (by omega)]
theorem cut_from {xs : List V} {d : Int} (h : 0 ≤ d) : cutV xs (some d) none = xs.drop d.toNat := by
  have e : HT.sIx xs.length xs.length none = xs.length := rfl
  unfold cutV
  rw [e]
  by_cases hd : d ≤ xs.length
  · have e2 : HT.sIx xs.length 0 (some d) = d.toNat := by
      show (if d < 0 then _ else min d.toNat _) = _
      rw [if_neg (by omega)]
      omega
    rw [e2]
    exact List.take_of_length_le (by rw [List.length_drop]; omega)
  · have e2 : HT.sIx xs.length 0 (some d) = xs.length := by
      show (if d < 0 then _ else min d.toNat _) = _
      rw [if_neg (by omega)]
      omega
    rw [e2, List.drop_eq_nil_of_le (Nat.le_refl _), List.drop_eq_nil_of_le (by omega), List.take_nil]
end G
namespace G
open PySem L2
theorem can_spDs : ∀ L : List (List (Int × Int)), PyData.canLayAll0 (L.map spD) = true
  | [] => by simp [PyData.canLayAll0]
  | A :: r => by simp [PyData.canLayAll0, PyData.canLay0, can_prs, can_spDs r]
theorem dep_spDs : ∀ L : List (List (Int × Int)), PyData.depthAll (L.map spD) ≤ 3
  | [] => by simp [PyData.depthAll]
  | A :: r => by
    have := dep_spDs r
    have := dep_prs A
    simp only [List.map_cons, PyData.depthAll, PyData.depth]
    omega
theorem shaped_spDs (L : List (List (Int × Int))) : SeqAt.shaped (.list (L.map spD)) = true := by
  have h1 := dep_spDs L
  have h2 : PyData.depth (.list (L.map spD)) ≤ 64 := by simp only [PyData.depth]; omega
  show (PyData.canLay0 (.list (L.map spD)) && decide (PyData.depth (.list (L.map spD)) ≤ 64)) = true
  rw [Bool.and_eq_true]
  exact ⟨by simp only [PyData.canLay0]; exact can_spDs L, decide_eq_true h2⟩
theorem shaped_b3 (a b c : Bool) : SeqAt.shaped (.list [.bool a, .bool b, .bool c]) = true := by
  cases a <;> cases b <;> cases c <;> decide
def Thr (a b c : Addr) : Addr → Prop := fun l => l = a ∨ l = b ∨ l = c
theorem nm_thr {l a b c : Addr} (h : l ≠ a) (h2 : l ≠ b) (h3 : l ≠ c) : ¬ Thr a b c l := fun z => z.elim h fun z => z.elim h2 h3
theorem tch_thr {u : Wd} {m : Addr → Prop} {k j i : Addr} (h : u.H k = none ∨ m k) (h2 : u.H j = none ∨ m j) (h3 : u.H i = none ∨ m i) : ∀ l, Thr k j i l → u.H l = none ∨ m l := fun l e => by
  rcases e with e | e | e <;> rw [e] <;> assumption
end G
namespace G
open PySem L2
section
variable {K : PySem.W.Frag} {w : Wd} {a b : Addr} {vs us : List V} {Q : VK} {x y : V} {d : PyData} {ds : List PyData}
theorem s_eqRs (s : SeqAt.shaped d = true) (h1 : Rp w.S x d) (h2 : Rp w.S y d) (k : Q (.bl true) w.H) : gEq K x y w.H Q := s_eqR h1 h2 s s (by rw [eqv_self s]; exact k)
theorem s_neRs (s : SeqAt.shaped d = true) (h1 : Rp w.S x d) (h2 : Rp w.S y d) (k : Q (.bl false) w.H) : gNe K x y w.H Q := s_neR h1 h2 s s (by rw [eqv_self s]; exact k)
theorem s_eqLs (s : SeqAt.shaped (.list ds) = true) (r1 : Rd w a (.lst vs)) (h1 : RpA w.S vs ds) (r2 : Rd w b (.lst us)) (h2 : RpA w.S us ds) (k : Q (.bl true) w.H) : gEq K (.ref a) (.ref b) w.H Q := s_eqL r1 h1 r2 h2 s s (by rw [eqv_self s]; exact k)
theorem s_neLs (s : SeqAt.shaped (.list ds) = true) (r1 : Rd w a (.lst vs)) (h1 : RpA w.S vs ds) (r2 : Rd w b (.lst us)) (h2 : RpA w.S us ds) (k : Q (.bl false) w.H) : gNe K (.ref a) (.ref b) w.H Q := s_neL r1 h1 r2 h2 s s (by rw [eqv_self s]; exact k)
theorem shaped_b (b : Bool) : SeqAt.shaped (.bool b) = true := by cases b <;> decide
theorem s_neBs {b : Bool} (k : Q (.bl false) w.H) : gNe K (.bl b) (.bl b) w.H Q := s_neRs (shaped_b b) (.bl _) (.bl _) k
theorem shaped_2 (A B : List (Int × Int)) : SeqAt.shaped (.list [spD A, spD B]) = true := shaped_spDs [A, B]
theorem shaped_3 (A B C : List (Int × Int)) : SeqAt.shaped (.list [spD A, spD B, spD C]) = true := shaped_spDs [A, B, C]
end
end G

namespace G
open PySem L2 PyProof.Rows RZ
def rMinK (K : PySem.W.Frag) : List V → List V → Hp → VK → Prop := fun vs zs H Q => ∃ (a : Addr) (ns : List Int) (d : V), vs = [.ref a] ∧ zs = [d] ∧ SqL K H a (ns.map V.int) ∧ (ns = [] → Q d H) ∧ ∀ n r, ns = n :: r → Q (.int (r.foldl min n)) H
def rMaxK (K : PySem.W.Frag) : List V → List V → Hp → VK → Prop := fun vs zs H Q => ∃ (a : Addr) (ns : List Int) (d : V), vs = [.ref a] ∧ zs = [d] ∧ SqL K H a (ns.map V.int) ∧ (ns = [] → Q d H) ∧ ∀ n r, ns = n :: r → Q (.int (r.foldl max n)) H
theorem alike_ints (ns : List Int) : PySem.W.AlikeAll (ns.map PyData.int) := by
  refine ⟨fun x hx y hy => ?_, fun x hx => ?_⟩
  · obtain ⟨i, _, rfl⟩ := List.mem_map.mp hx
    obtain ⟨j, _, rfl⟩ := List.mem_map.mp hy
    rfl
  · obtain ⟨i, _, rfl⟩ := List.mem_map.mp hx
    exact fun z => by cases z
section
variable {X : Cx}
theorem map_ints {ns : List Int} {y : PyData} {ys : List PyData} (e : ns.map PyData.int = y :: ys) : ∃ n r, ns = n :: r ∧ y = .int n ∧ ys = r.map PyData.int := by
  cases ns with
  | nil => cases e
  | cons n r =>
    injection e with e1 e2
    exact ⟨n, r, rfl, e1.symm, e2.symm⟩
theorem cr_minK (hc : X.calm = true) (hu : X.A.units + 64 < cLine) : CallRK X (.builtin "min") [Str.ofString "default"] (rMinK X.K) := by
  intro pins s σ H xs zs us ws Q I r1 r2 h
  obtain ⟨a, ns, d, rfl, rfl, hs, q0, q1⟩ := h
  obtain ⟨its, rv, hl, _⟩ := I.list hs
  rw [Vals.ref1 r1]
  obtain ⟨u, rfl, ru⟩ := vals1 r2
  show wpAny _ _ (call (.builtin "min") [.ref a] [(Str.ofString "default", u)]) _ _ _
  have hr := PySem.W.readsAll_of_ints (h := s.heap) rv.ints
  have hd := PySem.W.depthAll_ints ns
  refine PySem.W.min_list_default (I.ok.hd hc) hl.isList (by simpa using hr) (alike_ints ns) (by omega) (fun e h' tk hk => ⟨d, H, I.kept hk, ru, q0 (by simpa using e)⟩) fun y ys i v h' tk bs e hv hr' hk => ?_
  obtain ⟨n, r, rfl, rfl, rfl⟩ := map_ints e
  rw [PySem.W.minD_ints] at hr'
  cases hr' with
  | int k t => exact ⟨.int _, H, I.kept hk, ⟨_, rfl⟩, q1 _ _ rfl⟩
theorem cr_maxK (hc : X.calm = true) (hu : X.A.units + 64 < cLine) : CallRK X (.builtin "max") [Str.ofString "default"] (rMaxK X.K) := by
  intro pins s σ H xs zs us ws Q I r1 r2 h
  obtain ⟨a, ns, d, rfl, rfl, hs, q0, q1⟩ := h
  obtain ⟨its, rv, hl, _⟩ := I.list hs
  rw [Vals.ref1 r1]
  obtain ⟨u, rfl, ru⟩ := vals1 r2
  show wpAny _ _ (call (.builtin "max") [.ref a] [(Str.ofString "default", u)]) _ _ _
  have hr := PySem.W.readsAll_of_ints (h := s.heap) rv.ints
  have hd := PySem.W.depthAll_ints ns
  refine PySem.W.max_list_default (I.ok.hd hc) hl.isList (by simpa using hr) (alike_ints ns) (by omega) (fun e h' tk hk => ⟨d, H, I.kept hk, ru, q0 (by simpa using e)⟩) fun y ys i v h' tk bs e hv hr' hk => ?_
  obtain ⟨n, r, rfl, rfl, rfl⟩ := map_ints e
  rw [PySem.W.maxD_ints] at hr'
  cases hr' with
  | int k t => exact ⟨.int _, H, I.kept hk, ⟨_, rfl⟩, q1 _ _ rfl⟩
theorem kMinK (K : PySem.W.Frag) (hc : X.calm = true) (hu : X.A.units + 64 < cLine) (e : X.K = K := by rfl) : CallRK X (.builtin "min") [Str.ofString "default"] (rMinK K) := e ▸ cr_minK hc hu
theorem kMaxK (K : PySem.W.Frag) (hc : X.calm = true) (hu : X.A.units + 64 < cLine) (e : X.K = K := by rfl) : CallRK X (.builtin "max") [Str.ofString "default"] (rMaxK K) := e ▸ cr_maxK hc hu
theorem kpRev (K : PySem.W.Frag) {tg e : Expr} {ta : TA} {p pos : Pos} (hg : Gl X "reversed") (hm : X.mg "reversed" = none) (ha : PA X [e] ta) (eK : X.K = K := by rfl) (hs : starEach [e] X.env = [(false, eval e X.env)] := by rfl) : PI X tg (.Call (.Name "reversed" p) [e] [] pos) (iRev K ta) := eK ▸ pi_reversed hg hm ha hs
def rIns : V → List V → Hp → VK → Prop := fun x vs H Q => ∃ (l : Addr) (xs : List V) (i : Int) (y : V), x = .ref l ∧ vs = [.int i, y] ∧ H l = some (.lst xs) ∧ xs.length < sizeLine ∧ 0 ≤ i ∧ i < 2 ^ 63 ∧
    Q .non (upd H l (.lst (xs.take i.toNat ++ [y] ++ xs.drop i.toNat)))
theorem mt_ins : MtR X "list.insert" rIns := mt_insert
theorem kpZip (K : PySem.W.Frag) {e e2 : Expr} {ta : TA} {p pos tpos : Pos} {elts : List Expr} {kk : Nat} (hg : Gl X "zip") (hm : X.mg "zip" = none) (ha : PA X [e, e2] ta) (eK : X.K = K := by rfl)
    (hs : starEach [e, e2] X.env = (false, eval e X.env) :: starEach [e2] X.env := by rfl) (hpl : (backTo pos (starEach [e2] X.env)).any (·.1) = false := by rfl) :
    PI X (.Tuple elts kk tpos) (.Call (.Name "zip" p) [e, e2] [] pos) (iZipA K ta) := eK ▸ pi_zipA hg hm ha hs hpl
end
section
variable {K : PySem.W.Frag} {w : Wd} {a : Addr} {vs : List V} {Q : VK} {σ : L2.St} {H : Hp} {y : V}
theorem s_CKw {r : List V → List V → Hp → VK → Prop} {t tk : TA} (k : t σ H fun vs H1 => tk σ H1 fun zs H2 => r vs zs H2 Q) : tCKw r t tk σ H Q := k
theorem s_minK {ns : List Int} {d : V} (h : w.H a = some (.lst (ns.map V.int))) (k0 : ns = [] → Q d w.H) (k : ∀ n r, ns = n :: r → Q (.int (r.foldl min n)) w.H) : rMinK K [.ref a] [d] w.H Q := ⟨a, ns, d, rfl, rfl, SqL.of h, k0, k⟩
theorem s_maxK {ns : List Int} {d : V} (h : w.H a = some (.lst (ns.map V.int))) (k0 : ns = [] → Q d w.H) (k : ∀ n r, ns = n :: r → Q (.int (r.foldl max n)) w.H) : rMaxK K [.ref a] [d] w.H Q := ⟨a, ns, d, rfl, rfl, SqL.of h, k0, k⟩
theorem s_iRev {ta : TA} {R : It → Hp → Prop} (k : ta σ H fun vs H1 => ∃ (a : Addr) (xs : List V), vs = [.ref a] ∧ SqL K H1 a xs ∧ R (Itv K a xs.length) H1) : iRev K ta σ H R := k
theorem s_iRevK {xs : List V} {R : It → Hp → Prop} (h : w.H a = some (.lst xs)) (k : R (Itv K a xs.length) w.H) : ∃ (b : Addr) (ys : List V), [V.ref a] = [V.ref b] ∧ SqL K w.H b ys ∧ R (Itv K b ys.length) w.H := ⟨a, xs, rfl, SqL.of h, k⟩
theorem ww_rev {xs : List V} : WWalk (Itv K a xs.length) xs.length (fun w => SqL K w.H a xs) (YI xs.reverse) :=
  ⟨fun i w h q => (walk_rev (K := K)).goes i w.H h q, fun w q => (walk_rev (K := K)).stops w.H q, fun i w x H' h q y => by
    obtain ⟨e, h2⟩ := (walk_rev (K := K)).yields i w.H x H' h q y
    refine ⟨w, e.symm, rfl, ?_⟩
    rw [List.getElem?_reverse h]
    exact h2⟩
theorem s_ins0 (h : Own w a (.lst vs)) (z : vs.length < sizeLine) (k : ∀ v, Ext (One a) w v → Own v a (.lst (y :: vs)) → Q .non v.H) : rIns (.ref a) [.int 0, y] w.H Q :=
  ⟨a, vs, 0, y, rfl, rfl, h.h, z, by decide, by decide, put (R := Q .non) h k⟩
theorem s_intt (k : Q (.int 1) H) : gInt [.bl true] H Q := s_intb (show Q (.int (if true = true then 1 else 0)) H from k)
theorem s_intf (k : Q (.int 0) H) : gInt [.bl false] H Q := s_intb (show Q (.int (if false = true then 1 else 0)) H from k)
theorem s_rep1 (h : w.H a = some (.lst vs)) (h3 : vs.length ≤ sizeLine) (k : ∀ p v, Ext Non w v → w.H p = none → v.S p = some (.lst vs) → Q (.ref p) v.H) : gMul K (.ref a) (.int 1) w.H Q :=
  ⟨vs, h, by decide, by decide, by simpa using h3, newS fun p v e n s => k p v e n (by simpa using s)⟩
theorem s_rep0 (h : w.H a = some (.lst vs)) (k : ∀ p v, Ext Non w v → w.H p = none → v.S p = some (.lst []) → Q (.ref p) v.H) : gMul K (.ref a) (.int 0) w.H Q :=
  ⟨vs, h, by decide, by decide, by simp, newS fun p v e n s => k p v e n (by simpa using s)⟩
/-- xs * k -/
theorem s_repS {k0 : Int} (h : w.H a = some (.lst vs)) (h1 : -(2 ^ 63) ≤ k0) (h2 : k0 < 2 ^ 63) (h3 : vs.length * k0.toNat ≤ sizeLine) (k : ∀ p v, Ext Non w v → w.H p = none → v.S p = some (.lst (List.replicate k0.toNat vs).flatten) → Q (.ref p) v.H) : gMul K (.ref a) (.int k0) w.H Q :=
  ⟨vs, h, h1, h2, h3, newS k⟩
end
end G

namespace G
open PySem L2 PyProof.Rows
/-! own classes -/
structure Mth (P : Program) (w : World) (K : PySem.W.Frag) (mg : Str → Option Value) (base : Heap) (CX : CXT) (C : Addr) (k : Nat) (m : Str) (sp : Sp) : Prop where
  ex : ∃ (f : Addr) (fd : FuncData) (ps : List Str), FnOk P w K mg base CX k f fd ps sp ∧ Meth K C m f ∧ Binds K fd ps []
structure Mkr (P : Program) (w : World) (K : PySem.W.Frag) (mg : Str → Option Value) (base : Heap) (CX : CXT) (C : Addr) (k : Nat) (sp : Sp) : Prop where
  ex : ∃ (f : Addr) (fd : FuncData) (ps : List Str), FnOk P w K mg base CX k f fd ps sp ∧ Mk K C f ∧ Binds K fd ps []
section
variable {X : Cx} {k j : Nat} {x m : Str} {C : Addr} {sp : Sp} {p pos apos : Pos} {o e : Expr} {es : List Expr} {to : TE} {t : TA} {CX : CXT} {E : XK}
theorem pe_mth {pl : Sem Bool} (c : Mth X.prog X.w X.K X.mg X.base CX C k m sp) (cl : Cls X.K C) (hr : Room j X.A) (hk : k ≤ j) (hx : Passes CX X E) (he : PE X o to) (ha : PA X (e :: es) t)
    (hst : starEach (e :: es) X.env = (false, eval e X.env) :: starEach es X.env := by rfl) (hpl : (backTo pos (starEach es X.env)).any (·.1) = false := by rfl)
    (ht : eval (.Call (.Attribute o m apos) (e :: es) [] pos) X.env = (do
      let ov ← eval o X.env
      standAt apos.atName
      let (f, first) ← holding [ov] (getMethod ov m pl)
      callWith pos f first (backTo pos (starEach (e :: es) X.env)) (backToKw pos (keywordEach [] X.env))) := by rfl) :
    PE X (.Call (.Attribute o m apos) (e :: es) [] pos) (tMeth C m sp [] E to t) := by
  obtain ⟨f, fd, ps, F, hm, hb⟩ := c.ex
  exact pe_meth (pl := pl) he cl hm F (hr.mono hk) hb .nil hx ha hst hpl ht
theorem pe_mth0 {pl : Sem Bool} (c : Mth X.prog X.w X.K X.mg X.base CX C k m sp) (cl : Cls X.K C) (hr : Room j X.A) (hk : k ≤ j) (hx : Passes CX X E) (he : PE X o to)
    (ht : eval (.Call (.Attribute o m apos) [] [] pos) X.env = (do
      let ov ← eval o X.env
      standAt apos.atName
      let (f, first) ← holding [ov] (getMethod ov m pl)
      callWith pos f first (backTo pos (starEach [] X.env)) (backToKw pos (keywordEach [] X.env))) := by rfl) :
    PE X (.Call (.Attribute o m apos) [] [] pos) (tMeth C m sp [] E to tNil) := by
  obtain ⟨f, fd, ps, F, hm, hb⟩ := c.ex
  exact pe_meth0 (pl := pl) he cl hm F (hr.mono hk) hb .nil hx ht
theorem pe_mk (c : Mkr X.prog X.w X.K X.mg X.base CX C k sp) (hr : Room j X.A) (hk : k + 1 ≤ j) (hm : X.mg x = some (.ref C)) (hx : Passes CX X E) (ha : PA X (e :: es) t) (hg : Gl X x := by rfl)
    (hdb : (x == ("__debug__" : Str)) = false := by decide) (he : starEach (e :: es) X.env = (false, eval e X.env) :: starEach es X.env := by rfl) (hpl : (backTo pos (starEach es X.env)).any (·.1) = false := by rfl) :
    PE X (.Call (.Name x p) (e :: es) [] pos) (tMake C sp [] E t) := by
  obtain ⟨f, fd, ps, F, M, hb⟩ := c.ex
  exact pe_make M F (hr.mono hk) hg hm hb .nil hx ha hdb he hpl
end
section
variable {K : PySem.W.Frag} {w : Wd} {a C dx : Addr} {fs gs : List (Str × V)} {f m : Str} {y v : V} {vs : List V} {Q : VK} {E : XK} {σ : L2.St} {H : Hp} {to te : TE} {t : TA} {D : Ends} {sp : Sp}
def rFld (K : PySem.W.Frag) (f : Str) (x : V) (H1 : Hp) (Q : VK) : Prop := ∃ a C dx fs v, x = .ref a ∧ H1 a = some (.ins C dx fs) ∧ Cls K C ∧ NoAttr K C f ∧ fs.lookup f = some v ∧ Q v H1
theorem s_fld (k : te σ H fun x H1 => rFld K f x H1 Q) : tFld K te f σ H Q := k
theorem s_rfld (h : w.H a = some (.ins C dx fs)) (c : Cls K C) (n : NoAttr K C f) (l : fs.lookup f = some v) (k : Q v w.H) : rFld K f (.ref a) w.H Q := ⟨a, C, dx, fs, v, rfl, h, c, n, l, k⟩
def rSfl (K : PySem.W.Frag) (f : Str) (y : V) (D : Ends) (σ : L2.St) (x : V) (H2 : Hp) : Prop := ∃ a C dx fs, x = .ref a ∧ H2 a = some (.ins C dx fs) ∧ Cls K C ∧ NoAttr K C f ∧ fs.length < 1000 ∧ D.nx σ (upd H2 a (.ins C dx (putF f y fs)))
theorem s_sfld (k : te σ H fun y H1 => to σ H1 fun x H2 => rSfl K f y D σ x H2) : sFld K to te f D σ H := k
theorem s_rsfl (h : Own w a (.ins C dx fs)) (c : Cls K C) (n : NoAttr K C f) (z : fs.length < 1000) (e : putF f y fs = gs) (k : ∀ v, Ext (One a) w v → Own v a (.ins C dx gs) → D.nx σ v.H) : rSfl K f y D σ (.ref a) w.H := by
  subst e
  exact ⟨a, C, dx, fs, rfl, h.h, c, n, z, put (R := D.nx σ) h k⟩
def rMeth (C : Addr) (m : Str) (t : TA) (sp : Sp) (E : XK) (Q : VK) (σ : L2.St) (x : V) (H1 : Hp) : Prop := ∃ a dx fs, x = .ref a ∧ H1 a = some (.ins C dx fs) ∧ fs.lookup m = none ∧ t σ H1 fun vs H2 => sp (x :: (vs ++ [])) H2 Q E
theorem s_meth (k : to σ H fun x H1 => rMeth C m t sp E Q σ x H1) : tMeth C m sp [] E to t σ H Q := k
theorem s_rmeth (h : w.H a = some (.ins C dx fs)) (l : fs.lookup m = none) (k : t σ w.H fun vs H2 => sp (.ref a :: (vs ++ [])) H2 Q E) : rMeth C m t sp E Q σ (.ref a) w.H := ⟨a, dx, fs, rfl, h, l, k⟩
def rMake (C : Addr) (sp : Sp) (E : XK) (Q : VK) (vs : List V) (H1 : Hp) : Prop := ∀ x dx, H1 x = none → H1 dx = none → dx ≠ x → sp (.ref x :: (vs ++ [])) (upd (upd H1 dx (.own x)) x (.ins C dx [])) (fun v H2 => v = .non ∧ Q (.ref x) H2) E
theorem s_make (k : t σ H fun vs H1 => rMake C sp E Q vs H1) : tMake C sp [] E t σ H Q := k
theorem s_rmake (k : ∀ x dx v, Ext Non w v → w.H x = none → Own v x (.ins C dx []) → sp (.ref x :: (vs ++ [])) v.H (fun r H2 => r = .non ∧ Q (.ref x) H2) E) : rMake C sp E Q vs w.H := fun x dx hx hdx hne => by
  refine newO (w := w) (o := .own x) (Q := fun r H1 => ∀ y, r = .ref y → H1 x = none → sp (.ref x :: (vs ++ [])) (upd H1 x (.ins C y [])) (fun v H2 => v = .non ∧ Q (.ref x) H2) E) (fun p v e n o y hy hxv => ?_) dx hdx dx rfl (by rw [upd_ne (Ne.symm hne)]; exact hx)
  cases hy
  refine newO (w := v) (o := .ins C p []) (Q := fun r H1 => r = .ref x → sp (.ref x :: (vs ++ [])) H1 (fun v H2 => v = .non ∧ Q (.ref x) H2) E) (fun q u e2 n2 o2 hq => ?_) x hxv rfl
  cases hq
  exact k x p u (e.step e2 fun _ z => z.elim) hx o2
theorem s_pm1 {P : Wd → V → VK → XK → Prop} (h : P w y Q E) : pr1 P (y :: ([] ++ [])) w.H Q E := ⟨w, y, rfl, rfl, h⟩
theorem s_pm2 {b : V} {P : Wd → V → V → VK → XK → Prop} (h : P w y b Q E) : pr2 P (y :: ([b] ++ [])) w.H Q E := ⟨w, y, b, rfl, rfl, h⟩
theorem s_pm3 {b c : V} {P : Wd → V → V → V → VK → XK → Prop} (h : P w y b c Q E) : pr3 P (y :: ([b, c] ++ [])) w.H Q E := ⟨w, y, b, c, rfl, rfl, h⟩
theorem lk_hd {r : List (Str × V)} : List.lookup f ((f, v) :: r) = some v := by simp [List.lookup]
theorem lk_tl {g : Str} {r : List (Str × V)} {o : Option V} (h : (f == g) = false) (t : r.lookup f = o) : List.lookup f ((g, v) :: r) = o := by
  rw [List.lookup_cons, h]
  exact t
theorem lk_nil : List.lookup f ([] : List (Str × V)) = none := rfl
theorem pf_nil : putF f y [] = [(f, y)] := rfl
theorem pf_hd {r : List (Str × V)} : putF f y ((f, v) :: r) = (f, y) :: r := by
  show (if f = f then _ else _) = _
  rw [if_pos rfl]
theorem pf_tl {g : Str} {r r' : List (Str × V)} (h : ¬ g = f) (t : putF f y r = r') : putF f y ((g, v) :: r) = (g, v) :: r' := by
  show (if g = f then _ else _) = _
  rw [if_neg h, t]
theorem kit_any2 {t u1 u2 : Value} {b1 b2 : Bool} (h1 : PySem.W.kitOne K t u1 = some b1) (h2 : PySem.W.kitOne K t u2 = some b2) : PySem.W.kitAny K t [u1, u2] = some (b1 || b2) := by
  unfold PySem.W.kitAny
  rw [h1]
  cases b1
  · show PySem.W.kitAny K t [u2] = _
    unfold PySem.W.kitAny
    rw [h2]
    cases b2 <;> rfl
  · rfl
theorem s_isiT2 {d : PyData} {tp : Addr} {T1 T2 : String} {b1 b2 : Bool} (s : w.S tp = some (.tup [.ty T1, .ty T2])) (h : Rp w.S y d) (e1 : isT T1 d = some b1) (e2 : isT T2 d = some b2) (k : Q (.bl (b1 || b2)) w.H) : rIsiT K [y, .ref tp] w.H Q :=
  ⟨y, tp, _, _, [.type T1, .type T2], _, rfl, w.ok _ _ s, .cons (.ty _) (.cons (.ty _) .nil), h.ty, kit_any2 (kit_ty e1) (kit_ty e2), k⟩
theorem s_setA {j : Nat} {R : Hp → Prop} (h : Own w a (.lst vs)) (e : j < vs.length) (k : ∀ u, Ext (One a) w u → Own u a (.lst (vs.set j y)) → R u.H) : rSetL (.ref a) (.int (j : Int)) y w.H R :=
  s_setL h (m := j) (by
    unfold ixN
    simp
    omega) k
end
section
variable {K : PySem.W.Frag} {a b : Addr} {xs ys : List V}
def YZ (xs ys : List V) : Nat → Wd → V → Wd → Prop := fun i w x v => ∃ T x1 y1, x = .ref T ∧ Ext Non w v ∧ w.H T = none ∧ v.S T = some (.tup [x1, y1]) ∧ xs[i]? = some x1 ∧ ys[i]? = some y1
theorem yz_of {w : Wd} {T : Addr} {x1 y1 : V} {i : Nat} (hT : w.H T = none) (h1 : xs[i]? = some x1) (h2 : ys[i]? = some y1) : ∃ v : Wd, v.H = upd w.H T (.tup [x1, y1]) ∧ YZ xs ys i w (.ref T) v := by
  refine newS (w := w) (o := .tup [x1, y1]) (Q := fun r H' => r = .ref T → ∃ v : Wd, v.H = H' ∧ YZ xs ys i w (.ref T) v) (fun p v e n s hq => ?_) T hT rfl
  cases hq
  exact ⟨v, rfl, T, x1, y1, rfl, e, n, s, h1, h2⟩
theorem s_iZip {ta : TA} {σ : L2.St} {H : Hp} {R : It → Hp → Prop} (k : ta σ H fun vs H1 => ∃ a b xs ys, vs = [.ref a, .ref b] ∧ ((SqL K H1 a xs ∧ SqL K H1 b ys ∧ R (Itz K a b) H1) ∨ (SqT K H1 a xs ∧ SqT K H1 b ys ∧ R (RZ.ItzT K a b) H1))) : RZ.iZipA K ta σ H R := k
theorem ww_zipL (hn : xs.length = ys.length) : WWalk (Itz K a b) xs.length (fun w => SqL K w.H a xs ∧ SqL K w.H b ys) (YZ xs ys) :=
  ⟨fun i w h q => ⟨xs, ys, xs[i], ys[i], q.1, q.2, List.getElem?_eq_getElem h, List.getElem?_eq_getElem (by omega)⟩, fun w q => ⟨xs, ys, q.1, q.2, .inl (Nat.le_refl _)⟩, fun i w x H' h q y => by
    obtain ⟨T, x1, y1, rfl, hT, rfl, h1, h2⟩ := y
    exact yz_of hT (h1 xs q.1) (h2 ys q.2)⟩
theorem ww_zipT (hn : xs.length = ys.length) : WWalk (RZ.ItzT K a b) xs.length (fun w => SqT K w.H a xs ∧ SqT K w.H b ys) (YZ xs ys) :=
  ⟨fun i w h q => ⟨xs, ys, xs[i], ys[i], q.1, q.2, List.getElem?_eq_getElem h, List.getElem?_eq_getElem (by omega)⟩, fun w q => ⟨xs, ys, q.1, q.2, .inl (Nat.le_refl _)⟩, fun i w x H' h q y => by
    obtain ⟨T, x1, y1, rfl, hT, rfl, h1, h2⟩ := y
    exact yz_of hT (h1 xs q.1) (h2 ys q.2)⟩
end
end G
namespace G
open PySem L2
theorem fn_false {P : Program} {w : World} {K : PySem.W.Frag} {mg : Str → Option Value} {base : Heap} {CX : CXT} {k : Nat} {f : Addr} {fd : FuncData} {ps : List Str} {sp : Sp} (h : ∀ vs H Q E, ¬ sp vs H Q E) : FnOk P w K mg base CX k f fd ps sp :=
  ⟨fun vs H Q E z => absurd z (h vs H Q E), fun _ _ _ _ _ _ _ _ _ _ _ _ _ z => absurd z (h _ _ _ _)⟩
theorem pr1_false {P : Wd → V → VK → XK → Prop} (h : ∀ w a Q E, ¬ P w a Q E) : ∀ vs H Q E, ¬ pr1 P vs H Q E := fun _ _ _ _ ⟨_, _, _, _, z⟩ => h _ _ _ _ z
theorem pr2_false {P : Wd → V → V → VK → XK → Prop} (h : ∀ w a b Q E, ¬ P w a b Q E) : ∀ vs H Q E, ¬ pr2 P vs H Q E := fun _ _ _ _ ⟨_, _, _, _, _, z⟩ => h _ _ _ _ _ z
end G
namespace G
open PySem L2
section
variable {w : Wd}
/-- a comprehension over two at once, each item a truth -/
theorem lc_zip {J : It} {n : Nat} {G : Wd → Prop} {xs ys : List V} (k : WWalk J n G (YZ xs ys)) {g : TG} {te : TE} {js : List Nat} {σ : L2.St} {D : Addr} {Qd : Hp → Prop} (hD : w.H D = none) (hz : n < sizeLine) (hG : ∀ u, Ext (One D) w u → G u)
    (hs : ∀ i x1 y1 T u v, i < n → xs[i]? = some x1 → ys[i]? = some y1 → Ext (One D) w u → Ext Non u v → v.S T = some (.tup [x1, y1]) → ∀ (R : VK) (Z : Hp → Prop), (∀ z, Ext Non v z → R (.bl true) z.H) →
      g (.ref T) (wipe σ js) v.H fun σ2 H2 => wipe σ2 js = wipe σ js ∧ tYes σ2 H2 fun b H3 => if b = true then te σ2 H3 R else Z H3)
    (hd : ∀ u, Ext Non w u → w.H D = none → Own u D (.lst ((List.replicate n true).map V.bl)) → Qd u.H) :
    ∃ W : Nat → Nat → Hp → Prop, (∃ m, W 0 m (upd w.H D (.lst []))) ∧ ∀ i m H, W i m H →
      (J.stop i H ∧ Qd H) ∨ (J.go i H ∧ ∃ Nx : Hp → Prop, (∀ H', Nx H' → ∃ m', m' < m ∧ W (i + 1) m' H') ∧ ∀ x H', J.yld i H x H' → g x (wipe σ js) H' fun σ2 H2 => wipe σ2 js = wipe σ js ∧ tYes σ2 H2 fun b H3 =>
        if b = true then te σ2 H3 fun y H4 => ∃ acc, H4 D = some (.lst acc) ∧ acc.length < sizeLine ∧ Nx (upd H4 D (.lst (acc ++ [y]))) else Nx H3) := by
  refine lcW k (fun i u acc => Ext (One D) w u ∧ acc = (List.replicate i true).map V.bl) hD (fun u e o => ⟨e.more fun _ z => z.elim, rfl⟩) (fun i u acc _ p => hG u p.1) ?_ ?_
  · rintro i x u v acc hi o ⟨e, rfl⟩ ⟨T, x1, y1, rfl, ev, nv, sv, h1, h2⟩
    refine hs i x1 y1 T u v hi h1 h2 e ev sv _ _ fun z ez => ?_
    refine lc_put ((o.ext ev fun z => z).ext ez fun z => z) (by simp; omega) fun t et ot => ⟨((e.step ev fun _ z => z.elim).step ez fun _ z => z.elim).step et fun l hl => .inr hl, ?_⟩
    rw [List.replicate_succ', List.map_append]
    rfl
  · rintro u acc ⟨e, rfl⟩ o
    exact hd u (e.more fun l hl => .inl (by rw [show l = D from hl]; exact hD)) hD o
end
end G
namespace G
open PySem L2
section
variable {w : Wd}
/-- a comprehension over a range, each item told by something with P -/
theorem lc_rng {α : Type} {P : α → Prop} {gd : α → PyData} {n : Nat} {lo : Int} {g : TG} {te : TE} {js : List Nat} {σ : L2.St} {D : Addr} {Qd : Hp → Prop} (hD : w.H D = none) (hz : n < sizeLine)
    (hs : ∀ i u, i < n → Ext (One D) w u → ∀ (R : VK) (Z : Hp → Prop), (∀ v y d, Ext Non u v → P d → Rp v.S y (gd d) → R y v.H) →
      g (.int (lo + i)) (wipe σ js) u.H fun σ2 H2 => wipe σ2 js = wipe σ js ∧ tYes σ2 H2 fun b H3 => if b = true then te σ2 H3 R else Z H3)
    (hd : ∀ u acc (ds : List α), Ext Non w u → w.H D = none → Own u D (.lst acc) → RpA u.S acc (ds.map gd) → ds.length = n → (∀ d ∈ ds, P d) → Qd u.H) :
    ∃ W : Nat → Nat → Hp → Prop, (∃ m, W 0 m (upd w.H D (.lst []))) ∧ ∀ i m H, W i m H →
      ((Itr lo n).stop i H ∧ Qd H) ∨ ((Itr lo n).go i H ∧ ∃ Nx : Hp → Prop, (∀ H', Nx H' → ∃ m', m' < m ∧ W (i + 1) m' H') ∧ ∀ x H', (Itr lo n).yld i H x H' → g x (wipe σ js) H' fun σ2 H2 => wipe σ2 js = wipe σ js ∧ tYes σ2 H2 fun b H3 =>
        if b = true then te σ2 H3 fun y H4 => ∃ acc, H4 D = some (.lst acc) ∧ acc.length < sizeLine ∧ Nx (upd H4 D (.lst (acc ++ [y]))) else Nx H3) := by
  refine lcW (ww_range (lo := lo) (m := n)) (fun i u acc => Ext (One D) w u ∧ ∃ ds : List α, RpA u.S acc (ds.map gd) ∧ ds.length = i ∧ ∀ d ∈ ds, P d) hD (fun u e o => ⟨e.more fun _ z => z.elim, [], .nil, rfl, fun d h => by cases h⟩) (fun _ _ _ _ _ => trivial) ?_ ?_
  · rintro i x u0 u acc hi o ⟨e, ds, hr, hl, hp⟩ ⟨rfl, rfl⟩
    have hal : acc.length < sizeLine := by
      have h1 := hr.length
      rw [List.length_map] at h1
      omega
    refine hs i u hi e _ _ fun v y d ev hd hy => ?_
    refine lc_put (o.ext ev fun z => z) hal fun t et ot => ⟨(e.step ev fun _ z => z.elim).step et fun l hl => .inr hl, ds ++ [d], ?_, by simp [hl], fun d' hd' => ?_⟩
    · rw [List.map_append]
      exact RpA.append ((hr.go ev).go et) (.one (hy.go et))
    · rcases List.mem_append.mp hd' with h | h
      · exact hp d' h
      · rw [List.mem_singleton.mp h]; exact hd
  · rintro u acc ⟨e, ds, hr, hl, hp⟩ o
    exact hd u acc ds (e.more fun l hl => .inl (by rw [show l = D from hl]; exact hD)) hD o hr hl hp
end
def optD : Option Int → PyData
  | none => .none
  | some n => .int n
end G
namespace G
open PySem L2
/-- lent for a while: what one owns is read as if it stood for good -/
theorem lend {w : Wd} {r : Addr} {o : HO} (h : Own w r o) : ∃ w' : Wd, w'.H = w.H ∧ w'.S r = some o ∧ Same w.S w'.S ∧ ∀ v, Ext Non w' v → ∃ u : Wd, u.H = v.H ∧ Ext Non w u := by
  have sm : Same w.S (upd w.S r o) := fun b q x => by
    rw [upd_ne (fun e => by rw [e, h.s] at x; cases x)]
    exact x
  refine ⟨⟨upd w.S r o, w.H, fun b q x => ?_⟩, rfl, upd_same, sm, fun v e => ?_⟩
  · by_cases c : b = r
    · rw [c, upd_same] at x
      rw [c]
      exact (Option.some.inj x) ▸ h.h
    · rw [upd_ne c] at x
      exact w.ok b q x
  · refine ⟨⟨fun b => if b = r then none else v.S b, v.H, fun b q x => ?_⟩, rfl, ⟨fun b q x => ?_, fun b q _ x => e.hp b q (fun z => z) x, fun b _ x z => ?_, fun b x => e.al b x⟩⟩
    · by_cases c : b = r
      · simp [c] at x
      · simp [c] at x
        exact v.ok b q x
    · have c : b ≠ r := fun c => by rw [c, h.s] at x; cases x
      show (if b = r then none else v.S b) = some q
      rw [if_neg c]
      exact e.st b q (sm b q x)
    · show (if b = r then none else v.S b) = none
      by_cases c : b = r
      · rw [if_pos c]
      · rw [if_neg c]
        exact e.nw b (fun z => z) (by show upd w.S r o b = none; rw [upd_ne c]; exact x) z
end G
namespace G
open PySem L2
/-- an if without an else, told by what holds behind it -/
theorem s_ifJ {c : TT} {t : TS} {D : Ends} {σ : L2.St} {w : Wd} (R : L2.St → Wd → Prop) (h : ∀ Z : L2.St → Hp → Prop, (∀ σ u, R σ u → Z σ u.H) → tIfS c t tNext { D with nx := Z } σ w.H) (hd : ∀ σ u, R σ u → D.nx σ u.H) : tIfS c t tNext D σ w.H := h D.nx hd
end G

namespace G
open PySem L2
theorem pe_gco {X : Cx} {x : Str} {v : V} {pos : Pos} (hg : Gl X x) (c : ∃ u, X.mg x = some u ∧ RelV v u) (hd : (x == ("__debug__" : Str)) = false := by decide) : PE X (.Name x pos) (tC v) := by
  obtain ⟨u, hm, r⟩ := c
  exact pe_glob hg hm r hd
/-! texts -/
/-- at most n signs, all of the first 128 -/
def Tx (n : Nat) (z : Str) : Prop := z.length ≤ n ∧ ∀ c ∈ z.cps.toList, c < 128
section
variable {a b z : Str} {n m : Nat}
theorem Tx.mono (h : Tx n z) (k : n ≤ m) : Tx m z := ⟨Nat.le_trans h.1 k, h.2⟩
theorem Tx.app (h1 : Tx n a) (h2 : Tx m b) : Tx (n + m) (a ++ b) := by
  have e : (a ++ b).cps.toList = a.cps.toList ++ b.cps.toList := Array.toList_append
  refine ⟨?_, fun c hc => ?_⟩
  · have h3 : (a ++ b).length = a.length + b.length := by
      show (a ++ b).cps.size = a.cps.size + b.cps.size
      rw [← Array.length_toList, e, List.length_append, Array.length_toList, Array.length_toList]
    have := h1.1
    have := h2.1
    omega
  · rw [e] at hc
    rcases List.mem_append.mp hc with h | h
    · exact h1.2 c h
    · exact h2.2 c h
theorem Tx.cut (h : Tx n z) (lo hi : Option Int) : Tx n (cutS z lo hi) := by
  refine ⟨?_, fun c hc => h.2 c (List.mem_of_mem_drop (List.mem_of_mem_take (by simpa [cutS] using hc)))⟩
  show (cutS z lo hi).cps.size ≤ n
  have h1 : (cutS z lo hi).cps.size ≤ z.cps.toList.length := by
    simp only [cutS, List.size_toArray, List.length_take, List.length_drop]
    omega
  rw [Array.length_toList] at h1
  exact Nat.le_trans h1 h.1
theorem Tx.one {c : Nat} (h : c < 128) : Tx 1 ⟨#[c]⟩ := ⟨Nat.le_refl _, fun d hd => by
  have : d = c := by simpa using hd
  rw [this]; exact h⟩
theorem Tx.ok (h : Tx n z) : PyData.strOk z = true := by
  unfold PyData.strOk
  rw [Array.all_eq_true_iff_forall_mem]
  intro c hc
  have := h.2 c (by simpa using hc)
  exact decide_eq_true (by omega)
end
section
variable {K : PySem.W.Frag} {H : Hp} {Q : VK} {a b z : Str}
theorem s_lenZ (h : z.length ≤ sizeLine) (k : Q (.int z.length) H) : gLen K [.str z] H Q := ⟨h, k⟩
theorem s_addZ (h : a.length + b.length ≤ sizeLine) (k : Q (.str (a ++ b)) H) : gAdd K (.str a) (.str b) H Q := ⟨h, k⟩
theorem s_slZ {lo hi : Option Int} (h : z.length ≤ sizeLine) (k : Q (.str (cutS z lo hi)) H) : gSl K (.str z) lo hi H Q := ⟨h, k⟩
theorem s_ixZ {j : Int} (hz : z.length ≤ sizeLine) (h0 : 0 ≤ j) (h1 : j < z.length) (k : ∀ c, c ∈ z.cps.toList → Q (.str ⟨#[c]⟩) H) : gIx K (.str z) (.int j) H Q := by
  have hl : j.toNat < z.cps.toList.length := by
    rw [Array.length_toList]
    show j.toNat < z.length
    omega
  refine ⟨z.cps.toList[j.toNat], hz, ?_, k _ (List.getElem_mem hl)⟩
  rw [atI_nn h0 (by omega), List.getElem?_eq_getElem hl]
theorem s_inZ {c : Nat} (k : Q (.bl (decide (c ∈ z.cps.toList))) H) : gIn K (.str ⟨#[c]⟩) (.str z) H Q := ⟨c, rfl, k⟩
theorem s_leZ (k : Q (.bl (!decide (b.cps.toList < a.cps.toList))) H) : gLe (.str a) (.str b) H Q := k
def zV (z : Str) : List V := z.cps.toList.map fun c => .str ⟨#[c]⟩
theorem zV_len : (zV z).length = z.cps.size := by unfold zV; rw [List.length_map, Array.length_toList]
theorem ww_strI : WWalk (Its z) z.cps.size (fun _ => True) (YI (zV z)) :=
  ⟨fun i w h q => ww_str.goes i w h q, fun w q => ww_str.stops w q, fun i w x H' h q y => by
    obtain ⟨v, e, e1, c, e2, rfl⟩ := ww_str.yields i w x H' h q y
    refine ⟨v, e, e1, ?_⟩
    unfold zV
    rw [List.getElem?_map, Array.getElem?_toList, e2]
    rfl⟩
end
end G
namespace G
open PySem L2
theorem Tx.sz {n : Nat} {z : Str} (h : Tx n z) (k : n ≤ 16777216) : z.length ≤ sizeLine := by
  rw [sizeLine_eq]
  exact Nat.le_trans h.1 k
theorem Tx.sum {n m : Nat} {a b : Str} (h1 : Tx n a) (h2 : Tx m b) (k : n + m ≤ 16777216) : a.length + b.length ≤ sizeLine := by
  rw [sizeLine_eq]
  have := h1.1
  have := h2.1
  omega
theorem can_strs : ∀ zs : List Str, (∀ z ∈ zs, PyData.strOk z = true) → PyData.canLayAll0 (zs.map PyData.str) = true
  | [], _ => by simp [PyData.canLayAll0]
  | z :: r, h => by
    simp [PyData.canLayAll0, PyData.canLay0, can_strs r fun x hx => h x (List.mem_cons_of_mem _ hx), h z List.mem_cons_self]
theorem dep_strs : ∀ zs : List Str, PyData.depthAll (zs.map PyData.str) ≤ 1
  | [] => by simp [PyData.depthAll]
  | z :: r => by
    have := dep_strs r
    simp only [List.map_cons, PyData.depthAll, PyData.depth]
    omega
theorem shaped_strs {zs : List Str} (h : ∀ z ∈ zs, PyData.strOk z = true) : SeqAt.shaped (.list (zs.map PyData.str)) = true := by
  have h1 := dep_strs zs
  have h2 : PyData.depth (.list (zs.map PyData.str)) ≤ 64 := by simp only [PyData.depth]; omega
  show (PyData.canLay0 (.list (zs.map PyData.str)) && decide (PyData.depth (.list (zs.map PyData.str)) ≤ 64)) = true
  rw [Bool.and_eq_true]
  exact ⟨by simp only [PyData.canLay0]; exact can_strs zs h, decide_eq_true h2⟩
end G
namespace G
open PySem L2
theorem tx_nil : Tx 0 (Str.ofString "") := ⟨by decide, fun c hc => by revert hc; decide +revert⟩
theorem tx_join : ∀ {zs : List Str}, (∀ z ∈ zs, Tx 1 z) → Tx zs.length (Str.join (Str.ofString "") zs)
  | [], _ => tx_nil
  | [x], h => h x List.mem_cons_self
  | x :: z :: r, h => by
    have h1 := (Tx.app (h x List.mem_cons_self) tx_nil).app (tx_join (zs := z :: r) fun y hy => h y (List.mem_cons_of_mem _ hy))
    refine Tx.mono (m := (x :: z :: r).length) h1 ?_
    simp
    omega
section
variable {w : Wd}
/-- a comprehension over a range whose items touch m, I holding all along -/
theorem lc_rngI {α : Type} {P : α → Prop} {gd : α → PyData} (m : Addr → Prop) (I : Wd → Prop) {n : Nat} {lo : Int} {g : TG} {te : TE} {js : List Nat} {σ : L2.St} {D : Addr} {Qd : Hp → Prop} (hD : w.H D = none) (hmD : ¬ m D) (hz : n < sizeLine) (hI0 : ∀ u, Ext Non w u → I u) (hI : ∀ u v, I u → Ext (One D) u v → I v)
    (hs : ∀ i u, i < n → Ext (fun l => m l ∨ l = D) w u → I u → ∀ (R : VK) (Z : Hp → Prop), (∀ v y d, Ext m u v → I v → P d → Rp v.S y (gd d) → R y v.H) →
      g (.int (lo + i)) (wipe σ js) u.H fun σ2 H2 => wipe σ2 js = wipe σ js ∧ tYes σ2 H2 fun b H3 => if b = true then te σ2 H3 R else Z H3)
    (hd : ∀ u acc (ds : List α), Ext m w u → I u → w.H D = none → Own u D (.lst acc) → RpA u.S acc (ds.map gd) → ds.length = n → (∀ d ∈ ds, P d) → Qd u.H) :
    ∃ W : Nat → Nat → Hp → Prop, (∃ m, W 0 m (upd w.H D (.lst []))) ∧ ∀ i m H, W i m H →
      ((Itr lo n).stop i H ∧ Qd H) ∨ ((Itr lo n).go i H ∧ ∃ Nx : Hp → Prop, (∀ H', Nx H' → ∃ m', m' < m ∧ W (i + 1) m' H') ∧ ∀ x H', (Itr lo n).yld i H x H' → g x (wipe σ js) H' fun σ2 H2 => wipe σ2 js = wipe σ js ∧ tYes σ2 H2 fun b H3 =>
        if b = true then te σ2 H3 fun y H4 => ∃ acc, H4 D = some (.lst acc) ∧ acc.length < sizeLine ∧ Nx (upd H4 D (.lst (acc ++ [y]))) else Nx H3) := by
  refine lcW (ww_range (lo := lo) (m := n)) (fun i u acc => Ext (fun l => m l ∨ l = D) w u ∧ I u ∧ ∃ ds : List α, RpA u.S acc (ds.map gd) ∧ ds.length = i ∧ ∀ d ∈ ds, P d) hD (fun u e o => ⟨e.more fun _ z => z.elim, hI0 u e, [], .nil, rfl, fun d h => by cases h⟩) (fun _ _ _ _ _ => trivial) ?_ ?_
  · rintro i x u0 u acc hi o ⟨e, iu, ds, hr, hl, hp⟩ ⟨rfl, rfl⟩
    have hal : acc.length < sizeLine := by
      have h1 := hr.length
      rw [List.length_map] at h1
      omega
    refine hs i u hi e iu _ _ fun v y d ev iv hd hy => ?_
    refine lc_put (o.ext ev hmD) hal fun t et ot => ⟨(e.step ev fun l hl => .inr (.inl hl)).step et fun l hl => .inr (.inr hl), hI v t iv et, ds ++ [d], ?_, by simp [hl], fun d' hd' => ?_⟩
    · rw [List.map_append]
      exact RpA.append ((hr.go ev).go et) (.one (hy.go et))
    · rcases List.mem_append.mp hd' with h | h
      · exact hp d' h
      · rw [List.mem_singleton.mp h]; exact hd
  · rintro u acc ⟨e, iu, ds, hr, hl, hp⟩ o
    exact hd u acc ds (e.more fun l hl => hl.elim .inr fun h => .inl (by rw [h]; exact hD)) iu hD o hr hl hp
end
end G
namespace G
open PySem L2
theorem tx_sum : ∀ {zs : List Str}, (∀ z ∈ zs, Tx 1 z) → (zs.map (·.length)).sum ≤ zs.length
  | [], _ => by simp
  | z :: r, h => by
    have h1 := tx_sum (zs := r) fun y hy => h y (List.mem_cons_of_mem _ hy)
    have h2 := (h z List.mem_cons_self).1
    simp only [List.map_cons, List.sum_cons, List.length_cons]
    omega
end G
namespace G
open PySem L2
theorem tx_pos {z : Str} (h : ¬ z = Str.ofString "") : 0 < z.length := by
  rcases Nat.eq_zero_or_pos z.length with e | e
  · refine absurd ?_ h
    obtain ⟨a⟩ := z
    have e2 : a = #[] := Array.eq_empty_of_size_eq_zero e
    rw [e2]
    rfl
  · exact e
end G
namespace G
open PySem L2
theorem tx_int {a : Int} (h : a.natAbs < 10 ^ 40) : Tx 41 (Str.ofString (toString a)) := by
  refine ⟨?_, fun c hc => ?_⟩
  · have e := int_text_length_le10 (k := 40) (by decide) h
    rw [ofString_length]
    exact e
  · by_cases k : c = 45 ∨ (48 ≤ c ∧ c ≤ 57)
    · omega
    · exact absurd hc (PyProof.Rows.int_text_free' c (by omega) a)
theorem tx_a : Tx 1 (Str.ofString "a") := Tx.one (c := 97) (by decide)
end G

namespace G
open PySem L2
/-- a def's name as a value; a call of a local name that holds a def -/
abbrev Hd (P : Program) (w : World) (K : PySem.W.Frag) (mg : Str → Option Value) (base : Heap) (k : Nat) : Addr → Sp → Prop := fun f sp => Held P w K mg base k f sp
def tFnV (A : Addr → Sp → Prop) (sp : Sp) : TE := fun _ H Q => ∀ f, A f sp → Q (.ref f) H
def tCallH (A : Addr → Sp → Prop) (i : Nat) (t : TA) : TE := fun σ H Q => ∃ f sp, σ[i]? = some (some (.ref f)) ∧ A f sp ∧ t σ H fun vs H1 => sp vs H1 Q (fun _ _ _ => False)
section
variable {X : Cx} {k k0 i : Nat} {x : Str} {sp : Sp} {p pos : Pos} {e : Expr} {es : List Expr} {t : TA}
theorem pe_fnv (c : Fnc X.prog X.w X.K X.mg X.base CX0 k0 x sp) (hk : k0 ≤ k) (hg : Gl X x := by rfl) (hd : (x == ("__debug__" : Str)) = false := by decide) : PE X (.Name x pos) (tFnV (Hd X.prog X.w X.K X.mg X.base k) sp) := by
  obtain ⟨f, fd, ps, F, hm, hkp, hb⟩ := c.ex
  exact ⟨fun pins s σ H Q I h => (pe_glob (v := .ref f) hg hm rfl hd).run pins s σ H Q I (h f ⟨fd, ps, F.mono hk, hkp, hb⟩)⟩
theorem pe_callHd (hr : Room k X.A) (hN : X.N[i]? = some x) (hv : Vis X.env.scope x) (ha : PA X (e :: es) t)
    (hdb : (x == ("__debug__" : Str)) = false := by decide) (hcd : (x == ("__classdict__" : Str)) = false := by decide)
    (he : starEach (e :: es) X.env = (false, eval e X.env) :: starEach es X.env := by rfl) (hpl : (backTo pos (starEach es X.env)).any (·.1) = false := by rfl) :
    PE X (.Call (.Name x p) (e :: es) [] pos) (tCallH (Hd X.prog X.w X.K X.mg X.base k) i t) := by
  refine ⟨fun pins s σ H Q I h => ?_⟩
  obtain ⟨f, sp, hs, hH, ht⟩ := h
  refine (pe_callA (S := fun a => if a = f then some sp else none) (fun g sq hg => ?_) hr hN hv ha hdb hcd he hpl).run pins s σ H Q I ⟨f, sp, hs, if_pos rfl, ht⟩
  by_cases c : g = f
  · have hg : (if g = f then some sp else none) = some sq := hg
    rw [if_pos c] at hg
    cases hg
    rw [c]
    exact hH
  · have hg : (if g = f then some sp else none) = some sq := hg
    rw [if_neg c] at hg
    cases hg
end
section
variable {A : Addr → Sp → Prop} {σ : L2.St} {H : Hp} {Q : VK} {sp : Sp} {t : TA} {i : Nat} {f : Addr}
theorem s_fnv (k : ∀ f, A f sp → Q (.ref f) H) : tFnV A sp σ H Q := k
theorem s_callH (e : σ[i]? = some (some (.ref f))) (h : A f sp) (k : t σ H fun vs H1 => sp vs H1 Q (fun _ _ _ => False)) : tCallH A i t σ H Q := ⟨f, sp, e, h, k⟩
theorem s_pn1 {P : Wd → V → VK → XK → Prop} {w : Wd} {a : V} {E : XK} (h : P w a Q E) : pr1 P [a] w.H Q E := ⟨w, a, rfl, rfl, h⟩
end
end G

set_option linter.all false
set_option maxRecDepth 100000
namespace G
open PySem L2 TL
/-! texts told by their signs -/
theorem str_iff {a b : Str} : a = b ↔ tl a = tl b := ⟨fun h => h ▸ rfl, ext_tl⟩
theorem tl_one {c : Nat} : tl ⟨#[c]⟩ = [c] := rfl
theorem one_iff {c d : Nat} : ((⟨#[c]⟩ : Str) = ⟨#[d]⟩) ↔ c = d := by rw [str_iff, tl_one, tl_one]; simp
theorem cutZ_from {z : Str} {d : Int} (h : 0 ≤ d) : tl (cutS z (some d) none) = (tl z).drop d.toNat := by
  have e : HT.sIx z.length z.length none = z.length := rfl
  have el := len_tl z
  unfold cutS
  rw [tl_mk, e]
  show (((tl z).drop _).take _) = _
  obtain ⟨n, rfl⟩ := Int.eq_ofNat_of_zero_le h
  show ((tl z).drop (HT.sIx z.length 0 (some ((n : Nat) : Int)))).take (z.length - HT.sIx z.length 0 (some ((n : Nat) : Int))) = (tl z).drop n
  rw [HT.sIx_nat]
  by_cases hn : n ≤ z.length
  · rw [Nat.min_eq_left hn]
    exact List.take_of_length_le (by rw [List.length_drop]; omega)
  · rw [Nat.min_eq_right (by omega), List.drop_of_length_le (show (tl z).length ≤ n by omega)]
    rw [List.drop_of_length_le (by omega)]
    simp
theorem cutZ_to {z : Str} {d : Int} (h : 0 ≤ d) : tl (cutS z none (some d)) = (tl z).take d.toNat := by
  have el := len_tl z
  unfold cutS
  rw [tl_mk]
  obtain ⟨n, rfl⟩ := Int.eq_ofNat_of_zero_le h
  show ((tl z).drop 0).take (HT.sIx z.length z.length (some ((n : Nat) : Int)) - 0) = (tl z).take n
  rw [HT.sIx_nat, Nat.sub_zero, List.drop_zero]
  by_cases hn : n ≤ z.length
  · rw [Nat.min_eq_left hn]
  · rw [Nat.min_eq_right (by omega), List.take_of_length_le (by omega), List.take_of_length_le (by omega)]
theorem cutZ_all {z : Str} : cutS z none none = z := by
  refine ext_tl ?_
  have el := len_tl z
  unfold cutS
  rw [tl_mk]
  show ((tl z).drop 0).take (z.length - 0) = tl z
  rw [List.drop_zero, List.take_of_length_le (by omega)]
theorem cutZ_back {z : Str} : tl (cutS z none (some (-1))) = (tl z).dropLast := by
  have el := len_tl z
  unfold cutS
  rw [tl_mk]
  show ((tl z).drop 0).take (HT.sIx z.length z.length (some (-1)) - 0) = _
  rw [List.drop_zero, Nat.sub_zero, List.dropLast_eq_take]
  show (tl z).take (((-1 : Int) + (z.length : Int)).toNat) = _
  congr 1
  omega
section
variable {K : PySem.W.Frag} {w : Wd} {H : Hp} {Q : VK} {σ : L2.St} {a b z : Str}
theorem s_ixZe {j : Int} (hz : z.length ≤ sizeLine) (h0 : 0 ≤ j) (h1 : j < z.length) (k : ∀ c, (tl z)[j.toNat]? = some c → Q (.str ⟨#[c]⟩) H) : gIx K (.str z) (.int j) H Q := by
  have hl : j.toNat < (tl z).length := by
    have := len_tl z
    omega
  refine ⟨(tl z)[j.toNat], hz, ?_, k _ (List.getElem?_eq_getElem hl)⟩
  have hl' : j.toNat < z.cps.toList.length := hl
  rw [atI_nn h0 (by omega)]
  exact List.getElem?_eq_getElem hl'
theorem s_intZ {n : Int} (h : PySem.intText? z = some n) (h2 : z.length ≤ 640) (k : Q (.int n) H) : gInt [.str z] H Q := ⟨n, h, h2, k⟩
theorem s_spl {ys : List Str} (k : ∀ p v, Ext Non w v → w.H p = none → v.S p = some (.lst (ys.map V.str)) → Q (.ref p) v.H) : rNewStrs ys w.H Q := newS k
def rSplit : V → List V → Hp → VK → Prop := fun x xs H Q => ∃ a b, x = .str a ∧ xs = [.str b] ∧ (b.length == 0) = false ∧ a.length + 2 ≤ sizeLine ∧ rNewStrs (PySem.Txt.split a b) H Q
theorem pe_spl {X : Cx} {o e : Expr} {to te : TE} {apos pos : Pos} (ho : PE X o to) (he : PE X e te) (hs : starEach [e] X.env = [(false, eval e X.env)] := by rfl) (hbase : attributeBase o "split" X.env (eval o X.env) = eval o X.env := by rfl) (hline : (apos.endLine == pos.line) = true := by rfl) :
    PE X (.Call (.Attribute o "split" apos) [e] [] pos) (tM1 rSplit to te) := pe_split ho he hs hbase hline
theorem s_split (hb : (b.length == 0) = false) (hz : a.length + 2 ≤ sizeLine) (k : ∀ p v, Ext Non w v → w.H p = none → v.S p = some (.lst ((PySem.Txt.split a b).map V.str)) → Q (.ref p) v.H) : rSplit (.str a) [.str b] w.H Q := ⟨a, b, rfl, rfl, hb, hz, s_spl k⟩
/-- a figure's place among the figures -/
def figs : Str := Str.ofString "0123456789"
def rIdxF : V → List V → Hp → VK → Prop := fun x xs H Q => ∃ c : Nat, x = .str figs ∧ xs = [.str ⟨#[c]⟩] ∧ 48 ≤ c ∧ c ≤ 57 ∧ Q (.int ((c - 48 : Nat) : Int)) H
theorem mt_idxF {X : Cx} : MtR X "str.index" rIdxF := by
  intro pins s σ H x xs v us Q I rx rs h
  obtain ⟨c, e1, e2, h1, h2, q⟩ := h
  refine mt_sindex pins s σ H x xs v us Q I rx rs ⟨figs, ⟨#[c]⟩, c - 48, [], e1, e2, ?_, q⟩
  clear q e2 rs
  have hc : c = 48 ∨ c = 49 ∨ c = 50 ∨ c = 51 ∨ c = 52 ∨ c = 53 ∨ c = 54 ∨ c = 55 ∨ c = 56 ∨ c = 57 := by omega
  rcases hc with rfl | rfl | rfl | rfl | rfl | rfl | rfl | rfl | rfl | rfl <;> decide +kernel
theorem s_idxF {c : Nat} (h1 : 48 ≤ c) (h2 : c ≤ 57) (k : Q (.int ((c - 48 : Nat) : Int)) H) : rIdxF (.str (Str.ofString "0123456789")) [.str ⟨#[c]⟩] H Q := ⟨c, rfl, rfl, h1, h2, k⟩
def rZf2 : V → List V → Hp → VK → Prop := fun x xs H Q => ∃ (a : Str), x = .str a ∧ xs = [.int 2] ∧ Q (.str (PySem.Txt.zfill a 2)) H
theorem mt_zf2 {X : Cx} : MtR X "str.zfill" rZf2 := by
  intro pins s σ H x xs v us Q I rx rs h
  obtain ⟨a, e1, e2, q⟩ := h
  exact mt_zfill pins s σ H x xs v us Q I rx rs ⟨a, 2, e1, e2, rfl, q⟩
theorem s_zf2 (k : Q (.str (PySem.Txt.zfill a 2)) H) : rZf2 (.str a) [.int 2] H Q := ⟨a, rfl, rfl, k⟩
def gFmt (x : V) (H : Hp) (Q : VK) : Prop := (∃ y : Str, x = .str y ∧ y.length ≤ sizeLine ∧ Q (.str y) H) ∨ ∃ i : Int, x = .int i ∧ i.natAbs.log2 < 1920 ∧ Q (.str (toString i)) H
theorem s_fmt {te : TE} (k : te σ H fun x H1 => gFmt x H1 Q) : tFmt te σ H Q := k
theorem s_fmtS (h : z.length ≤ sizeLine) (k : Q (.str z) H) : gFmt (.str z) H Q := .inl ⟨z, rfl, h, k⟩
theorem s_fmtI {i : Int} (h : i.natAbs.log2 < 1920) (k : Q (.str (toString i)) H) : gFmt (.int i) H Q := .inr ⟨i, rfl, h, k⟩
theorem s_js0 {acc : Str} {R : Str → Hp → Prop} (k : R acc H) : tJs [] acc σ H R := k
theorem s_js {t : TE} {ts : List TE} {acc : Str} {R : Str → Hp → Prop} (k : t σ H fun x H1 => ∃ y : Str, x = .str y ∧ (acc ++ y).length ≤ sizeLine ∧ tJs ts (acc ++ y) σ H1 R) : tJs (t :: ts) acc σ H R := k
theorem s_jsp {acc : Str} {R : Str → Prop} (h : (acc ++ z).length ≤ sizeLine) (k : R z) : ∃ y : Str, V.str z = .str y ∧ (acc ++ y).length ≤ sizeLine ∧ R y := ⟨z, rfl, h, k⟩
def tJn (ts : List TE) : TE := fun σ H Q => tJs ts Str.empty σ H fun out H1 => Q (.str out) H1
theorem pe_jn {X : Cx} {v1 v2 : Expr} {rest : List Expr} {ts : List TE} {pos : Pos} (h : PJ X (v1 :: v2 :: rest) ts) : PE X (.JoinedStr (v1 :: v2 :: rest) pos) (tJn ts) := pe_joined h
theorem s_jn {ts : List TE} (k : tJs ts Str.empty σ H fun out H1 => Q (.str out) H1) : tJn ts σ H Q := k
theorem s_ninZ {c : Nat} (k : Q (.bl (!decide (c ∈ z.cps.toList))) H) : gNotIn K (.str ⟨#[c]⟩) (.str z) H Q := ⟨c, rfl, k⟩
theorem s_ninS2 {p : Addr} (h : w.S p = some (.tup [.str a, .str b])) (k : Q (.bl (!(decide (z = a) || decide (z = b)))) w.H) : gNotIn K (.str z) (.ref p) w.H Q := by
  refine ⟨p, _, rfl, .inr (sqt_of h), rfl, rfl, ?_⟩
  have e : inV (.str z) [.str a, .str b] = (decide (z = a) || decide (z = b)) := by
    show (a == z || (b == z || false)) = _
    rw [Bool.or_false, Bool.eq_iff_iff]
    simp only [Bool.or_eq_true, beq_iff_eq, decide_eq_true_eq]
    exact ⟨fun h => h.imp Eq.symm Eq.symm, fun h => h.imp Eq.symm Eq.symm⟩
  show Q (.bl (!inV (.str z) [.str a, .str b])) w.H
  rw [e]
  exact k
theorem s_repN {p : Addr} {x : V} {n : Int} (h : w.H p = some (.lst [x])) (h0 : 0 ≤ n) (h1 : n < 1000000) (k : ∀ p v, Ext Non w v → w.H p = none → v.S p = some (.lst (List.replicate n.toNat x)) → Q (.ref p) v.H) : gMul K (.ref p) (.int n) w.H Q :=
  ⟨[x], h, by omega, by omega, by rw [sizeLine_eq, List.length_singleton]; omega, newS fun p v e n' s => k p v e n' (by
    rw [s]
    have : ∀ m : Nat, (List.replicate m [x]).flatten = List.replicate m x := by
      intro m
      induction m with
      | zero => rfl
      | succ m ih => rw [List.replicate_succ, List.flatten_cons, ih]; rfl
    rw [this])⟩
theorem s_repM {p : Addr} {vs : List V} {n : Int} (h : w.H p = some (.lst vs)) (h0 : 0 ≤ n) (h1 : n < 1000000) (h3 : vs.length * n.toNat ≤ sizeLine) (k : ∀ p v ys, Ext Non w v → w.H p = none → v.S p = some (.lst ys) → ys.length = n.toNat * vs.length → ys = (List.replicate n.toNat vs).flatten → Q (.ref p) v.H) : gMul K (.ref p) (.int n) w.H Q :=
  ⟨vs, h, by omega, by omega, h3, newS fun p v e n' s => k p v _ e n' s (by
    have : ∀ m : Nat, (List.replicate m vs).flatten.length = m * vs.length := by
      intro m
      induction m with
      | zero => simp
      | succ m ih => rw [List.replicate_succ, List.flatten_cons, List.length_append, ih, Nat.succ_mul, Nat.add_comm]
    exact this _) rfl⟩
theorem s_isNN (k : Q (.bl true) H) : gIs .non .non H Q := s_isN (by rw [decide_eq_true rfl]; exact k)
theorem s_isIN {n : Int} (k : Q (.bl false) H) : gIs (.int n) .non H Q := s_isN (by rw [decide_eq_false (fun z => by cases z)]; exact k)
theorem s_isRN {n : Addr} (k : Q (.bl false) H) : gIs (.ref n) .non H Q := s_isN (by rw [decide_eq_false (fun z => by cases z)]; exact k)
theorem s_isSN {n : Str} (k : Q (.bl false) H) : gIs (.str n) .non H Q := s_isN (by rw [decide_eq_false (fun z => by cases z)]; exact k)
theorem s_notNN (k : Q (.bl false) H) : gIsNot .non .non H Q := s_notN (by rw [decide_eq_true rfl]; exact k)
theorem s_notIN {n : Int} (k : Q (.bl true) H) : gIsNot (.int n) .non H Q := s_notN (by rw [decide_eq_false (fun z => by cases z)]; exact k)
theorem s_notRN {n : Addr} (k : Q (.bl true) H) : gIsNot (.ref n) .non H Q := s_notN (by rw [decide_eq_false (fun z => by cases z)]; exact k)
theorem s_notSN {n : Str} (k : Q (.bl true) H) : gIsNot (.str n) .non H Q := s_notN (by rw [decide_eq_false (fun z => by cases z)]; exact k)
/-- a text in a written tuple of texts -/
theorem s_inT {p : Addr} {vs : List V} (h : w.S p = some (.tup vs)) (f : vs.all flatV = true) (k : Q (.bl (inV (.str z) vs)) w.H) : gIn K (.str z) (.ref p) w.H Q := ⟨p, vs, rfl, .inr (sqt_of h), rfl, f, k⟩
end
theorem Tx.lit {z : Str} (h : (tl z).all (fun c => decide (c < 128)) = true) : Tx (tl z).length z := ⟨Nat.le_of_eq (len_tl z), fun c hc => of_decide_eq_true (List.all_eq_true.mp h c hc)⟩
theorem Tx.litN {n : Nat} {z : Str} (h : (tl z).all (fun c => decide (c < 128)) = true) (k : (tl z).length ≤ n) : Tx n z := (Tx.lit h).mono k
theorem Tx.z2 {n : Nat} {z : Str} (h : Tx n z) (k : n + 2 ≤ 16777216) : z.length + 2 ≤ sizeLine := by
  rw [sizeLine_eq]
  have := h.1
  omega
theorem Tx.len {n m : Nat} {z : Str} (h : Tx n z) (k : z.length ≤ m) : Tx m z := ⟨k, h.2⟩
theorem lenZ_to {z : Str} {d : Int} (h : 0 ≤ d) : (cutS z none (some d)).length = min d.toNat z.length := by
  rw [len_tl, cutZ_to h, List.length_take, len_tl z]
theorem lenZ_from {z : Str} {d : Int} (h : 0 ≤ d) : (cutS z (some d) none).length = z.length - d.toNat := by
  rw [len_tl, cutZ_from h, List.length_drop, len_tl z]
theorem lenZ_mid {z : Str} {a b : Int} (h : 0 ≤ a) (h2 : a ≤ b) : (cutS z (some a) (some b)).length ≤ b.toNat - a.toNat := by
  obtain ⟨n, rfl⟩ := Int.eq_ofNat_of_zero_le h
  obtain ⟨m, rfl⟩ := Int.eq_ofNat_of_zero_le (Int.le_trans h h2)
  unfold cutS
  rw [len_tl, tl_mk, List.length_take, HT.sIx_nat, HT.sIx_nat]
  omega
theorem lenZ_app (a b : Str) : (a ++ b).length = a.length + b.length := by rw [len_tl, tl_append, List.length_append, len_tl a, len_tl b]
end G

set_option linter.all false
set_option maxRecDepth 100000
namespace G
open PySem L2 TL
/-! a raise that is never come to; enumerate; instances of own classes -/
def tNo : TS := fun _ _ _ => False
theorem ps_no {X : Cx} {st : Stmt} : PS X st tNo := ⟨fun _ _ _ _ _ _ h => h.elim⟩
theorem kpEnum {X : Cx} (K : PySem.W.Frag) {e : Expr} {ta : TA} {p pos tpos : Pos} {elts : List Expr} {kk : Nat} (hg : Gl X "enumerate") (hm : X.mg "enumerate" = none) (ha : PA X [e] ta) (eK : X.K = K := by rfl) (hs : starEach [e] X.env = [(false, eval e X.env)] := by rfl) :
    PI X (.Tuple elts kk tpos) (.Call (.Name "enumerate" p) [e] [] pos) (iEnum K ta) := eK ▸ pi_enum hg hm ha hs
section
variable {K : PySem.W.Frag} {w : Wd} {a C dx : Addr} {xs : List V} {Q : VK}
theorem s_iEnum {ta : TA} {σ : L2.St} {H : Hp} {R : It → Hp → Prop} (k : ta σ H fun vs H1 => ∃ a xs, vs = [.ref a] ∧ SqL K H1 a xs ∧ R (Ite K a) H1) : iEnum K ta σ H R := k
def YE (xs : List V) : Nat → Wd → V → Wd → Prop := fun i w x v => ∃ T x1, x = .ref T ∧ Ext Non w v ∧ w.H T = none ∧ v.S T = some (.tup [.int (i : Nat), x1]) ∧ xs[i]? = some x1
theorem ye_of {w : Wd} {T : Addr} {x1 : V} {i : Nat} (hT : w.H T = none) (h1 : xs[i]? = some x1) : ∃ v : Wd, v.H = upd w.H T (.tup [.int (i : Nat), x1]) ∧ YE xs i w (.ref T) v := by
  refine newS (w := w) (o := .tup [.int (i : Nat), x1]) (Q := fun r H' => r = .ref T → ∃ v : Wd, v.H = H' ∧ YE xs i w (.ref T) v) (fun p v e n s hq => ?_) T hT rfl
  cases hq
  exact ⟨v, rfl, T, x1, rfl, e, n, s, h1⟩
theorem ww_enum : WWalk (Ite K a) xs.length (fun w => SqL K w.H a xs) (YE xs) :=
  ⟨fun i w h q => ⟨xs, xs[i], q, List.getElem?_eq_getElem h⟩, fun w q => ⟨xs, q, Nat.le_refl _⟩, fun i w x H' h q y => by
    obtain ⟨T, x1, rfl, hT, rfl, h1⟩ := y
    exact ye_of hT (h1 xs q)⟩
structure ClsI (K : PySem.W.Frag) (C : Addr) : Prop where
  ha : PySem.W.findIn K (.ref C) "__class__" = some (some (.builtin "object.__class__"))
  hn : PySem.W.specialIn K (.builtin "object.__class__") "__get__" = some (some (.builtin "getset_descriptor.__get__"))
  ht : PySem.W.takesIn K (.builtin "object.__class__") = some true
  hm : PySem.W.mroIn K C (.type "object") = some true
theorem s_isiC {fs : List (Str × V)} (h : w.H a = some (.ins C dx fs)) (c : Cls K C) (i : ClsI K C) (k : Q (.bl true) w.H) : rIsi K [.ref a, .ref C] w.H Q :=
  ⟨.ref a, .ref C, .ref C, .ref C, true, rfl, .own C, .base (.ins h c i.ha i.hn i.ht i.hm), by unfold PySem.W.kitOne; simp, k⟩
end
/-- an if with an else, told by what holds behind it -/
theorem s_ifE2 {c : TT} {t e : TS} {D : Ends} {σ : L2.St} {w : Wd} (R : L2.St → Wd → Prop) (h : ∀ Z : L2.St → Hp → Prop, (∀ σ u, R σ u → Z σ u.H) → tIfS c t e { D with nx := Z } σ w.H) (hd : ∀ σ u, R σ u → D.nx σ u.H) : tIfS c t e D σ w.H := h D.nx hd
/-- ahead of a loop, one's own is laid for good -/
theorem layW {w : Wd} {r : Addr} {ob : HO} {σ : L2.St} {P : (Nat → Nat → L2.St → Hp → Prop) → Prop} (o : Own w r ob) (k : ∀ v, Ext (One r) w v → v.S r = some ob → ∃ W : Nat → Nat → L2.St → Hp → Prop, (∃ m, W 0 m σ v.H) ∧ P W) :
    ∃ W : Nat → Nat → L2.St → Hp → Prop, (∃ m, W 0 m σ w.H) ∧ P W := lay (R := fun H => ∃ W : Nat → Nat → L2.St → Hp → Prop, (∃ m, W 0 m σ H) ∧ P W) o k
end G

set_option linter.all false
set_option maxRecDepth 100000
namespace G
open PySem L2 TL NumText
/-! numbers plainly written, by their signs -/
def isFig (c : Nat) : Bool := decide (48 ≤ c) && decide (c ≤ 57)
def figsL (l : List Nat) : List Nat := if l.head? = some 45 then l.drop 1 else l
def plainL (l : List Nat) : Bool := decide (1 ≤ (figsL l).length) && (decide ((figsL l).length ≤ 30) && ((figsL l).all isFig && (!decide ((figsL l).head? = some 48) || decide (l = [48]))))
def valL (l : List Nat) : Int := if l.head? = some 45 then -((digitsVal (figsL l) : Nat) : Int) else ((digitsVal (figsL l) : Nat) : Int)
def valO (l : List Nat) : Option Int := if plainL l = true then some (valL l) else none
def inB (lo hi : Int) : Option Int → Option Int
  | some n => if lo ≤ n ∧ n ≤ hi then some n else none
  | none => none
def wholeIn (d : PyData) (lo hi : Int) : Option Int := match d with
  | .str z => inB lo hi (valO (tl z))
  | _ => none
def oV : Option Int → V
  | some n => .int n
  | none => .non
theorem ov_at {a b : Option Int} {Q : VK} {H : Hp} (e : a = b) (k : Q (oV a) H) : Q (oV b) H := e ▸ k
def TxD (d : PyData) : Prop := ∀ z, d = .str z → Tx 1000 z
theorem z_at {z : Str} {i : Nat} {x : V} {c : Nat} (h : (zV z)[i]? = some x) (k : z.cps.toList[i]? = some c) : x = .str ⟨#[c]⟩ := by
  unfold zV at h
  rw [List.getElem?_map, k] at h
  exact (Option.some.inj h).symm
theorem fig_iff {c : Nat} : decide (c ∈ (Str.ofString "0123456789").cps.toList) = isFig c := by
  have e : (Str.ofString "0123456789").cps.toList = [48, 49, 50, 51, 52, 53, 54, 55, 56, 57] := by decide +kernel
  rw [e]
  unfold isFig
  rw [Bool.eq_iff_iff, Bool.and_eq_true, decide_eq_true_eq, decide_eq_true_eq, decide_eq_true_eq]
  simp only [List.mem_cons, List.not_mem_nil, or_false]
  omega
theorem isFig_iff {c : Nat} : isFig c = true ↔ 48 ≤ c ∧ c ≤ 57 := by
  unfold isFig
  rw [Bool.and_eq_true, decide_eq_true_eq, decide_eq_true_eq]
theorem all_fig {l : List Nat} (h : l.all isFig = true) : AllDigits l := fun c hc => isFig_iff.mp (List.all_eq_true.mp h c hc)
theorem dash_iff {z : Str} : cutS z none (some 1) = Str.ofString "-" ↔ (tl z).head? = some 45 := by
  have e : tl (Str.ofString "-") = [45] := by decide +kernel
  rw [str_iff, cutZ_to (by decide), e]
  show (tl z).take 1 = [45] ↔ _
  cases tl z with
  | nil => simp
  | cons c r => simp
theorem nought_iff {c : Nat} : (⟨#[c]⟩ : Str) = Str.ofString "0" ↔ c = 48 := by
  rw [str_iff, tl_one, show tl (Str.ofString "0") = [48] from by decide +kernel]
  simp
theorem noughtZ_iff {z : Str} : z = Str.ofString "0" ↔ tl z = [48] := by rw [str_iff, show tl (Str.ofString "0") = [48] from by decide +kernel]
theorem figsL_y {l : List Nat} (h : l.head? = some 45) : figsL l = l.drop 1 := if_pos h
theorem figsL_n {l : List Nat} (h : ¬ l.head? = some 45) : figsL l = l := if_neg h
theorem digits_snoc {l : List Nat} {c : Nat} : digitsVal (l ++ [c]) = digitsVal l * 10 + (c - 48) := by
  unfold digitsVal
  rw [List.foldl_append]
  rfl
theorem digits_go : ∀ (l : List Nat) (a : Nat), AllDigits l → l.foldl (fun acc c => acc * 10 + (c - 48)) a < (a + 1) * 10 ^ l.length
  | [], a, _ => by simp
  | c :: r, a, h => by
    have h1 := digits_go r (a * 10 + (c - 48)) h.tail
    have h2 := h.head
    rw [List.foldl_cons, List.length_cons, Nat.pow_succ]
    refine Nat.lt_of_lt_of_le h1 ?_
    have h3 : a * 10 + (c - 48) + 1 ≤ (a + 1) * 10 := by omega
    calc (a * 10 + (c - 48) + 1) * 10 ^ r.length ≤ ((a + 1) * 10) * 10 ^ r.length := Nat.mul_le_mul_right _ h3
      _ = (a + 1) * (10 ^ r.length * 10) := by rw [Nat.mul_assoc, Nat.mul_comm 10]
theorem digits_lt {l : List Nat} (h : AllDigits l) : digitsVal l < 10 ^ l.length := by
  have := digits_go l 0 h
  simpa [digitsVal] using this
theorem intText_figs {z : Str} (hd : AllDigits (figsL (tl z))) (h1 : figsL (tl z) ≠ []) (hz : z.length ≤ 4300) : PySem.intText? z = some (valL (tl z)) := by
  by_cases hm : (tl z).head? = some 45
  · have hf := figsL_y hm
    unfold valL
    rw [if_pos hm]
    obtain ⟨r, hr⟩ : ∃ r, tl z = 45 :: r := by
      cases e : tl z with
      | nil => rw [e] at hm; cases hm
      | cons c r => rw [e] at hm; cases hm; exact ⟨r, rfl⟩
    have hf2 : figsL (tl z) = r := by rw [hf, hr]; rfl
    rw [hf2] at h1 hd ⊢
    exact intText_neg hr hd h1 hz
  · have hf := figsL_n hm
    unfold valL
    rw [if_neg hm]
    rw [hf] at h1 hd ⊢
    exact intText_digits hd h1 hz
theorem intText_plain {z : Str} (h : plainL (tl z) = true) : PySem.intText? z = some (valL (tl z)) ∧ z.length ≤ 31 := by
  unfold plainL at h
  simp only [Bool.and_eq_true, decide_eq_true_eq] at h
  obtain ⟨h1, h2, h3, h4⟩ := h
  have el := len_tl z
  have hd := all_fig h3
  by_cases hm : (tl z).head? = some 45
  · have hf := figsL_y hm
    unfold valL
    rw [if_pos hm]
    obtain ⟨r, hr⟩ : ∃ r, tl z = 45 :: r := by
      cases e : tl z with
      | nil => rw [e] at hm; cases hm
      | cons c r => rw [e] at hm; cases hm; exact ⟨r, rfl⟩
    have hf2 : figsL (tl z) = r := by rw [hf, hr]; rfl
    rw [hf2] at h1 h2 hd ⊢
    have hz : z.length ≤ 31 := by rw [el, hr, List.length_cons]; omega
    exact ⟨intText_neg hr hd (by intro e; rw [e] at h1; exact absurd h1 (by decide)) (by omega), hz⟩
  · have hf := figsL_n hm
    unfold valL
    rw [if_neg hm]
    rw [hf] at h1 h2 hd ⊢
    have hz : z.length ≤ 31 := by omega
    exact ⟨intText_digits hd (by intro e; rw [show tl z = [] from e] at h1; exact absurd h1 (by decide)) (by omega), hz⟩
theorem plain_at {l : List Nat} {c : Nat} (h1 : 1 ≤ (figsL l).length) (h2 : (figsL l).length ≤ 30) (h3 : (figsL l).all isFig = true) (h4 : (figsL l)[0]? = some c) : plainL l = (decide (c ≠ 48) || decide (l = [48])) := by
  unfold plainL
  rw [decide_eq_true h1, decide_eq_true h2, h3, Bool.true_and, Bool.true_and, Bool.true_and]
  have e : (figsL l).head? = some c := by rw [← h4]; cases figsL l <;> rfl
  rw [e]
  by_cases hc : c = 48 <;> simp [hc]
theorem val_lt {l : List Nat} {n : Int} (h : valO l = some n) : -(10 ^ 30) < n ∧ n < 10 ^ 30 := by
  unfold valO at h
  by_cases hp : plainL l = true
  · rw [if_pos hp] at h
    cases h
    unfold plainL at hp
    simp only [Bool.and_eq_true, decide_eq_true_eq] at hp
    obtain ⟨h1, h2, h3, h4⟩ := hp
    have h5 := digits_lt (all_fig h3)
    have h6 : 10 ^ (figsL l).length ≤ 10 ^ 30 := Nat.pow_le_pow_right (by decide) h2
    unfold valL
    split <;> omega
  · rw [if_neg hp] at h
    cases h
end G

namespace G
open PySem L2
/-! spans: plain -/
def spansFrom (last : Option Int) : List PyData → Bool
  | [] => true
  | .tuple [.int lo, .int hi] :: r => decide (lo ≤ hi) && (match last with | none => true | some l => decide (l + 2 ≤ lo)) && spansFrom (some hi) r
  | _ :: _ => false
def optV : Option Int → V
  | none => .non
  | some i => .int i
theorem drop_at {α : Type} {xs : List α} {i : Nat} {x : α} (h : xs[i]? = some x) : xs.drop i = x :: xs.drop (i + 1) := by
  obtain ⟨h1, rfl⟩ := List.getElem?_eq_some_iff.mp h
  exact List.drop_eq_getElem_cons h1
def lastHi (l : Option Int) : List (Int × Int) → Option Int
  | [] => l
  | p :: r => lastHi (some p.2) r
def Sp : Option Int → List (Int × Int) → Prop
  | _, [] => True
  | l, q :: r => q.1 ≤ q.2 ∧ (∀ h, l = some h → h + 2 ≤ q.1) ∧ Sp (some q.2) r
def ins (rows : List (Int × Int)) (n : Int) : Prop := ∃ q ∈ rows, q.1 ≤ n ∧ n ≤ q.2
def insB (rows : List (Int × Int)) (n : Int) : Bool := rows.any fun q => decide (q.1 ≤ n) && decide (n ≤ q.2)
theorem insB_iff {rows : List (Int × Int)} {n : Int} : insB rows n = true ↔ ins rows n := by
  simp [insB, ins, List.any_eq_true]
theorem insB_of {rows : List (Int × Int)} {n : Int} {b : Bool} (h : ins rows n ↔ b = true) : insB rows n = b := by
  rw [Bool.eq_iff_iff, insB_iff]
  exact h
section
variable {A B fs : List (Int × Int)} {n : Int} {l : Option Int} {q s : Int × Int} {i : Nat}
theorem ins_nil : ¬ ins [] n := fun ⟨_, h, _⟩ => by cases h
theorem ins_cons : ins (q :: A) n ↔ (q.1 ≤ n ∧ n ≤ q.2) ∨ ins A n := by simp [ins]
theorem ins_app : ins (A ++ B) n ↔ ins A n ∨ ins B n := by
  simp only [ins, List.mem_append, or_and_right, exists_or]
theorem ins_one : ins [q] n ↔ q.1 ≤ n ∧ n ≤ q.2 := by simp [ins]
theorem ins_take (h : A[i]? = some q) : ins (A.take (i + 1)) n ↔ ins (A.take i) n ∨ (q.1 ≤ n ∧ n ≤ q.2) := by
  rw [List.take_add_one, h, ins_app]
  exact or_congr Iff.rfl ins_one
theorem ins_perm (p : A.Perm B) : ins A n ↔ ins B n := by
  simp only [ins, p.mem_iff]
theorem ins_split (h : A[i]? = some q) : ins A n ↔ ins (A.take i) n ∨ (q.1 ≤ n ∧ n ≤ q.2) ∨ ins (A.drop (i + 1)) n := by
  have e : ins A n ↔ ins (A.take i ++ A.drop i) n := by rw [List.take_append_drop]
  rw [e, ins_app, drop_at h, ins_cons]
theorem Sp.weak (h : Sp l A) : Sp none A := by
  cases A with
  | nil => trivial
  | cons q r => exact ⟨h.1, (fun _ z => by cases z), h.2.2⟩
theorem Sp.wf : ∀ {A : List (Int × Int)} {l : Option Int}, Sp l A → ∀ q ∈ A, q.1 ≤ q.2
  | [], _, _, q, h => by cases h
  | p :: r, _, h, q, hq => by
    cases hq with
    | head => exact h.1
    | tail _ hq => exact Sp.wf h.2.2 q hq
theorem Sp.low : ∀ {A : List (Int × Int)} {h : Int}, Sp (some h) A → ∀ q ∈ A, h + 2 ≤ q.1
  | [], _, _, q, hq => by cases hq
  | p :: r, h, hs, q, hq => by
    have h1 := hs.2.1 h rfl
    cases hq with
    | head => exact h1
    | tail _ hq =>
      have := Sp.low hs.2.2 q hq
      have := hs.1
      omega
theorem Sp.low_ins {h : Int} (hs : Sp (some h) A) (hn : ins A n) : h + 2 ≤ n := by
  obtain ⟨q, hq, h1, h2⟩ := hn
  have := hs.low q hq
  omega
theorem Sp.drop : ∀ {A : List (Int × Int)} {l : Option Int} (i : Nat), Sp l A → Sp none (A.drop i)
  | _, _, 0, h => h.weak
  | [], _, _ + 1, _ => trivial
  | _ :: r, _, i + 1, h => Sp.drop (A := r) i h.2.2
theorem Sp.after (hs : Sp l A) (h : A[i]? = some q) : Sp (some q.2) (A.drop (i + 1)) := by
  have := hs.drop i
  rw [drop_at h] at this
  exact this.2.2
theorem Sp.after_low (hs : Sp l A) (h : A[i]? = some q) (hn : ins (A.drop (i + 1)) n) : q.2 + 2 ≤ n := (hs.after h).low_ins hn
theorem Sp.next (hs : Sp l A) (h : A[i]? = some q) (h2 : A[i + 1]? = some s) : q.2 + 2 ≤ s.1 := (hs.after h).low s (by
  rw [drop_at h2]
  exact List.mem_cons_self)
theorem Sp.get (hs : Sp l A) (h : A[i]? = some q) : q.1 ≤ q.2 := hs.wf q (List.mem_of_getElem? h)
theorem Sp.before : ∀ {A : List (Int × Int)} {l : Option Int} {i : Nat}, Sp l A → A[i]? = some q → ∀ s ∈ A.take i, s.2 + 2 ≤ q.1
  | [], _, _, _, h, _, _ => by simp at h
  | p :: r, _, 0, _, _, _, hs => by simp at hs
  | p :: r, _, i + 1, hp, h, s, hs => by
    have h' : r[i]? = some q := by simpa using h
    rw [List.take_succ_cons] at hs
    cases hs with
    | head => exact hp.2.2.low q (List.mem_of_getElem? h')
    | tail _ hs => exact Sp.before hp.2.2 h' s hs
theorem Sp.before_ins (hs : Sp l A) (h : A[i]? = some q) (hn : ins (A.take i) n) : n + 2 ≤ q.1 := by
  obtain ⟨s, h1, h2, h3⟩ := hn
  have := hs.before h s h1
  omega
theorem Sp.snoc {a b : Int} : ∀ {l : Option Int} {A : List (Int × Int)}, Sp l A → a ≤ b → (∀ h, lastHi l A = some h → h + 2 ≤ a) → Sp l (A ++ [(a, b)])
  | l, [], _, h1, h2 => ⟨h1, h2, trivial⟩
  | _, p :: r, h, h1, h2 => ⟨h.1, h.2.1, Sp.snoc h.2.2 h1 h2⟩
theorem lastHi_snoc {a b : Int} : ∀ {l : Option Int} {A : List (Int × Int)}, lastHi l (A ++ [(a, b)]) = some b
  | _, [] => rfl
  | _, _ :: r => lastHi_snoc (A := r)
theorem Sp.last {a b c : Int} : ∀ {l : Option Int} {A : List (Int × Int)}, Sp l (A ++ [(a, b)]) → b ≤ c → Sp l (A ++ [(a, c)])
  | l, [], h, k => ⟨by have := h.1; simp at this ⊢; omega, h.2.1, trivial⟩
  | _, p :: r, h, k => ⟨h.1, h.2.1, Sp.last (A := r) h.2.2 k⟩
theorem Sp.init {a b : Int} : ∀ {l : Option Int} {A : List (Int × Int)}, Sp l (A ++ [(a, b)]) → Sp l A
  | _, [], _ => trivial
  | _, p :: r, h => ⟨h.1, h.2.1, Sp.init (A := r) h.2.2⟩
theorem Sp.last_lo {a b : Int} : ∀ {l : Option Int} {A : List (Int × Int)}, Sp l (A ++ [(a, b)]) → ∀ h, lastHi l A = some h → h + 2 ≤ a
  | _, [], h, k, hk => h.2.1 k hk
  | _, p :: r, h, k, hk => Sp.last_lo (A := r) h.2.2 k hk
theorem canon : ∀ {A B : List (Int × Int)} {l k : Option Int}, Sp l A → Sp k B → (∀ n, ins A n ↔ ins B n) → A = B
  | [], [], _, _, _, _, _ => rfl
  | [], q :: r, _, _, _, hb, e => by
    have := (e q.1).mpr (ins_cons.mpr (.inl ⟨Int.le_refl _, hb.1⟩))
    exact absurd this ins_nil
  | q :: r, [], _, _, ha, _, e => by
    have := (e q.1).mp (ins_cons.mpr (.inl ⟨Int.le_refl _, ha.1⟩))
    exact absurd this ins_nil
  | (a, b) :: A, (c, d) :: B, _, _, ha, hb, e => by
    have hab : a ≤ b := ha.1
    have hcd : c ≤ d := hb.1
    have la : ∀ n, ins A n → b + 2 ≤ n := fun n => ha.2.2.low_ins
    have lb : ∀ n, ins B n → d + 2 ≤ n := fun n => hb.2.2.low_ins
    have e' : ∀ n, ((a ≤ n ∧ n ≤ b) ∨ ins A n) ↔ ((c ≤ n ∧ n ≤ d) ∨ ins B n) := fun n => by
      have := e n
      rw [ins_cons, ins_cons] at this
      exact this
    have h1 : a = c := by
      have x1 := (e' a).mp (.inl ⟨Int.le_refl _, hab⟩)
      have x2 := (e' c).mpr (.inl ⟨Int.le_refl _, hcd⟩)
      have y1 : c ≤ a := by
        rcases x1 with x | x
        · exact x.1
        · have := lb a x; omega
      have y2 : a ≤ c := by
        rcases x2 with x | x
        · exact x.1
        · have := la c x; omega
      omega
    subst h1
    have h2 : b = d := by
      by_cases hlt : b < d
      · have x := (e' (b + 1)).mpr (.inl ⟨by omega, by omega⟩)
        rcases x with x | x
        · omega
        · have := la _ x; omega
      · by_cases hgt : d < b
        · have x := (e' (d + 1)).mp (.inl ⟨by omega, by omega⟩)
          rcases x with x | x
          · omega
          · have := lb _ x; omega
        · omega
    subst h2
    rw [canon ha.2.2 hb.2.2 fun n => ?_]
    constructor
    · intro x
      have := la n x
      rcases (e' n).mp (.inr x) with y | y
      · omega
      · exact y
    · intro x
      have := lb n x
      rcases (e' n).mpr (.inr x) with y | y
      · omega
      · exact y
theorem Sp.erase : ∀ {A : List (Int × Int)} {l : Option Int} (i : Nat), Sp l A → Sp l (A.take i ++ A.drop (i + 1))
  | [], _, _, _ => by simp [Sp]
  | p :: r, l, 0, h => by
    rw [List.take_zero, List.nil_append, List.drop_succ_cons, List.drop_zero]
    cases r with
    | nil => trivial
    | cons q r => exact ⟨h.2.2.1, fun x hx => by have h1 := h.2.1 x hx; have h2 := h.2.2.2.1 p.2 rfl; have h3 := h.1; omega, h.2.2.2.2⟩
  | p :: r, l, i + 1, h => by
    rw [List.take_succ_cons, List.drop_succ_cons, List.cons_append]
    exact ⟨h.1, h.2.1, Sp.erase i h.2.2⟩
/-! joined -/
structure JInv (S : List (Int × Int)) (i : Nat) (fs : List (Int × Int)) : Prop where
  sp : Sp none fs
  len : fs.length ≤ i
  mem : ∀ n, ins fs n ↔ ins (S.take i) n
  low : ∀ f ∈ fs, ∀ j q, i ≤ j → S[j]? = some q → f.1 ≤ q.1
theorem JInv.nil {S : List (Int × Int)} : JInv S 0 [] := ⟨trivial, Nat.le_refl _, fun n => by simp [ins], fun f h => by cases h⟩
theorem lows {S : List (Int × Int)} (h : S.Pairwise leP) (hi : S[i]? = some q) {j : Nat} (hij : i ≤ j) (hj : S[j]? = some s) : q.1 ≤ s.1 := by
  obtain ⟨h1, rfl⟩ := List.getElem?_eq_some_iff.mp hi
  obtain ⟨h2, rfl⟩ := List.getElem?_eq_some_iff.mp hj
  by_cases e : i = j
  · subst e; exact Int.le_refl _
  · have := List.pairwise_iff_getElem.mp h i j h1 h2 (by omega)
    unfold leP at this
    omega
theorem JInv.app {S : List (Int × Int)} (h : JInv S i fs) (hs : S.Pairwise leP) (hi : S[i]? = some q) (hw : q.1 ≤ q.2) (hl : ∀ x, lastHi none fs = some x → x + 2 ≤ q.1) : JInv S (i + 1) (fs ++ [q]) := by
  refine ⟨h.sp.snoc hw hl, by simp; exact h.len, fun n => ?_, fun f hf j s hj hjs => ?_⟩
  · rw [ins_app, ins_take hi, h.mem, ins_one]
  · rcases List.mem_append.mp hf with hf | hf
    · exact h.low f hf j s (by omega) hjs
    · rw [List.mem_singleton.mp hf]
      exact lows hs hi (by omega) hjs
theorem JInv.mrg {S : List (Int × Int)} {a b : Int} (h : JInv S i (fs ++ [(a, b)])) (hi : S[i]? = some q) (hw : q.1 ≤ q.2) (hl : q.1 ≤ b + 1) : JInv S (i + 1) (fs ++ [(a, max b q.2)]) := by
  have hlo : a ≤ q.1 := h.low (a, b) (by simp) i q (Nat.le_refl _) hi
  have hab : a ≤ b := h.sp.wf (a, b) (by simp)
  refine ⟨h.sp.last (by omega), by have := h.len; simp at this ⊢; omega, fun n => ?_, fun f hf j s hj hjs => ?_⟩
  · have h1 := h.mem n
    rw [ins_app, ins_one] at h1
    rw [ins_app, ins_one, ins_take hi, ← h1]
    have : (a ≤ n ∧ n ≤ max b q.2) ↔ (a ≤ n ∧ n ≤ b) ∨ (q.1 ≤ n ∧ n ≤ q.2) := by omega
    show ins fs n ∨ (a ≤ n ∧ n ≤ max b q.2) ↔ (ins fs n ∨ (a ≤ n ∧ n ≤ b)) ∨ (q.1 ≤ n ∧ n ≤ q.2)
    rw [this, or_assoc]
  · rcases List.mem_append.mp hf with hf | hf
    · exact h.low f (List.mem_append.mpr (.inl hf)) j s (by omega) hjs
    · obtain rfl := List.mem_singleton.mp hf
      exact h.low (a, b) (by simp) j s (by omega) hjs
/-! both -/
structure BInv (A B : List (Int × Int)) (h t : Nat) (fs : List (Int × Int)) : Prop where
  sp : Sp none fs
  len : fs.length ≤ h + t
  last : ∀ x, lastHi none fs = some x → (∀ q, A[h]? = some q → x + 2 ≤ q.1) ∨ (∀ q, B[t]? = some q → x + 2 ≤ q.1)
  mem : ∀ n, (ins A n ∧ ins B n) ↔ ins fs n ∨ (ins (A.drop h) n ∧ ins (B.drop t) n)
theorem BInv.nil : BInv A B 0 0 [] := ⟨trivial, Nat.le_refl _, (fun _ z => by cases z), fun n => by simp [ins]⟩
theorem BInv.end {h t : Nat} (b : BInv A B h t fs) (e : ¬ (h < A.length) ∨ ¬ (t < B.length)) (n : Int) : ins fs n ↔ ins A n ∧ ins B n := by
  rw [b.mem]
  rcases e with e | e
  · rw [List.drop_eq_nil_of_le (as := A) (by omega)]
    simp [ins_nil]
  · rw [List.drop_eq_nil_of_le (as := B) (by omega)]
    simp [ins_nil]
theorem BInv.stepA {h t : Nat} (b : BInv A B h t fs) (sA : Sp none A) (sB : Sp none B) (hq : A[h]? = some q) (hs : B[t]? = some s) (lt : q.2 < s.2) :
    BInv A B (h + 1) t (if max q.1 s.1 ≤ min q.2 s.2 then fs ++ [(max q.1 s.1, min q.2 s.2)] else fs) := by
  have wq := sA.get hq
  have ws := sB.get hs
  have key : ∀ n, (ins (A.drop h) n ∧ ins (B.drop t) n) ↔ (max q.1 s.1 ≤ n ∧ n ≤ min q.2 s.2) ∨ (ins (A.drop (h + 1)) n ∧ ins (B.drop t) n) := fun n => by
    rw [drop_at hq, drop_at hs, ins_cons, ins_cons]
    have l1 := fun x => sA.after_low hq (n := n) x
    have l2 := fun x => sB.after_low hs (n := n) x
    constructor
    · rintro ⟨x | x, y | y⟩
      · left; omega
      · have := l2 y; omega
      · exact .inr ⟨x, .inl y⟩
      · exact .inr ⟨x, .inr y⟩
    · rintro (x | ⟨x, y⟩)
      · exact ⟨.inl (by omega), .inl (by omega)⟩
      · exact ⟨.inr x, y⟩
  by_cases c : max q.1 s.1 ≤ min q.2 s.2
  · rw [if_pos c]
    refine ⟨b.sp.snoc c fun x hx => ?_, by have := b.len; simp; omega, fun x hx => ?_, fun n => ?_⟩
    · rcases b.last x hx with k | k
      · have := k q hq; omega
      · have := k s hs; omega
    · rw [lastHi_snoc] at hx
      cases hx
      left
      intro q' hq'
      have := sA.next hq hq'
      omega
    · rw [b.mem, key, ins_app, ins_one, or_assoc]
  · rw [if_neg c]
    refine ⟨b.sp, by have := b.len; omega, fun x hx => ?_, fun n => ?_⟩
    · rcases b.last x hx with k | k
      · left
        intro q' hq'
        have := k q hq
        have := sA.next hq hq'
        omega
      · exact .inr k
    · rw [b.mem, key]
      have : ¬ (max q.1 s.1 ≤ n ∧ n ≤ min q.2 s.2) := by omega
      simp [this]
theorem BInv.stepB {h t : Nat} (b : BInv A B h t fs) (sA : Sp none A) (sB : Sp none B) (hq : A[h]? = some q) (hs : B[t]? = some s) (lt : ¬ q.2 < s.2) :
    BInv A B h (t + 1) (if max q.1 s.1 ≤ min q.2 s.2 then fs ++ [(max q.1 s.1, min q.2 s.2)] else fs) := by
  have wq := sA.get hq
  have ws := sB.get hs
  have key : ∀ n, (ins (A.drop h) n ∧ ins (B.drop t) n) ↔ (max q.1 s.1 ≤ n ∧ n ≤ min q.2 s.2) ∨ (ins (A.drop h) n ∧ ins (B.drop (t + 1)) n) := fun n => by
    rw [drop_at hq, drop_at hs, ins_cons, ins_cons]
    have l1 := fun x => sA.after_low hq (n := n) x
    have l2 := fun x => sB.after_low hs (n := n) x
    constructor
    · rintro ⟨x | x, y | y⟩
      · left; omega
      · exact .inr ⟨.inl x, y⟩
      · have := l1 x; omega
      · exact .inr ⟨.inr x, y⟩
    · rintro (x | ⟨x, y⟩)
      · exact ⟨.inl (by omega), .inl (by omega)⟩
      · exact ⟨x, .inr y⟩
  by_cases c : max q.1 s.1 ≤ min q.2 s.2
  · rw [if_pos c]
    refine ⟨b.sp.snoc c fun x hx => ?_, by have := b.len; simp; omega, fun x hx => ?_, fun n => ?_⟩
    · rcases b.last x hx with k | k
      · have := k q hq; omega
      · have := k s hs; omega
    · rw [lastHi_snoc] at hx
      cases hx
      right
      intro q' hq'
      have := sB.next hs hq'
      omega
    · rw [b.mem, key, ins_app, ins_one, or_assoc]
  · rw [if_neg c]
    refine ⟨b.sp, by have := b.len; omega, fun x hx => ?_, fun n => ?_⟩
    · rcases b.last x hx with k | k
      · exact .inl k
      · right
        intro q' hq'
        have := k s hs
        have := sB.next hs hq'
        omega
    · rw [b.mem, key]
      have : ¬ (max q.1 s.1 ≤ n ∧ n ≤ min q.2 s.2) := by omega
      simp [this]
/-! less -/
structure LInv (A B : List (Int × Int)) (i t : Nat) (fs : List (Int × Int)) : Prop where
  sp : Sp none fs
  len : fs.length ≤ i * (B.length + 1)
  last : ∀ x, lastHi none fs = some x → ∀ q, A[i]? = some q → x + 2 ≤ q.1
  mem : ∀ n, ins fs n ↔ ins (A.take i) n ∧ ¬ ins B n
  tl : t ≤ B.length
  skp : ∀ q, A[i]? = some q → ∀ s ∈ B.take t, s.2 < q.1
theorem LInv.nil : LInv A B 0 0 [] := ⟨trivial, (by simp), (fun _ z => by cases z), (fun n => by simp [ins]), Nat.zero_le _, fun _ _ s h => by simp at h⟩
theorem LInv.skip {t : Nat} (h : LInv A B i t fs) (hq : A[i]? = some q) (hs : B[t]? = some s) (lt : s.2 < q.1) : LInv A B i (t + 1) fs := by
  refine ⟨h.sp, h.len, h.last, h.mem, (List.getElem?_eq_some_iff.mp hs).1, fun q' hq' s' hs' => ?_⟩
  rw [hq] at hq'
  cases hq'
  rw [List.take_add_one, hs] at hs'
  rcases List.mem_append.mp hs' with x | x
  · exact h.skp q hq s' x
  · have : s' = s := by simpa using x
    rw [this]; exact lt
structure LIn2 (A B : List (Int × Int)) (i : Nat) (q : Int × Int) (lo : Int) (t : Nat) (fs : List (Int × Int)) : Prop where
  sp : Sp none fs
  len : fs.length ≤ i * (B.length + 1) + t
  last : ∀ x, lastHi none fs = some x → x + 2 ≤ lo ∧ x ≤ q.2
  mem : ∀ n, ins fs n ↔ (ins (A.take i) n ∧ ¬ ins B n) ∨ (q.1 ≤ n ∧ n < lo ∧ n ≤ q.2 ∧ ¬ ins B n)
  qlo : q.1 ≤ lo
  tl : t ≤ B.length
  bef : ∀ s ∈ B.take t, s.2 < lo
  aft : ∀ s, B[t]? = some s → lo ≤ s.2
theorem LIn2.start {t : Nat} (h : LInv A B i t fs) (sA : Sp none A) (hq : A[i]? = some q) (e : ∀ s, B[t]? = some s → ¬ s.2 < q.1) : LIn2 A B i q q.1 t fs := by
  have wq := sA.get hq
  refine ⟨h.sp, by have := h.len; omega, fun x hx => ?_, fun n => ?_, Int.le_refl _, h.tl, h.skp q hq, fun s hs => ?_⟩
  · have := h.last x hx q hq
    omega
  · rw [h.mem]
    have : ¬ (q.1 ≤ n ∧ n < q.1 ∧ n ≤ q.2 ∧ ¬ ins B n) := by omega
    simp [this]
  · have := e s hs
    omega
theorem not_ins {n : Int} {B : List (Int × Int)} {t : Nat} {s : Int × Int} {lo : Int} (sB : Sp none B) (bef : ∀ s ∈ B.take t, s.2 < lo) (hs : B[t]? = some s) (h1 : lo ≤ n) (h2 : n < s.1) : ¬ ins B n := by
  rw [ins_split hs]
  rintro (⟨x, hx, h3, h4⟩ | x | x)
  · have := bef x hx; omega
  · omega
  · have := sB.after_low hs x
    have := sB.get hs
    omega
theorem LIn2.step {t : Nat} {lo : Int} (h : LIn2 A B i q lo t fs) (sB : Sp none B) (hs : B[t]? = some s) (le : s.1 ≤ q.2) :
    LIn2 A B i q (s.2 + 1) (t + 1) (if lo < s.1 then fs ++ [(lo, s.1 - 1)] else fs) := by
  have ws := sB.get hs
  have hlo := h.aft s hs
  have hin : ins B s.1 := (ins_split hs).mpr (.inr (.inl ⟨Int.le_refl _, ws⟩))
  have hin2 : ∀ n, s.1 ≤ n → n ≤ s.2 → ins B n := fun n h1 h2 => (ins_split hs).mpr (.inr (.inl ⟨h1, h2⟩))
  have hno : ∀ n, lo ≤ n → n < s.1 → ¬ ins B n := fun n h1 h2 => not_ins sB h.bef hs h1 h2
  have hbef : ∀ s' ∈ B.take (t + 1), s'.2 < s.2 + 1 := fun s' hs' => by
    rw [List.take_add_one, hs] at hs'
    rcases List.mem_append.mp hs' with x | x
    · have := h.bef s' x; omega
    · have : s' = s := by simpa using x
      rw [this]; omega
  have haft : ∀ s', B[t + 1]? = some s' → s.2 + 1 ≤ s'.2 := fun s' hs' => by
    have := sB.next hs hs'
    have := sB.get hs'
    omega
  have htl : t + 1 ≤ B.length := (List.getElem?_eq_some_iff.mp hs).1
  have hq := h.qlo
  by_cases c : lo < s.1
  · rw [if_pos c]
    refine ⟨h.sp.snoc (by omega) fun x hx => (h.last x hx).1, by have := h.len; simp; omega, fun x hx => ?_, fun n => ?_, by omega, htl, hbef, haft⟩
    · rw [lastHi_snoc] at hx
      cases hx
      omega
    · rw [ins_app, h.mem, ins_one, or_assoc]
      refine or_congr Iff.rfl ?_
      constructor
      · rintro (⟨h1, h2, h3, h4⟩ | ⟨h1, h2⟩)
        · exact ⟨h1, by omega, h3, h4⟩
        · simp at h1 h2
          exact ⟨by omega, by omega, by omega, hno n h1 (by omega)⟩
      · rintro ⟨h1, h2, h3, h4⟩
        by_cases hn : n < lo
        · exact .inl ⟨h1, hn, h3, h4⟩
        · by_cases hn2 : n < s.1
          · exact .inr ⟨by simp; omega, by simp; omega⟩
          · exact absurd (hin2 n (by omega) (by omega)) h4
  · rw [if_neg c]
    refine ⟨h.sp, by have := h.len; omega, fun x hx => ?_, fun n => ?_, by omega, htl, hbef, haft⟩
    · have := h.last x hx
      omega
    · rw [h.mem]
      refine or_congr Iff.rfl ?_
      constructor
      · rintro ⟨h1, h2, h3, h4⟩
        exact ⟨h1, by omega, h3, h4⟩
      · rintro ⟨h1, h2, h3, h4⟩
        by_cases hn : n < lo
        · exact ⟨h1, hn, h3, h4⟩
        · exact absurd (hin2 n (by omega) (by omega)) h4
theorem LIn2.end {t t0 : Nat} {lo : Int} (h : LIn2 A B i q lo t fs) (sA : Sp none A) (sB : Sp none B) (hq : A[i]? = some q) (e : ∀ s, B[t]? = some s → ¬ s.1 ≤ q.2) (h0 : t0 ≤ B.length) (hsk : ∀ s ∈ B.take t0, s.2 < q.1) :
    LInv A B (i + 1) t0 (if lo ≤ q.2 then fs ++ [(lo, q.2)] else fs) := by
  have wq := sA.get hq
  have hno : ∀ n, lo ≤ n → n ≤ q.2 → ¬ ins B n := fun n h1 h2 => by
    by_cases ht : t < B.length
    · have hs : B[t]? = some B[t] := List.getElem?_eq_getElem ht
      exact not_ins sB h.bef hs h1 (by have := e _ hs; omega)
    · rintro ⟨x, hx, h3, h4⟩
      have := h.bef x (by rw [List.take_of_length_le (by omega)]; exact hx)
      omega
  have hlen : i * (B.length + 1) + t + 1 ≤ (i + 1) * (B.length + 1) := by
    have := h.tl
    rw [Nat.add_mul, Nat.one_mul]
    omega
  have hsk2 : ∀ q', A[i + 1]? = some q' → ∀ s ∈ B.take t0, s.2 < q'.1 := fun q' hq' s hs => by
    have := sA.next hq hq'
    have := hsk s hs
    omega
  by_cases c : lo ≤ q.2
  · rw [if_pos c]
    refine ⟨h.sp.snoc c fun x hx => (h.last x hx).1, by have := h.len; simp; omega, fun x hx q' hq' => ?_, fun n => ?_, h0, hsk2⟩
    · rw [lastHi_snoc] at hx
      cases hx
      exact sA.next hq hq'
    · rw [ins_app, h.mem, ins_one, ins_take hq, or_and_right, or_assoc]
      refine or_congr Iff.rfl ?_
      constructor
      · rintro (⟨h1, h2, h3, h4⟩ | ⟨h1, h2⟩)
        · exact ⟨⟨h1, h3⟩, h4⟩
        · have := h.qlo
          simp at h1 h2
          exact ⟨⟨by omega, h2⟩, hno n h1 h2⟩
      · rintro ⟨⟨h1, h2⟩, h4⟩
        by_cases hn : n < lo
        · exact .inl ⟨h1, hn, h2, h4⟩
        · exact .inr ⟨by simp; omega, h2⟩
  · rw [if_neg c]
    refine ⟨h.sp, by have := h.len; omega, fun x hx q' hq' => ?_, fun n => ?_, h0, hsk2⟩
    · have := (h.last x hx).2
      have := sA.next hq hq'
      omega
    · rw [h.mem, ins_take hq, or_and_right]
      refine or_congr Iff.rfl ?_
      constructor
      · rintro ⟨h1, h2, h3, h4⟩
        exact ⟨⟨h1, h3⟩, h4⟩
      · rintro ⟨⟨h1, h2⟩, h4⟩
        exact ⟨h1, by omega, h2, h4⟩
end
end G

namespace G
open PySem L2
/-! the numbers of spans: plain -/
def totalP (rows : List (Int × Int)) : Int := (rows.map fun q => q.2 - q.1 + 1).sum
def firstFrom (rows : List (Int × Int)) (n : Int) : Option Int := (rows.find? fun q => decide (n ≤ q.2)).map fun q => max q.1 n
def lastTo (rows : List (Int × Int)) (n : Int) : Option Int := (rows.reverse.find? fun q => decide (q.1 ≤ n)).map fun q => min q.2 n
def hasB (rows : List (Int × Int)) : PyData → Bool
  | .int n => insB rows n
  | _ => false
def movedP (rows : List (Int × Int)) (b : Int) : List (Int × Int) := rows.map fun q => (q.1 + b, q.2 + b)
def turnedP (rows : List (Int × Int)) : List (Int × Int) := rows.reverse.map fun q => (0 - q.2, 0 - q.1)
theorem moved_0 (rows : List (Int × Int)) : movedP rows 0 = rows := by
  unfold movedP
  have : (fun q : Int × Int => (q.1 + 0, q.2 + 0)) = id := by funext q; simp
  rw [this, List.map_id]
theorem turned_2 (rows : List (Int × Int)) : turnedP (turnedP rows) = rows := by
  unfold turnedP
  rw [← List.map_reverse, List.reverse_reverse, List.map_map]
  have : ((fun q : Int × Int => (0 - q.2, 0 - q.1)) ∘ fun q : Int × Int => (0 - q.2, 0 - q.1)) = id := by
    funext q
    show (0 - (0 - q.1), 0 - (0 - q.2)) = q
    ext <;> simp <;> omega
  rw [this, List.map_id]
/-! the least of a list -/
theorem fold_min : ∀ (r : List Int) (n : Int), (r.foldl min n = n ∨ r.foldl min n ∈ r) ∧ r.foldl min n ≤ n ∧ ∀ y ∈ r, r.foldl min n ≤ y
  | [], n => ⟨.inl rfl, Int.le_refl _, fun y h => by cases h⟩
  | x :: r, n => by
    obtain ⟨h1, h2, h3⟩ := fold_min r (min n x)
    rw [List.foldl_cons]
    refine ⟨?_, by omega, fun y hy => ?_⟩
    · rcases h1 with h | h
      · by_cases c : n ≤ x
        · left; rw [h]; omega
        · right; rw [h, show min n x = x by omega]; exact List.mem_cons_self
      · exact .inr (List.mem_cons_of_mem _ h)
    · cases hy with
      | head => omega
      | tail _ hy => exact h3 y hy
theorem fold_max : ∀ (r : List Int) (n : Int), (r.foldl max n = n ∨ r.foldl max n ∈ r) ∧ n ≤ r.foldl max n ∧ ∀ y ∈ r, y ≤ r.foldl max n
  | [], n => ⟨.inl rfl, Int.le_refl _, fun y h => by cases h⟩
  | x :: r, n => by
    obtain ⟨h1, h2, h3⟩ := fold_max r (max n x)
    rw [List.foldl_cons]
    refine ⟨?_, by omega, fun y hy => ?_⟩
    · rcases h1 with h | h
      · by_cases c : x ≤ n
        · left; rw [h]; omega
        · right; rw [h, show max n x = x by omega]; exact List.mem_cons_self
      · exact .inr (List.mem_cons_of_mem _ h)
    · cases hy with
      | head => omega
      | tail _ hy => exact h3 y hy
def minO : List Int → Option Int
  | [] => none
  | n :: r => some (r.foldl min n)
def maxO : List Int → Option Int
  | [] => none
  | n :: r => some (r.foldl max n)
theorem minO_eq {L : List Int} {m : Int} (h : m ∈ L) (k : ∀ y ∈ L, m ≤ y) : minO L = some m := by
  cases L with
  | nil => cases h
  | cons n r =>
    obtain ⟨h1, h2, h3⟩ := fold_min r n
    have h4 : r.foldl min n ∈ n :: r := by
      rcases h1 with h1 | h1
      · rw [h1]; exact List.mem_cons_self
      · exact List.mem_cons_of_mem _ h1
    have h5 := k _ h4
    have h6 : r.foldl min n ≤ m := by
      cases h with
      | head => exact h2
      | tail _ h => exact h3 _ h
    show some _ = some _
    rw [show r.foldl min n = m by omega]
theorem maxO_eq {L : List Int} {m : Int} (h : m ∈ L) (k : ∀ y ∈ L, y ≤ m) : maxO L = some m := by
  cases L with
  | nil => cases h
  | cons n r =>
    obtain ⟨h1, h2, h3⟩ := fold_max r n
    have h4 : r.foldl max n ∈ n :: r := by
      rcases h1 with h1 | h1
      · rw [h1]; exact List.mem_cons_self
      · exact List.mem_cons_of_mem _ h1
    have h5 := k _ h4
    have h6 : m ≤ r.foldl max n := by
      cases h with
      | head => exact h2
      | tail _ h => exact h3 _ h
    show some _ = some _
    rw [show r.foldl max n = m by omega]
def aboveL (rows : List (Int × Int)) (n : Int) : List Int := (rows.filter fun q => decide (q.1 ≥ n)).map (·.1) ++ (if insB rows n then [n] else [])
def belowL (rows : List (Int × Int)) (n : Int) : List Int := (rows.filter fun q => decide (q.2 ≤ n)).map (·.2) ++ (if insB rows n then [n] else [])
theorem mem_above {rows : List (Int × Int)} {n y : Int} : y ∈ aboveL rows n ↔ (∃ q ∈ rows, q.1 = y ∧ n ≤ y) ∨ (ins rows n ∧ y = n) := by
  unfold aboveL
  rw [List.mem_append, List.mem_map]
  refine or_congr ⟨?_, ?_⟩ ?_
  · rintro ⟨q, h, rfl⟩
    rw [List.mem_filter] at h
    exact ⟨q, h.1, rfl, by simpa using h.2⟩
  · rintro ⟨q, h, rfl, h2⟩
    exact ⟨q, List.mem_filter.mpr ⟨h, by simpa using h2⟩, rfl⟩
  · by_cases c : insB rows n = true
    · rw [if_pos c]
      simp [insB_iff.mp c]
    · rw [if_neg c]
      have : ¬ ins rows n := fun z => c (insB_iff.mpr z)
      simp [this]
theorem mem_below {rows : List (Int × Int)} {n y : Int} : y ∈ belowL rows n ↔ (∃ q ∈ rows, q.2 = y ∧ y ≤ n) ∨ (ins rows n ∧ y = n) := by
  unfold belowL
  rw [List.mem_append, List.mem_map]
  refine or_congr ⟨?_, ?_⟩ ?_
  · rintro ⟨q, h, rfl⟩
    rw [List.mem_filter] at h
    exact ⟨q, h.1, rfl, by simpa using h.2⟩
  · rintro ⟨q, h, rfl, h2⟩
    exact ⟨q, List.mem_filter.mpr ⟨h, by simpa using h2⟩, rfl⟩
  · by_cases c : insB rows n = true
    · rw [if_pos c]
      simp [insB_iff.mp c]
    · rw [if_neg c]
      have : ¬ ins rows n := fun z => c (insB_iff.mpr z)
      simp [this]
theorem Sp.split : ∀ {A : List (Int × Int)} {q : Int × Int} {B : List (Int × Int)} {l : Option Int}, Sp l (A ++ q :: B) → (∀ s ∈ A, s.2 + 2 ≤ q.1) ∧ (∀ s ∈ B, q.2 + 2 ≤ s.1) ∧ q.1 ≤ q.2
  | [], q, B, _, h => ⟨(fun s hs => by cases hs), h.2.2.low, h.1⟩
  | p :: A, q, B, _, h => by
    obtain ⟨h1, h2, h3⟩ := Sp.split (A := A) h.2.2
    refine ⟨fun s hs => ?_, h2, h3⟩
    cases hs with
    | head => exact h.2.2.low q (by simp)
    | tail _ hs => exact h1 s hs
theorem first_min {rows : List (Int × Int)} {n : Int} (hs : Sp none rows) : minO (aboveL rows n) = firstFrom rows n := by
  unfold firstFrom
  cases e : rows.find? fun q => decide (n ≤ q.2) with
  | none =>
    have h : ∀ q ∈ rows, ¬ n ≤ q.2 := fun q hq => by simpa using List.find?_eq_none.mp e q hq
    have : aboveL rows n = [] := by
      refine List.eq_nil_iff_forall_not_mem.mpr fun y hy => ?_
      rcases mem_above.mp hy with ⟨q, hq, rfl, h2⟩ | ⟨⟨q, hq, h2, h3⟩, _⟩
      · have := h q hq
        have := hs.wf q hq
        omega
      · exact h q hq h3
    rw [this]
    rfl
  | some q =>
    obtain ⟨h1, A, B, rfl, h2⟩ := List.find?_eq_some_iff_append.mp e
    have h1 : n ≤ q.2 := by simpa using h1
    have h2 : ∀ s ∈ A, s.2 < n := fun s hs => by have := h2 s hs; simp at this; omega
    obtain ⟨k1, k2, k3⟩ := hs.split
    show _ = some (max q.1 n)
    refine minO_eq ?_ fun y hy => ?_
    · by_cases c : q.1 ≤ n
      · rw [show max q.1 n = n by omega]
        exact mem_above.mpr (.inr ⟨⟨q, by simp, c, h1⟩, rfl⟩)
      · rw [show max q.1 n = q.1 by omega]
        exact mem_above.mpr (.inl ⟨q, by simp, rfl, by omega⟩)
    · rcases mem_above.mp hy with ⟨s, hs', rfl, h3⟩ | ⟨⟨s, hs', h3, h4⟩, rfl⟩
      · rcases List.mem_append.mp hs' with m | m
        · have := h2 s m
          have := hs.wf s hs'
          omega
        · cases m with
          | head => omega
          | tail _ m =>
            have := k2 s m
            omega
      · rcases List.mem_append.mp hs' with m | m
        · have := h2 s m
          omega
        · cases m with
          | head => omega
          | tail _ m =>
            have := k2 s m
            omega
theorem last_max {rows : List (Int × Int)} {n : Int} (hs : Sp none rows) : maxO (belowL rows n) = lastTo rows n := by
  unfold lastTo
  cases e : rows.reverse.find? fun q => decide (q.1 ≤ n) with
  | none =>
    have h : ∀ q ∈ rows, ¬ q.1 ≤ n := fun q hq => by simpa using List.find?_eq_none.mp e q (List.mem_reverse.mpr hq)
    have : belowL rows n = [] := by
      refine List.eq_nil_iff_forall_not_mem.mpr fun y hy => ?_
      rcases mem_below.mp hy with ⟨q, hq, rfl, h2⟩ | ⟨⟨q, hq, h2, h3⟩, _⟩
      · have := h q hq
        have := hs.wf q hq
        omega
      · exact h q hq h2
    rw [this]
    rfl
  | some q =>
    obtain ⟨h1, A, B, e2, h2⟩ := List.find?_eq_some_iff_append.mp e
    have h1 : q.1 ≤ n := by simpa using h1
    have h2 : ∀ s ∈ A, n < s.1 := fun s hs => by have := h2 s hs; simp at this; omega
    have e3 : rows = B.reverse ++ q :: A.reverse := by
      have := congrArg List.reverse e2
      rw [List.reverse_reverse] at this
      rw [this]
      simp
    subst e3
    obtain ⟨k1, k2, k3⟩ := hs.split
    show _ = some (min q.2 n)
    refine maxO_eq ?_ fun y hy => ?_
    · by_cases c : n ≤ q.2
      · rw [show min q.2 n = n by omega]
        exact mem_below.mpr (.inr ⟨⟨q, by simp, h1, c⟩, rfl⟩)
      · rw [show min q.2 n = q.2 by omega]
        exact mem_below.mpr (.inl ⟨q, by simp, rfl, by omega⟩)
    · rcases mem_below.mp hy with ⟨s, hs', rfl, h3⟩ | ⟨⟨s, hs', h3, h4⟩, rfl⟩
      · rcases List.mem_append.mp hs' with m | m
        · have := k1 s m
          omega
        · cases m with
          | head => omega
          | tail _ m =>
            have := h2 s (List.mem_reverse.mp m)
            have := hs.wf s hs'
            omega
      · rcases List.mem_append.mp hs' with m | m
        · have := k1 s m
          omega
        · cases m with
          | head => omega
          | tail _ m =>
            have := h2 s (List.mem_reverse.mp m)
            omega
theorem first_drop {rows : List (Int × Int)} {n : Int} {i : Nat} {q : Int × Int} (h : rows[i]? = some q) : firstFrom (rows.drop i) n = if n ≤ q.2 then some (max q.1 n) else firstFrom (rows.drop (i + 1)) n := by
  unfold firstFrom
  rw [drop_at h, List.find?_cons]
  by_cases c : n ≤ q.2
  · simp [c]
  · simp [c]
theorem RpA.bools_inv {S : Hp} {α : Type} {f : α → Bool} : ∀ {vs : List V} {ns : List α}, RpA S vs (ns.map fun q => .bool (f q)) → vs = (ns.map f).map V.bl
  | _, [], h => by cases h; rfl
  | _, n :: ns, h => by
    cases h with
    | cons h1 h2 =>
      cases h1
      rw [RpA.bools_inv h2]
      rfl
theorem RpA.intsf_inv {S : Hp} {α : Type} {f : α → Int} {vs : List V} {ns : List α} (h : RpA S vs (ns.map fun q => .int (f q))) : vs = (ns.map f).map V.int := by
  have e : (ns.map fun q => PyData.int (f q)) = (ns.map f).map PyData.int := by rw [List.map_map]; rfl
  rw [e] at h
  exact RpA.ints_inv h
section
variable {K : PySem.W.Frag} {w : Wd} {a : Addr} {xs : List V} {Q : VK} {L : List Int}
theorem s_minO (h : w.H a = some (.lst xs)) (e : xs = L.map V.int) (k : Q (optV (minO L)) w.H) : rMinK K [.ref a] [.non] w.H Q := by
  subst e
  exact s_minK h (fun e => by subst e; exact k) fun n r e => by subst e; exact k
theorem s_maxO (h : w.H a = some (.lst xs)) (e : xs = L.map V.int) (k : Q (optV (maxO L)) w.H) : rMaxK K [.ref a] [.non] w.H Q := by
  subst e
  exact s_maxK h (fun e => by subst e; exact k) fun n r e => by subst e; exact k
end
theorem moved_take {rows : List (Int × Int)} {i : Nat} {q : Int × Int} {b : Int} (h : rows[i]? = some q) : movedP (rows.take (i + 1)) b = movedP (rows.take i) b ++ [(q.1 + b, q.2 + b)] := by
  unfold movedP
  rw [List.take_add_one, h]
  simp
theorem turned_take {rows : List (Int × Int)} {i : Nat} {q : Int × Int} (h : rows[i]? = some q) : turnedP (rows.take (i + 1)) = (0 - q.2, 0 - q.1) :: turnedP (rows.take i) := by
  unfold turnedP
  rw [List.take_add_one, h]
  simp
theorem totalP_take {rows : List (Int × Int)} {i : Nat} {q : Int × Int} (h : rows[i]? = some q) : totalP (rows.take (i + 1)) = totalP (rows.take i) + (q.2 - q.1 + 1) := by
  unfold totalP
  rw [List.take_add_one, h]
  simp
end G

namespace G
open PySem L2
/-! lows walked: plain -/
def beginP (A : List (Int × Int)) : Option Int := A.head?.map (·.1)
/-- what stands at a place of the lows -/
def atL (L : List (Option Int)) (j : Nat) : Option Int := (L[j]?).join
def mixV (A : List (Int × Int)) (m : Int) : Option Int → Option Int → Option Int
  | some l, some x => if x + m ≤ l then some l else firstFrom A (x + m)
  | some l, none => some l
  | none, _ => none
def stepV (S : List (List (Int × Int))) (L : List (Option Int)) (j e : Nat) (m : Int) : Option Int := mixV (S.getD j []) m (atL L j) (atL L e)
def stepL (S : List (List (Int × Int))) (L : List (Option Int)) (j e : Nat) (m : Int) : List (Option Int) := L.set j (stepV S L j e m)
structure Bd where
  j : Nat
  e : Nat
  m : Int
def bdT (b : Bd) : Int × Int × Int := (b.j, b.e, b.m)
def walkL (S : List (List (Int × Int))) (B : List Bd) (ks : List Nat) (L : List (Option Int)) : List (Option Int) :=
  ks.foldl (fun L k => match B[k]? with | some b => stepL S L b.j b.e b.m | none => L) L
theorem stepL_len {S L j e m} : (stepL S L j e m).length = L.length := by unfold stepL; rw [List.length_set]
theorem walkL_len {S : List (List (Int × Int))} {B : List Bd} : ∀ {ks : List Nat} {L : List (Option Int)}, (walkL S B ks L).length = L.length
  | [], _ => rfl
  | k :: ks, L => by
    have h : ∀ o : Option Bd, (match o with | some b => stepL S L b.j b.e b.m | none => L).length = L.length := fun o => by
      cases o with
      | none => rfl
      | some b => exact stepL_len
    show (walkL S B ks _).length = _
    rw [walkL_len]
    exact h _
theorem walkL_snoc {S : List (List (Int × Int))} {B : List Bd} {ks : List Nat} {k : Nat} {L : List (Option Int)} {b : Bd} (h : B[k]? = some b) : walkL S B (ks ++ [k]) L = stepL S (walkL S B ks L) b.j b.e b.m := by
  unfold walkL
  rw [List.foldl_append]
  simp [h]
theorem atL_get {L : List (Option Int)} {j : Nat} {o : Option Int} (h : L[j]? = some o) : atL L j = o := by
  unfold atL
  rw [h]
  rfl
theorem atI_0 {α : Type} {x : α} {r : List α} : atI (x :: r) 0 = some x := by
  rw [atI_nn (by decide) (by simp)]
  rfl
/-- where nothing is raised the lows stay -/
theorem set_same {L : List (Option Int)} {j : Nat} {o : Option Int} (h : L[j]? = some o) : L.set j o = L := by
  obtain ⟨h1, rfl⟩ := List.getElem?_eq_some_iff.mp h
  exact List.set_getElem_self h1
theorem RpA.opts_inv {S : Hp} : ∀ {vs : List V} {ls : List (Option Int)}, RpA S vs (ls.map optD) → vs = ls.map optV
  | _, [], h => by cases h; rfl
  | _, none :: r, h => by
    cases h with
    | cons h1 h2 =>
      cases h1
      rw [RpA.opts_inv h2]
      rfl
  | _, some n :: r, h => by
    cases h with
    | cons h1 h2 =>
      cases h1
      rw [RpA.opts_inv h2]
      rfl
theorem RpA.opts {S : Hp} : ∀ {ls : List (Option Int)}, RpA S (ls.map optV) (ls.map optD)
  | [] => .nil
  | none :: _ => .cons .non RpA.opts
  | some _ :: _ => .cons (.int _) RpA.opts
theorem rp_opt {S : Hp} {o : Option Int} : Rp S (optV o) (optD o) := by
  cases o
  · exact .non
  · exact .int _
end G

set_option linter.all false
set_option maxRecDepth 100000
namespace G
open PySem L2
/-! lows raised -/
inductive Stp
  | bad
  | up (j : Nat) (y : Int)
  | out (j : Nat)
def stpB (S : List (List (Int × Int))) (L : List Int) (b : Bd) : Stp := match L[b.j]?, L[b.e]? with
  | some l, some x => if l < x + b.m then (match firstFrom (S.getD b.j []) (x + b.m) with
    | some y => .up b.j y
    | none => .out b.j) else .bad
  | _, _ => .bad
def stp (S : List (List (Int × Int))) (B : List Bd) (k : Nat) (L : List Int) : Stp := match B[k]? with
  | none => .bad
  | some b => stpB S L b
def rfold (S : List (List (Int × Int))) (B : List Bd) : List Nat → List Int → Option (List Int × Option Nat)
  | [], L => some (L, none)
  | k :: ks, L => match stp S B k L with
    | .bad => none
    | .up j y => rfold S B ks (L.set j y)
    | .out j => if ks = [] then some (L, some j) else none
theorem rfold_snoc {S : List (List (Int × Int))} {B : List Bd} {k : Nat} : ∀ {ks : List Nat} {L M : List Int}, rfold S B ks L = some (M, none) → rfold S B (ks ++ [k]) L = match stp S B k M with
    | .bad => none
    | .up j y => some (M.set j y, none)
    | .out j => some (M, some j)
  | [], L, M, h => by
    cases h
    show (match stp S B k L with | .bad => none | .up j y => rfold S B [] (L.set j y) | .out j => if ([] : List Nat) = [] then some (L, some j) else none) = _
    cases stp S B k L with
    | bad => rfl
    | up j y => rfl
    | out j => exact if_pos rfl
  | a :: ks, L, M, h => by
    show (match stp S B a L with | .bad => none | .up j y => rfold S B (ks ++ [k]) (L.set j y) | .out j => if ks ++ [k] = [] then some (L, some j) else none) = _
    have h2 : (match stp S B a L with | .bad => none | .up j y => rfold S B ks (L.set j y) | .out j => if ks = [] then some (L, some j) else none) = some (M, none) := h
    cases hs : stp S B a L with
    | bad => rw [hs] at h2; cases h2
    | up j y => rw [hs] at h2; exact rfold_snoc h2
    | out j =>
      rw [hs] at h2
      dsimp only at h2
      by_cases c : ks = []
      · rw [if_pos c] at h2; cases h2
      · rw [if_neg c] at h2; cases h2
theorem rfold_lt {S : List (List (Int × Int))} {B : List Bd} : ∀ {ks : List Nat} {L : List Int} {p : List Int × Option Nat}, rfold S B ks L = some p → ∀ k ∈ ks, k < B.length
  | [], L, p, h, k, hk => by cases hk
  | a :: ks, L, p, h, k, hk => by
    have h2 : (match stp S B a L with | .bad => none | .up j y => rfold S B ks (L.set j y) | .out j => if ks = [] then some (L, some j) else none) = some p := h
    have ha : a < B.length := by
      rcases Nat.lt_or_ge a B.length with c | c
      · exact c
      · have : stp S B a L = .bad := by unfold stp; rw [List.getElem?_eq_none c]
        rw [this] at h2
        cases h2
    rcases List.mem_cons.mp hk with rfl | hk
    · exact ha
    · cases hs : stp S B a L with
      | bad => rw [hs] at h2; cases h2
      | up j y => rw [hs] at h2; exact rfold_lt h2 k hk
      | out j =>
        rw [hs] at h2
        dsimp only at h2
        by_cases c : ks = []
        · rw [c] at hk; cases hk
        · rw [if_neg c] at h2; cases h2
/-- all bonds kept -/
def Kept (B : List Bd) (L : List Int) : Prop := ∀ b ∈ B, ∀ l x, L[b.j]? = some l → L[b.e]? = some x → x + b.m ≤ l
theorem stp_kept {S : List (List (Int × Int))} {B : List Bd} {k : Nat} {L : List Int} (h : Kept B L) : stp S B k L = .bad := by
  unfold stp
  cases hb : B[k]? with
  | none => rfl
  | some b =>
    show stpB S L b = .bad
    unfold stpB
    cases hl : L[b.j]? with
    | none => rfl
    | some l =>
      cases hx : L[b.e]? with
      | none => rfl
      | some x =>
        have := h b (List.mem_of_getElem? hb) l x hl hx
        dsimp only
        rw [if_neg (by omega)]
theorem rfold_kept {S : List (List (Int × Int))} {B : List Bd} {ks : List Nat} {L : List Int} {p : List Int × Option Nat} (h : Kept B L) (r : rfold S B ks L = some p) : ks = [] ∧ p = (L, none) := by
  cases ks with
  | nil => cases r; exact ⟨rfl, rfl⟩
  | cons k ks =>
    have h2 : (match stp S B k L with | .bad => none | .up j y => rfold S B ks (L.set j y) | .out j => if ks = [] then some (L, some j) else none) = some p := r
    rw [stp_kept h] at h2
    cases h2
/-- how far the lows may still rise -/
def mu : List Int → List Int → Nat
  | h :: hs, l :: ls => (h + 200 - l).toNat + mu hs ls
  | _, _ => 0
theorem mu_set : ∀ (H L : List Int) (j : Nat) (h l y : Int), H[j]? = some h → L[j]? = some l → l < y → y ≤ h + 200 → mu H (L.set j y) + 1 ≤ mu H L
  | [], _, j, h, l, y, h1, _, _, _ => by simp at h1
  | _ :: _, [], j, h, l, y, _, h2, _, _ => by simp at h2
  | a :: hs, b :: ls, 0, h, l, y, h1, h2, h3, h4 => by
    cases h1
    cases h2
    show (a + 200 - y).toNat + mu hs ls + 1 ≤ (a + 200 - b).toNat + mu hs ls
    omega
  | a :: hs, b :: ls, j + 1, h, l, y, h1, h2, h3, h4 => by
    have := mu_set hs ls j h l y h1 h2 h3 h4
    show (a + 200 - b).toNat + mu hs (ls.set j y) + 1 ≤ (a + 200 - b).toNat + mu hs ls
    omega
/-- lows near the heights -/
structure Near (H L : List Int) : Prop where
  l : L.length = H.length
  b : ∀ (i : Nat) h l, H[i]? = some h → L[i]? = some l → h - 30 ≤ l ∧ l ≤ h + 200
theorem Near.mu : ∀ {H L : List Int}, Near H L → mu H L ≤ 230 * H.length
  | [], L, _ => by unfold G.mu; simp
  | a :: hs, [], n => by have := n.l; simp at this
  | a :: hs, b :: ls, n => by
    have h1 := n.b 0 a b rfl rfl
    have h2 : Near hs ls := ⟨by have := n.l; simpa using this, fun i h l g1 g2 => n.b (i + 1) h l g1 g2⟩
    have := h2.mu
    show (a + 200 - b).toNat + G.mu hs ls ≤ 230 * (hs.length + 1)
    omega
theorem Near.set {H L : List Int} {j : Nat} {h l y : Int} (n : Near H L) (h1 : H[j]? = some h) (h2 : L[j]? = some l) (h3 : l < y) (h4 : y ≤ h + 200) : Near H (L.set j y) := by
  refine ⟨by rw [List.length_set]; exact n.l, fun i h' l' g1 g2 => ?_⟩
  rw [List.getElem?_set] at g2
  by_cases c : j = i
  · subst c
    rw [if_pos rfl] at g2
    have h9 : j < L.length := (List.getElem?_eq_some_iff.mp h2).1
    rw [if_pos h9] at g2
    cases g2
    rw [h1] at g1
    cases g1
    have := n.b j h l h1 h2
    omega
  · rw [if_neg c] at g2
    exact n.b i h' l' g1 g2
/-- stretches and bonds by the heights: no ring -/
structure Lain (H : List Int) (S : List (List (Int × Int))) (B : List Bd) : Prop where
  l : S.length = H.length
  b : ∀ b ∈ B, b.j < H.length ∧ b.e < H.length ∧ ∀ hj he, H[b.j]? = some hj → H[b.e]? = some he → b.m ≤ hj - he
  s : ∀ (i : Nat) A h, S[i]? = some A → H[i]? = some h → A.length < 2 ^ 10 ∧ ∀ q ∈ A, q.1 ≤ h + 200
theorem first_ge {A : List (Int × Int)} {n y : Int} (h : firstFrom A n = some y) : n ≤ y ∧ (y = n ∨ ∃ q ∈ A, y = q.1) := by
  unfold firstFrom at h
  obtain ⟨q, h1, h2⟩ := Option.map_eq_some_iff.mp h
  have := List.mem_of_find?_eq_some h1
  subst h2
  by_cases c : q.1 ≤ n
  · exact ⟨by omega, .inl (by omega)⟩
  · exact ⟨by omega, .inr ⟨q, this, by omega⟩⟩
theorem Lain.up {H : List Int} {S : List (List (Int × Int))} {B : List Bd} (la : Lain H S B) {L : List Int} (n : Near H L) {b : Bd} (hb : b ∈ B) {x y : Int} (hx : L[b.e]? = some x) (hy : firstFrom (S.getD b.j []) (x + b.m) = some y) : ∃ h, H[b.j]? = some h ∧ x + b.m ≤ y ∧ y ≤ h + 200 := by
  obtain ⟨hj, he, hm⟩ := la.b b hb
  have g1 : H[b.j]? = some H[b.j] := List.getElem?_eq_getElem hj
  have g2 : H[b.e]? = some H[b.e] := List.getElem?_eq_getElem he
  have h1 := hm _ _ g1 g2
  have h2 := n.b _ _ _ g2 hx
  have hjS : b.j < S.length := by rw [la.l]; exact hj
  have h3 : S[b.j]? = some S[b.j] := List.getElem?_eq_getElem hjS
  have h4 := (la.s _ _ _ h3 g1).2
  have h5 : S.getD b.j [] = S[b.j] := by rw [List.getD_eq_getElem?_getD, h3]; rfl
  rw [h5] at hy
  obtain ⟨h6, h7⟩ := first_ge hy
  refine ⟨_, g1, h6, ?_⟩
  rcases h7 with h7 | ⟨q, hq, h7⟩
  · omega
  · have := h4 q hq
    omega
end G

set_option linter.all false
set_option maxRecDepth 100000
namespace G
open PySem L2
section
variable {w : Wd}
/-- a comprehension whose items touch m, I holding all along, each item told by its place -/
theorem lc_X {α : Type} {J : It} {n : Nat} {G : Wd → Prop} {Y : Nat → Wd → V → Wd → Prop} (kW : WWalk J n G Y) {P : Nat → α → Prop} {gd : α → PyData} (m : Addr → Prop) (I : Wd → Prop) {g : TG} {te : TE} {js : List Nat} {σ : L2.St} {D : Addr} {Qd : Hp → Prop} (hD : w.H D = none) (hmD : ¬ m D) (hz : n < sizeLine) (hI0 : ∀ u, Ext Non w u → I u) (hI : ∀ u v, I u → Ext (One D) u v → I v)
    (hY : ∀ i u x v, i < n → Y i u x v → v = u) (hG : ∀ u, Ext (fun l => m l ∨ l = D) w u → I u → G u)
    (hs : ∀ i x u, i < n → Y i u x u → Ext (fun l => m l ∨ l = D) w u → I u → ∀ (R : VK) (Z : Hp → Prop), (∀ v y d, Ext m u v → I v → P i d → Rp v.S y (gd d) → R y v.H) →
      g x (wipe σ js) u.H fun σ2 H2 => wipe σ2 js = wipe σ js ∧ tYes σ2 H2 fun b H3 => if b = true then te σ2 H3 R else Z H3)
    (hd : ∀ u acc (ds : List α), Ext m w u → I u → w.H D = none → Own u D (.lst acc) → RpA u.S acc (ds.map gd) → ds.length = n → (∀ (i : Nat) d, ds[i]? = some d → P i d) → Qd u.H) :
    ∃ W : Nat → Nat → Hp → Prop, (∃ m, W 0 m (upd w.H D (.lst []))) ∧ ∀ i m H, W i m H →
      (J.stop i H ∧ Qd H) ∨ (J.go i H ∧ ∃ Nx : Hp → Prop, (∀ H', Nx H' → ∃ m', m' < m ∧ W (i + 1) m' H') ∧ ∀ x H', J.yld i H x H' → g x (wipe σ js) H' fun σ2 H2 => wipe σ2 js = wipe σ js ∧ tYes σ2 H2 fun b H3 =>
        if b = true then te σ2 H3 fun y H4 => ∃ acc, H4 D = some (.lst acc) ∧ acc.length < sizeLine ∧ Nx (upd H4 D (.lst (acc ++ [y]))) else Nx H3) := by
  refine lcW kW (fun i u acc => Ext (fun l => m l ∨ l = D) w u ∧ I u ∧ ∃ ds : List α, RpA u.S acc (ds.map gd) ∧ ds.length = i ∧ ∀ (i : Nat) d, ds[i]? = some d → P i d) hD (fun u e o => ⟨e.more fun _ z => z.elim, hI0 u e, [], .nil, rfl, fun i d h => by simp at h⟩) (fun i u acc _ h => hG u h.1 h.2.1) ?_ ?_
  · rintro i x u0 u acc hi o ⟨e, iu, ds, hr, hl, hp⟩ hy
    obtain rfl := hY _ _ _ _ hi hy
    have hal : acc.length < sizeLine := by
      have h1 := hr.length
      rw [List.length_map] at h1
      omega
    refine hs i x u hi hy e iu _ _ fun v y d ev iv hd hy => ?_
    refine lc_put (o.ext ev hmD) hal fun t et ot => ⟨(e.step ev fun l hl => .inr (.inl hl)).step et fun l hl => .inr (.inr hl), hI v t iv et, ds ++ [d], ?_, by simp [hl], fun j d' hd' => ?_⟩
    · rw [List.map_append]
      exact RpA.append ((hr.go ev).go et) (.one (hy.go et))
    · by_cases c : j < ds.length
      · rw [List.getElem?_append_left c] at hd'
        exact hp j d' hd'
      · rw [List.getElem?_append_right (by omega)] at hd'
        have hj : j - ds.length = 0 := by
          cases hh : j - ds.length with
          | zero => rfl
          | succ n => rw [hh] at hd'; simp at hd'
        rw [hj] at hd'
        cases hd'
        rw [show j = i by omega]
        exact hd
  · rintro u acc ⟨e, iu, ds, hr, hl, hp⟩ o
    exact hd u acc ds (e.more fun l hl => hl.elim .inr fun h => .inl (by rw [h]; exact hD)) iu hD o hr hl hp
end
end G

set_option Elab.async false
set_option linter.all false
set_option maxRecDepth 100000
set_option maxHeartbeats 4000000
/-! the tactics (local) -/
open PySem L2 G TL NumText
local macro_rules | `(tactic| wtm_at "nm") => `(tactic| first
  | exact fun h => h
  | (refine nm_one ?_; wtm_at "ne")
  | (refine nm_two ?_ ?_ <;> wtm_at "ne")
  | (refine nm_thr ?_ ?_ ?_ <;> wtm_at "ne")
  | fail "nm")
local macro_rules | `(tactic| wtm_at "rd0") => `(tactic| first
  | assumption
  | (refine' Rd.go (by assumption) ?nm ?rd; (case nm => wtm_at "nm"); (case rd => wtm_at "rd0"))
  | fail "rd0")
local macro_rules | `(tactic| wtm_at "rd") => `(tactic| first
  | wtm_at "rd0"
  | (refine' Or.inl ?o; (case o => wtm_at "stb"))
  | (refine' Or.inr ?o; (case o => wtm_at "own"))
  | fail "rd")
local macro_rules | `(tactic| wtm_at "ne") => `(tactic| first
  | assumption
  | exact Ne.symm (by assumption)
  | (refine' Own.ne ?o ?n; (case n => assumption); (case o => wtm_at "own"))
  | (refine' Own.ne' ?o ?n; (case n => assumption); (case o => wtm_at "own"))
  | (refine' own_ne ?o1 ?o2 ?d; (case o1 => assumption); (case o2 => assumption); (case d => exact fun z => by cases z))
  | (refine' Rd.ne ?o ?n; (case n => assumption); (case o => wtm_at "rd0"))
  | (refine' Rd.ne' ?o ?n; (case n => assumption); (case o => wtm_at "rd0"))
  | fail "ne")
local macro_rules | `(tactic| wtm_at "own") => `(tactic| first
  | assumption
  | (refine' Own.ext (by assumption) ?nm ?ow; (case nm => wtm_at "nm"); (case ow => wtm_at "own"))
  | fail "own")
local macro_rules | `(tactic| wtm_at "stb") => `(tactic| first
  | assumption
  | (refine' st_go (by assumption) ?st; (case st => wtm_at "stb"))
  | fail "stb")
local macro_rules | `(tactic| wtm_at "rp") => `(tactic| first
  | assumption
  | exact Rp.int _ | exact Rp.str _ | exact Rp.bl _ | exact Rp.non
  | (refine' Rp.tup ?s ?r; (case s => wtm_at "stb"); (case r => wtm_at "rpa"))
  | (refine' Rp.lst ?s ?r; (case s => wtm_at "stb"); (case r => wtm_at "rpa"))
  | (refine' Rp.dct ?s; (case s => wtm_at "stb"))
  | (refine' Rp.go (by assumption) ?rp; (case rp => wtm_at "rp"))
  | fail "rp")
local macro_rules | `(tactic| wtm_at "rpa") => `(tactic| first
  | assumption
  | exact RpA.nil
  | (refine' RpA.append ?r1 ?r2; (case r1 => wtm_at "rpa"); (case r2 => wtm_at "rpa"))
  | (refine' RpA.cut ?r1 _ _; (case r1 => wtm_at "rpa"))
  | (refine' RpA.reverse ?r1; (case r1 => wtm_at "rpa"))
  | (refine' RpA.cons ?r1 ?r2; (case r1 => wtm_at "rp"); (case r2 => wtm_at "rpa"))
  | (refine' RpA.go (by assumption) ?rp; (case rp => wtm_at "rpa"))
  | fail "rpa")
local macro_rules | `(tactic| wtm_at "sq") => `(tactic| first
  | assumption
  | (refine' SqL.of (Wd.ok _ _ _ ?o); (case o => wtm_at "stb"))
  | (refine' SqL.of (Own.h ?o); (case o => wtm_at "own"))
  | (refine' sq_go (by assumption) ?sq; (case sq => wtm_at "sq"))
  | (refine' SqL.of (Rd.h ?o); (case o => wtm_at "rd0"))
  | fail "sq")
local macro_rules | `(tactic| wtm_at "sqt") => `(tactic| first
  | assumption
  | (refine' sqt_of ?o; (case o => wtm_at "stb"))
  | fail "sqt")
/-- from the world w at hand back to an earlier one: the touched cells are new to it, or may be touched -/
local macro_rules | `(tactic| wtm_at "fr") => `(tactic| first
  | assumption
  | (refine' Ext.back (by assumption) ?fr; (case fr => wtm_at "fr"))
  | fail "fr")
local macro_rules | `(tactic| wtm_at "tch") => `(tactic| first
  | exact fun _ z => z.elim
  | (refine tch_one ?t; (first | (refine Or.inr ?_; first | rfl | exact Or.inl rfl | exact Or.inr rfl | exact Or.inr (Or.inl rfl) | exact Or.inr (Or.inr rfl)) | (refine Or.inl ?_; wtm_at "fr")))
  | (refine tch_two ?t1 ?t2 <;> (first | (refine Or.inr ?_; first | rfl | exact Or.inl rfl | exact Or.inr rfl | exact Or.inr (Or.inl rfl) | exact Or.inr (Or.inr rfl)) | (refine Or.inl ?_; wtm_at "fr")))
  | (refine tch_thr ?t1 ?t2 ?t3 <;> (first | (refine Or.inr ?_; first | rfl | exact Or.inl rfl | exact Or.inr (Or.inl rfl) | exact Or.inr (Or.inr rfl)) | (refine Or.inl ?_; wtm_at "fr")))
  | fail "tch")
local macro_rules | `(tactic| wtm_at "ch") => `(tactic| first
  | exact Ext.refl _ _
  | assumption
  | (refine' Ext.step ?a ?b ?t; (case b => assumption); (case a => wtm_at "ch"); (case t => wtm_at "tch"))
  | fail "ch")
local macro_rules | `(tactic| wtm_at "lb") => `(tactic| first
  | (refine' len_app ?a ?b; (case a => wtm_at "lb"); (case b => wtm_at "lb"))
  | (refine' len_cut ?a; (case a => wtm_at "lb"))
  | (refine' len_rev ?a; (case a => wtm_at "lb"))
  | exact Nat.le_refl _
  | fail "lb")
local macro_rules | `(tactic| wtm_at "ar") => `(tactic| first
  | assumption | omega | (simp only [List.length_append, List.length_cons, List.length_nil, List.length_map, List.length_reverse, List.length_replicate, sizeLine_eq]; omega)
  | (refine' z_cat ?h1 ?h2 ?k; (case h1 => wtm_at "lb"); (case h2 => wtm_at "lb"); (case k => (simp only [List.length_append, List.length_cons, List.length_nil, List.length_map, List.length_reverse, sizeLine_eq]; omega)))
  | fail "ar")
local macro_rules | `(tactic| wtm_at "go1") => `(tactic| first
  | with_reducible refine s_seq ?_
  | with_reducible refine s_asg ?_
  | ((with_reducible refine' s_gname ?e ?k); (case e => first | (simp only [List.set_cons_succ, List.set_cons_zero]; exact rfl) | exact rfl))
  | ((with_reducible refine' s_var ?e ?k); (case e => exact rfl))
  | with_reducible refine s_c ?_
  | with_reducible refine s_op ?_
  | with_reducible refine s_CB ?_
  | with_reducible refine s_cons ?_
  | with_reducible refine s_nil ?_
  | with_reducible refine s_ifS ?_
  | with_reducible refine s_test ?_
  | with_reducible refine s_B ?_
  | with_reducible refine s_bl ?_
  | with_reducible refine s_and ?_
  | with_reducible refine s_or ?_
  | with_reducible refine s_not ?_
  | with_reducible refine s_andV ?_
  | with_reducible refine s_orV ?_
  | with_reducible refine s_notV ?_
  | with_reducible refine s_ret ?_
  | with_reducible refine s_retN ?_
  | with_reducible refine s_next ?_
  | with_reducible refine s_drop ?_
  | with_reducible refine s_call ?_
  | with_reducible refine s_add ?_
  | with_reducible refine s_sub ?_
  | ((with_reducible refine s_mul ?h ?k); (case h => wtm_at "mul"))
  | ((with_reducible refine s_div ?h ?k); (case h => wtm_at "div"))
  | ((with_reducible refine s_mod ?h ?k); (case h => wtm_at "ar"))
  | ((with_reducible refine' s_powN ?h ?e ?k); (case h => exact ⟨by decide, by decide, by decide⟩); (case e => first | exact p10_8 | exact p10_18 | exact p10_30 | exact p10_22 | exact p10_6 | exact p10_9 | exact p10_10 | exact p10_12 | exact p10_14 | exact p10_15 | exact p10_7 | exact p10_25 | exact p10_27 | exact p10_29 | exact p10_11 | exact p10_1 | exact p10_2 | exact p10_3 | exact p10_4 | exact p10_5 | exact p10_13 | exact p10_16 | exact p10_17 | exact p10_19 | exact p10_20 | exact p10_21 | exact p10_23 | exact p10_24 | exact p10_26 | exact p10_28 | exact p10_31))
  | with_reducible refine s_lt ?_
  | with_reducible refine s_le ?_
  | with_reducible refine s_gt ?_
  | with_reducible refine s_ge ?_
  | with_reducible refine s_eqI ?_
  | with_reducible refine s_eqS ?_
  | with_reducible refine s_eqB ?_
  | with_reducible refine s_neI ?_
  | with_reducible refine s_neS ?_
  | with_reducible refine s_neBs ?_
  | with_reducible refine s_isB ?_
  | with_reducible refine s_notB ?_
  | ((with_reducible refine' s_ninS2 ?r ?k); (case r => wtm_at "stb"))
  | with_reducible refine s_iEnum ?_
  | ((with_reducible refine' s_isiC ?h ?c ?i ?k); (case h => wtm_at "hh"); (case c => assumption); (case i => assumption))
  | with_reducible refine s_isNN ?_
  | with_reducible refine s_isIN ?_
  | with_reducible refine s_isRN ?_
  | with_reducible refine s_isSN ?_
  | with_reducible refine s_notNN ?_
  | with_reducible refine s_notIN ?_
  | with_reducible refine s_notRN ?_
  | with_reducible refine s_notSN ?_
  | with_reducible refine s_isN ?_
  | with_reducible refine s_notN ?_
  | with_reducible refine s_max ?_
  | ((with_reducible refine' s_str ?h ?k); (case h => exact log_small (by omega) (by omega)))
  | with_reducible refine s_min ?_
  | with_reducible refine s_abs ?_
  | with_reducible refine s_inti ?_
  | with_reducible refine s_intt ?_
  | with_reducible refine s_intf ?_
  | with_reducible refine s_intb ?_
  | with_reducible refine s_un ?_
  | with_reducible refine s_neg ?_
  | with_reducible refine t_tup ?_
  | with_reducible refine t_lst ?_
  | ((with_reducible refine' t_newT ?h ?k); (case h => wtm_at "len"); (intro _p _v _e _n _s))
  | ((with_reducible refine' t_newL ?h ?k); (case h => wtm_at "len"); (intro _p _v _e _n _o))
  | with_reducible refine s_chain ?_
  | with_reducible refine s_ifE ?_
  | with_reducible refine s_sl ?_
  | with_reducible refine s_nopart ?_
  | with_reducible refine s_part ?_
  | with_reducible refine s_int ?_
  | with_reducible refine s_dget ?_
  | with_reducible refine s_dput ?_
  | with_reducible refine s_BM ?_
  | with_reducible refine s_BM0 ?_
  | with_reducible refine s_for ?_
  | with_reducible refine s_iList ?_
  | with_reducible refine s_iTup ?_
  | with_reducible refine s_iRng1 ?_
  | with_reducible refine s_iStr ?_
  | with_reducible refine s_Lc ?_
  | with_reducible refine s_pr1 ?_
  | with_reducible refine s_pr2 ?_
  | with_reducible refine s_pr3 ?_
  | with_reducible refine s_pr4 ?_
  | with_reducible refine s_pr0 ?_
  | with_reducible refine wds_i ?_
  | wtm_at "isi"
  | ((with_reducible refine' s_lenT ?r ?k); (case r => wtm_at "stb"))
  | ((with_reducible refine' s_lenL ?r ?k); (case r => wtm_at "stb"))
  | ((with_reducible refine' s_lenO ?r ?k); (case r => wtm_at "own"))
  | ((with_reducible refine' s_ixT ?r ?e ?k); (case r => wtm_at "stb"); (case e => exact rfl))
  | ((with_reducible refine' s_ixL ?r ?e ?k); (case r => wtm_at "stb"); (case e => exact rfl))
  | ((with_reducible refine' s_ixO ?r ?e ?k); (case r => wtm_at "own"); (case e => exact rfl))
  | ((with_reducible refine' s_ixO ?r ?e ?k); (case r => wtm_at "own"); (case e => exact atI_snoc))
  | ((with_reducible refine' s_ixO ?r ?e ?k); (case r => wtm_at "own"); (case e => exact atI_back (by simp)))
  | ((with_reducible refine' s_gtup ?r ?e ?k); (case r => wtm_at "stb"); (case e => exact rfl))
  | ((with_reducible refine' s_lenR ?r ?k); (case r => wtm_at "rd0"))
  | ((with_reducible refine' s_ixA ?r ?e ?k); (case r => wtm_at "rd0"); (case e => assumption))
  | ((with_reducible refine' s_augA ?e ?e2 ?k); (case e => exact rfl); (case e2 => (simp only [List.set_cons_succ, List.set_cons_zero]; exact rfl)))
  | with_reducible refine s_whN ?_
  | ((with_reducible refine' s_fnv ?k); (intro _f _hf))
  | ((with_reducible refine' s_callH ?e ?h ?k); (case e => exact rfl); (case h => assumption))
  | with_reducible refine s_pn1 ?_
  | ((with_reducible refine' s_lenZ ?h ?k); (case h => wtm_at "txz"))
  | ((with_reducible refine' s_addZ ?h ?k); (case h => wtm_at "txs"))
  | ((with_reducible refine' s_slZ ?h ?k); (case h => wtm_at "txz"))
  | with_reducible refine s_inZ ?_
  | with_reducible refine s_ninZ ?_
  | with_reducible refine s_leZ ?_
  | with_reducible refine s_fld ?_
  | ((with_reducible refine' s_rfld ?h ?c ?n ?l ?k); (case h => wtm_at "hh"); (case c => assumption); (case n => assumption); (case l => wtm_at "lkp"))
  | with_reducible refine s_sfld ?_
  | ((with_reducible refine' s_rsfl ?h ?c ?n ?z ?e ?k); (case h => wtm_at "own"); (case c => assumption); (case n => assumption); (case z => (simp only [List.length_cons, List.length_nil]; try omega)); (case e => wtm_at "pf"); (intro _v _e _o))
  | with_reducible refine s_meth ?_
  | ((with_reducible refine' s_rmeth ?h ?l ?k); (case h => wtm_at "hh"); (case l => wtm_at "lkp"))
  | with_reducible refine s_make ?_
  | with_reducible refine s_pm1 ?_
  | with_reducible refine s_pm2 ?_
  | with_reducible refine s_pm3 ?_
  | ((with_reducible refine' s_isiT2 ?s ?h ?e1 ?e2 ?k); (case s => wtm_at "stb"); (case h => wtm_at "rp"); (case e1 => first | exact isT_list _ | exact isT_tup _); (case e2 => first | exact isT_list _ | exact isT_tup _))
  | with_reducible refine s_CKw ?_
  | with_reducible refine s_iRev ?_
  | with_reducible refine s_iZip ?_
  | ((with_reducible refine' s_iRevK ?h ?k); (case h => wtm_at "hh"))
  | ((with_reducible refine' s_ins0 ?r ?z ?k); (case r => wtm_at "own"); (case z => wtm_at "ar"); (intro _v _e _o))
  | ((with_reducible refine' s_pop ?r ?k); (case r => wtm_at "own"); (intro _v _e _o))
  | ((with_reducible refine' s_setB ?r ?k); (case r => wtm_at "own"); (intro _v _e _o))
  | with_reducible refine s_gcons ?_
  | with_reducible refine s_gnil ?_
  | with_reducible refine s_gsub ?_
  | with_reducible refine t_rev ?_
  | ((with_reducible refine' s_ty ?r ?k); (case r => wtm_at "own"))
  | with_reducible refine s_tyS ?_
  | with_reducible refine s_m1 ?_
  | with_reducible refine s_isS ?_
  | ((with_reducible refine' s_app ?r ?z ?k); (case r => wtm_at "own"); (case z => wtm_at "ar"); (intro _v _e _o))
  | ((with_reducible refine' s_clear ?r ?k); (case r => wtm_at "own"); (intro _v _e _o))
  | ((with_reducible refine' s_reverse ?r ?k); (case r => wtm_at "own"); (intro _v _e _o))
  | ((with_reducible refine' s_divmod ?r ?k); (case r => exact ⟨by decide, by decide⟩); (intro _p _v _e _n _s))
  | ((with_reducible refine' s_allO ?r ?k); (case r => wtm_at "own"))
  | ((with_reducible refine' s_anyO ?r ?k); (case r => wtm_at "own"))
  | ((with_reducible refine' ⟨_, _, rfl, dgetS ?r ?e, ?k⟩); (case r => wtm_at "own"); (case e => wtm_at "valv"))
  | ((with_reducible refine' s_dputS ?r ?e ?z ?k); (case r => wtm_at "own"); (case e => wtm_at "putv"); (case z => wtm_at "len"); (intro _v _e _o))
  | with_reducible refine t_disp ?_
  | with_reducible refine s_pnil ?_
  | with_reducible refine s_pcons ?_
  | ((with_reducible refine' s_dnew ?k); (intro _p _v _e _n _o))
  | ((with_reducible refine' s_setL ?r ?e ?k); (case r => wtm_at "own"); (case e => exact rfl); (intro _v _e _o))
  | ((refine' ⟨_, rfl, ⟨_, ?r⟩, ?k⟩); (case r => first | wtm_at "sq" | wtm_at "sqt"))
  | ((refine' ⟨_, rfl, ?r1, ?r2, ?k⟩); (case r1 => show (-(2 ^ 62) : Int) ≤ _; omega); (case r2 => show _ < (2 ^ 62 : Int); omega))
  | ((with_reducible refine' s_idxF ?h1 ?h2 ?k); (case h1 => omega); (case h2 => omega))
  | with_reducible refine s_zf2 ?_
  | with_reducible refine s_jn ?_
  | with_reducible refine s_js ?_
  | with_reducible refine s_js0 ?_
  | with_reducible refine s_fmt ?_
  | ((with_reducible refine' s_fmtS ?h ?k); (case h => wtm_at "txz"))
  | ((with_reducible refine' s_fmtI ?h ?k); (case h => exact log_small (by omega) (by omega)))
  | ((with_reducible refine' s_jsp ?h ?k); (case h => wtm_at "txz"))
  | ((with_reducible refine' s_split ?h1 ?h2 ?k); (case h1 => decide +kernel); (case h2 => wtm_at "txx"); (intro _p _v _e _n _s))
  | with_reducible refine ite_tt ?_
  | with_reducible refine ite_ff ?_
  | with_reducible refine ite_nr ?_
  | with_reducible refine ite_nt ?_
  | with_reducible refine ite_nf ?_
  | fail "go1")
local macro_rules | `(tactic| wtm_at "tx") => `(tactic| first
  | assumption
  | (refine' Tx.app ?x ?y; (case x => wtm_at "tx"); (case y => wtm_at "tx"))
  | (refine' Tx.cut ?x _ _; (case x => wtm_at "tx"))
  | (refine' Tx.one ?x; (case x => first | assumption | omega))
  | exact tx_int (by omega)
  | exact Tx.litN (n := 1) (by decide +kernel) (by decide +kernel)
  | exact Tx.litN (n := 8) (by decide +kernel) (by decide +kernel)
  | exact Tx.litN (n := 16) (by decide +kernel) (by decide +kernel)
  | fail "tx")
local macro_rules | `(tactic| wtm_at "txx") => `(tactic| (refine' Tx.z2 ?h ?k; (case h => wtm_at "tx"); (case k => first | decide | omega)))
local macro_rules | `(tactic| wtm_at "txz") => `(tactic| (refine' Tx.sz ?h ?k; (case h => wtm_at "tx"); (case k => first | decide | omega)))
local macro_rules | `(tactic| wtm_at "txs") => `(tactic| (refine' Tx.sum ?h ?g ?k; (case h => wtm_at "tx"); (case g => wtm_at "tx"); (case k => first | decide | omega)))
local macro_rules | `(tactic| wtm_at "lkp") => `(tactic| first
  | exact lk_hd
  | exact lk_nil
  | (refine' lk_tl ?h ?t; (case h => decide +kernel); (case t => wtm_at "lkp"))
  | fail "lkp")
local macro_rules | `(tactic| wtm_at "pf") => `(tactic| first
  | exact pf_nil
  | exact pf_hd
  | (refine' pf_tl ?h ?t; (case h => decide +kernel); (case t => wtm_at "pf"))
  | fail "pf")
local macro_rules | `(tactic| wtm_at "valv") => `(tactic| first
  | exact valS_pos
  | exact valS_nil
  | (refine' valS_neg ?h ?t; (case h => decide +kernel); (case t => wtm_at "valv"))
  | fail "valv")
local macro_rules | `(tactic| wtm_at "putv") => `(tactic| first
  | exact putK_nil
  | (refine' putS_pos ?h; (case h => wtm_at "valv"))
  | (refine' putS_neg ?h ?t; (case h => decide +kernel); (case t => wtm_at "putv"))
  | fail "putv")
local macro_rules | `(tactic| wtm_at "len") => `(tactic| (simp only [List.length, sizeLine_eq]; omega))
local macro_rules | `(tactic| wtm_at "kb") => `(tactic| first
  | exact kb_NoneType_int
  | exact kb_NoneType_bool
  | exact kb_NoneType_str
  | exact kb_NoneType_list
  | exact kb_NoneType_tuple
  | exact kb_NoneType_dict
  | exact kb_bool_int
  | exact kb_bool_bool
  | exact kb_bool_str
  | exact kb_bool_list
  | exact kb_bool_tuple
  | exact kb_bool_dict
  | exact kb_int_int
  | exact kb_int_bool
  | exact kb_int_str
  | exact kb_int_list
  | exact kb_int_tuple
  | exact kb_int_dict
  | exact kb_str_int
  | exact kb_str_bool
  | exact kb_str_str
  | exact kb_str_list
  | exact kb_str_tuple
  | exact kb_str_dict
  | exact kb_list_int
  | exact kb_list_bool
  | exact kb_list_str
  | exact kb_list_list
  | exact kb_list_tuple
  | exact kb_list_dict
  | exact kb_tuple_int
  | exact kb_tuple_bool
  | exact kb_tuple_str
  | exact kb_tuple_list
  | exact kb_tuple_tuple
  | exact kb_tuple_dict
  | exact kb_dict_int
  | exact kb_dict_bool
  | exact kb_dict_str
  | exact kb_dict_list
  | exact kb_dict_tuple
  | exact kb_dict_dict
  | fail "kb")
local macro_rules | `(tactic| wtm_at "isi") => `(tactic| first
  | ((with_reducible refine' si_int ?e ?k); (case e => wtm_at "kb"))
  | ((with_reducible refine' si_bl ?e ?k); (case e => wtm_at "kb"))
  | ((with_reducible refine' si_str ?e ?k); (case e => wtm_at "kb"))
  | ((with_reducible refine' si_non ?e ?k); (case e => wtm_at "kb"))
  | ((with_reducible refine' sd_int ?r ?k); (case r => wtm_at "rp"))
  | ((with_reducible refine' sd_bool ?r ?k); (case r => wtm_at "rp"))
  | ((with_reducible refine' sd_str ?r ?k); (case r => wtm_at "rp"))
  | ((with_reducible refine' sd_list ?r ?k); (case r => wtm_at "rp"))
  | ((with_reducible refine' sd_tuple ?r ?k); (case r => wtm_at "rp"))
  | ((with_reducible refine' sd_dict ?r ?k); (case r => wtm_at "rp"))
  | ((with_reducible refine' si_lst ?r ?e ?k); (case r => wtm_at "stb"); (case e => wtm_at "kb"))
  | ((with_reducible refine' si_tup ?r ?e ?k); (case r => wtm_at "stb"); (case e => wtm_at "kb"))
  | ((with_reducible refine' si_own ?r ?e ?k); (case r => wtm_at "own"); (case e => wtm_at "kb"))
  | ((with_reducible refine' si_rd ?r ?e ?k); (case r => wtm_at "rd0"); (case e => wtm_at "kb"))
  | fail "isi")
local macro_rules | `(tactic| wtm_at "mul") => `(tactic| first
  | exact .inl (.inl ⟨by decide, by decide⟩) | exact .inl (.inr ⟨by decide, by decide⟩)
  | exact .inl (.inl ⟨by omega, by omega⟩) | exact .inl (.inr ⟨by omega, by omega⟩)
  | fail "mul")
local macro_rules | `(tactic| wtm_at "div") => `(tactic| first
  | exact ⟨by decide, by decide⟩ | exact divW (by omega) (by omega)
  | fail "div")
local macro_rules | `(tactic| wtm_at "hh") => `(tactic| first
  | (refine' Wd.ok _ _ _ ?o; (case o => wtm_at "stb"))
  | (refine' Own.h ?o; (case o => wtm_at "own"))
  | (refine' Rd.h ?o; (case o => wtm_at "rd0"))
  | assumption
  | fail "hh")
local macro_rules | `(tactic| wtm_at "sqs") => `(tactic| first
  | (refine' Or.inl ?o; (case o => wtm_at "sq"))
  | (refine' Or.inr ?o; (case o => wtm_at "sqt"))
  | fail "sqs")
/-- as go1, new lists standing for good -/
local macro_rules | `(tactic| wtm_at "gs1") => `(tactic| first
  | ((with_reducible refine' t_disp0 ?k); (intro _p _v _e _n _s))
  | ((with_reducible refine' s_dnewS ?k); (intro _p _v _e _n _s))
  | ((with_reducible refine' t_newLS ?h ?k); (case h => wtm_at "len"); (intro _p _v _e _n _s))
  | ((with_reducible refine' s_catS ?h1 ?h2 ?z ?k); (case h1 => wtm_at "hh"); (case h2 => wtm_at "hh"); (case z => wtm_at "ar"); (intro _p _v _e _n _s))
  | ((with_reducible refine' s_slS ?h ?k); (case h => wtm_at "sq"); (intro _p _v _e _n _s))
  | ((with_reducible refine' t_revS ?h ?k); (case h => wtm_at "sq"); (intro _p _v _e _n _s))
  | ((with_reducible refine' s_listS ?h ?k); (case h => wtm_at "sqs"); (intro _p _v _e _n _s))
  | ((with_reducible refine' s_rep1 ?h ?c ?k); (case h => wtm_at "hh"); (case c => (simp only [List.length_cons, List.length_nil, sizeLine_eq]; decide)); (intro _p _v _e _n _s))
  | ((with_reducible refine' s_repN ?h ?h0 ?h1 ?k); (case h => wtm_at "hh"); (case h0 => decide); (case h1 => decide); (intro _p _v _e _n _s))
  | ((with_reducible refine' s_repM ?h ?h0 ?h1 ?c ?k); (case h => wtm_at "hh"); (case h0 => decide); (case h1 => decide); (case c => (simp only [List.length_cons, List.length_nil, sizeLine_eq]; decide)); (intro _p _v _ys _e _n _s _l _q; simp only [List.length_cons, List.length_nil] at _l))
  | ((with_reducible refine' s_rep0 ?h ?k); (case h => wtm_at "hh"); (intro _p _v _e _n _s))
  | ((with_reducible refine' s_tupleS ?h ?k); (case h => wtm_at "sq"); (intro _p _v _e _n _s))
  | wtm_at "go1"
  | fail "gs1")
/-- an item at a place that is not written: its way told by membership -/
local macro_rules | `(tactic| wtm_at "ixm") => `(tactic| first
  | ((with_reducible refine' s_ixOm ?h ?h0 ?h1 ?k); (case h => wtm_at "own"); (case h0 => omega); (case h1 => first | omega | (simp only [List.length]; omega) | (simp only [List.length_append, List.length_cons, List.length_nil]; omega)))
  | ((with_reducible refine' s_ixSm ?h ?h0 ?h1 ?k); (case h => wtm_at "stb"); (case h0 => omega); (case h1 => first | omega | (simp only [List.length]; omega) | (simp only [List.length_append, List.length_cons, List.length_nil]; omega)))
  | ((with_reducible refine' s_ixTm ?h ?h0 ?h1 ?k); (case h => wtm_at "stb"); (case h0 => omega); (case h1 => first | omega | (simp only [List.length]; omega) | (simp only [List.length_append, List.length_cons, List.length_nil]; omega)))
  | fail "ixm")
local macro_rules | `(tactic| wtm_at "gs") => `(tactic| repeat wtm_at "gs1")
local macro_rules | `(tactic| wtm_at "go") => `(tactic| repeat wtm_at "go1")
/-- the same, never looking into a decided test -/
local macro_rules | `(tactic| wtm_at "gol") => `(tactic| repeat ((fail_if_success (with_reducible refine ite_d ?_ ?_)); wtm_at "go1"))
local macro_rules | `(tactic| wtm_at "gsl") => `(tactic| repeat ((fail_if_success (with_reducible refine ite_d ?_ ?_)); wtm_at "gs1"))
/-- the same, up to the next if -/
local macro_rules | `(tactic| wtm_at "goi") => `(tactic| repeat ((fail_if_success (with_reducible refine s_ifS ?_)); wtm_at "go1"))
local macro_rules | `(tactic| wtm_at "gsi") => `(tactic| repeat ((fail_if_success (with_reducible refine s_ifS ?_)); wtm_at "gs1"))

namespace L
def top (i : Nat) : Stmt := PySem.Challenge.pw_foldlog_k45_lows_raised.main.body.getD i (.Pass ⟨0, 0, 0, 0⟩)
structure Txt (K : PySem.W.Frag) (mg : Str → Option Value) (C_Frame : Addr) : Prop where
  g_Frame : mg "Frame" = some (.ref C_Frame)
  cl_Frame : Cls K C_Frame
  na_Frame_sets : NoAttr K C_Frame "sets"
  na_Frame_ties : NoAttr K C_Frame "ties"
  n_abs : mg "abs" = none
  n_all : mg "all" = none
  n_bool : mg "bool" = none
  n_enumerate : mg "enumerate" = none
  n_int : mg "int" = none
  n_isinstance : mg "isinstance" = none
  n_len : mg "len" = none
  n_list : mg "list" = none
  n_max : mg "max" = none
  n_min : mg "min" = none
  n_range : mg "range" = none
  n_str : mg "str" = none
  n_tuple : mg "tuple" = none
  n_zip : mg "zip" = none
section
variable {P : Program} {ww : World} {K : PySem.W.Frag} {mg : Str → Option Value} {base : Heap}
/-- the script -/
def Scr (K : PySem.W.Frag) (w : Wd) (v : V) : Prop := ∃ a, ∃ ns : List Int, v = .ref a ∧ SqL K w.S a (ns.map V.int) ∧ ns.length ≤ 63
theorem Scr.go {K : PySem.W.Frag} {w u : Wd} {v : V} {m : Addr → Prop} (e : Ext m w u) (h : Scr K w v) : Scr K u v := by
  obtain ⟨a, ns, rfl, h1, h2⟩ := h
  exact ⟨a, ns, rfl, sq_go e h1, h2⟩
/-- a pool of numbers stands at a -/
def Pool (w : Wd) (a : Addr) : Prop := ∃ c f x : Int, 0 ≤ c ∧ Own w a (.lst [.int c, .int f, .int x])
theorem Pool.go {w u : Wd} {a : Addr} {m : Addr → Prop} (e : Ext m w u) (n : ¬ m a) (h : Pool w a) : Pool u a := by
  obtain ⟨l, s, t, h0, h⟩ := h
  exact ⟨l, s, t, h0, h.ext e n⟩
theorem s_lenN {K : PySem.W.Frag} {w : Wd} {a : Addr} {ns : List Int} {Q : VK} (h : SqL K w.S a (ns.map V.int)) (k : Q (.int ns.length) w.H) : gLen K [.ref a] w.H Q := s_lenK (w.ok.seq h) (by rw [List.length_map]; exact k)
theorem s_ixN {K : PySem.W.Frag} {w : Wd} {a : Addr} {ns : List Int} {j : Int} {Q : VK} (h : SqL K w.S a (ns.map V.int)) (h0 : 0 ≤ j) (h1 : j < ns.length) (k : ∀ z, Q (.int z) w.H) : gIx K (.ref a) (.int j) w.H Q :=
  ⟨_, .int ns[j.toNat], .inl (w.ok.seq h), by
    rw [atI_nn h0 (by rw [List.length_map]; omega), List.getElem?_map, List.getElem?_eq_getElem (by omega)]
    rfl, k _⟩
theorem s_powV {a b c : Int} {Q : VK} {H : Hp} (h : CPow a b) (e : a ^ b.toNat = c) (k : ∀ z, z = c → Q (.int z) H) : gPow (.int a) (.int b) H Q := s_powN h e (k c rfl)
local macro_rules | `(tactic| wtm_at "scr") => `(tactic| first
  | assumption
  | (refine' Scr.go (by assumption) ?s; (case s => wtm_at "scr"))
  | fail "scr")
local macro_rules | `(tactic| wtm_at "sqS") => `(tactic| first
  | assumption
  | (refine' sq_go (by assumption) ?s; (case s => wtm_at "sqS"))
  | fail "sqS")
local macro_rules | `(tactic| wtm_at "go1") => `(tactic| first
  | ((with_reducible refine' s_powV ?h ?e ?k); (case h => exact ⟨by decide, by decide, by decide⟩); (case e => first | exact p10_8 | exact p10_18 | exact p10_30 | exact p10_22 | exact p10_6 | exact p10_9 | exact p10_10 | exact p10_12 | exact p10_14 | exact p10_15 | exact p10_7 | exact p10_25 | exact p10_27 | exact p10_29 | exact p10_11 | exact p10_1 | exact p10_2 | exact p10_3 | exact p10_4 | exact p10_5 | exact p10_13 | exact p10_16 | exact p10_17 | exact p10_19 | exact p10_20 | exact p10_21 | exact p10_23 | exact p10_24 | exact p10_26 | exact p10_28 | exact p10_31); (intro _c _hc))
  | ((with_reducible refine' s_lenN ?h ?k); (case h => wtm_at "sqS"))
  | ((with_reducible refine' s_ixN ?h ?h0 ?h1 ?k); (case h => wtm_at "sqS"); (case h0 => first | omega | exact Int.emod_nonneg _ (by omega)); (case h1 => first | omega | exact Int.emod_lt_of_pos _ (by omega)); (intro _z)))
/-! _law_pool -/
abbrev s_l_pool : Stmt := top 8
abbrev nm_l_pool : List Str := ["_law_script", "_law_k", "_law_cell", "_law_first_here"]
theorem sc_l_pool : FnScope nm_l_pool ["_law_script", "_law_k"] (defScope s_l_pool) := ⟨rfl, rfl, rfl, by decide +kernel, rfl, by decide +kernel, by decide +kernel⟩
theorem st_l_pool (a b : V) : start nm_l_pool [a, b] = [some a, some b, none, none] := rfl
def p_l_pool (K : PySem.W.Frag) (w : Wd) (a b : V) (Q : VK) (_ : XK) : Prop := ∃ k : Int, Scr K w a ∧ b = .int k ∧ 0 ≤ k ∧ ∀ v p, Ext Non w v → w.H p = none → Pool v p → Q (.ref p) v.H
theorem ok_l_pool {f : Addr} {fd : FuncData} {C_Frame : Addr} (F : Fun K "_law_pool" "_law_pool" s_l_pool f fd) (T : Txt K mg C_Frame)  : FnOk P ww K mg base CX0 1 f fd ["_law_script", "_law_k"] (pr2 (p_l_pool K)) := by
  refine F.ok sc_l_pool (fun vs H Q E h => len2 h) (fun cdv A outer s H vs Q E hr h => ?_)
  obtain ⟨w, x0, x1,  rfl, rfl, h⟩ := h
  refine ⟨_, (pss_cons (ps_set (i := 2) sc_l_pool.nd rfl (Or.inl rfl) pe_int)
      (pss_cons (ps_if (pt_cmpR g_gt (pe_callB (kLen K) (by rfl) T.n_len (by decide +kernel) (pa_cons (pv 0) pa_nil)) pe_int (nomark _)) (pss_one (ps_set (i := 2) sc_l_pool.nd rfl (Or.inl rfl) (pe_callB g_abs (by rfl) T.n_abs (by decide +kernel) (pa_cons (pe_ix (kIx K) (pv 0) (pe_op g_mod (pv 1) (pe_callB (kLen K) (by rfl) T.n_len (by decide +kernel) (pa_cons (pv 0) pa_nil))) (fun _ _ => rfl)) pa_nil)))) pss_nil)
      (pss_cons (ps_set (i := 3) sc_l_pool.nd rfl (Or.inl rfl) (pe_op g_mod (pe_op (kAdd K) (pe_op (kAdd K) (pe_op (kMul K) (pv 2) pe_int) (pe_op (kMul K) (pv 1) pe_int)) pe_int) pe_int))
      (pss_cons (ps_set (i := 3) sc_l_pool.nd rfl (Or.inl rfl) (pe_op g_mod (pe_op (kMul K) (pv 3) (pv 3)) pe_int))
      (pss_cons (ps_if (PW.pt (pw_or (pt_cmpR g_ge (pv 1) (pe_callB (kLen K) (by rfl) T.n_len (by decide +kernel) (pa_cons (pv 0) pa_nil)) (nomark _)) (pw_or1 (pt_cmpR g_lt (pv 2) (pe_op g_pow pe_int pe_int) (nomark _))))) (pss_one (ps_set (i := 2) sc_l_pool.nd rfl (Or.inl rfl) pe_int)) pss_nil)
      (pss_one (ps_ret (pe_lst (pa_cons (pv 2) (pa_cons (pv 3) (pa_cons (pe_op g_mod (pe_op (kAdd K) (pe_op g_div (pv 3) pe_int) (pe_op (kMul K) pe_int (pv 1))) pe_int) pa_nil))))))))))), ?_⟩
  rw [st_l_pool]
  obtain ⟨k, ⟨a, ns, rfl, hs, hl⟩, rfl, h0, q⟩ := h
  wtm_at "go"
  refine ite_d (fun hb => ?_) (fun hb => ?_)
  · wtm_at "go"
    refine ite_d (fun hc => ?_) (fun hc => ?_)
    · wtm_at "go"
      refine q _ _ (by wtm_at "ch") (by wtm_at "fr") ⟨_, _, _, ?_, by wtm_at "own"⟩
      omega
    · wtm_at "gol"
      refine ite_d (fun hd => ?_) (fun hd => ?_)
      · wtm_at "go"
        refine q _ _ (by wtm_at "ch") (by wtm_at "fr") ⟨_, _, _, ?_, by wtm_at "own"⟩
        omega
      · wtm_at "go"
        refine q _ _ (by wtm_at "ch") (by wtm_at "fr") ⟨_, _, _, ?_, by wtm_at "own"⟩
        omega
  · wtm_at "go"
    refine ite_d (fun hc => ?_) (fun hc => by omega)
    wtm_at "go"
    refine q _ _ (by wtm_at "ch") (by wtm_at "fr") ⟨_, _, _, ?_, by wtm_at "own"⟩
    omega
/-! _law_take -/
abbrev s_l_take : Stmt := top 9
abbrev nm_l_take : List Str := ["_law_pool_here", "_law_m", "_law_found"]
theorem sc_l_take : FnScope nm_l_take ["_law_pool_here", "_law_m"] (defScope s_l_take) := ⟨rfl, rfl, rfl, by decide +kernel, rfl, by decide +kernel, by decide +kernel⟩
theorem st_l_take (a b : V) : start nm_l_take [a, b] = [some a, some b, none] := rfl
def p_l_take (w : Wd) (a b : V) (Q : VK) (_ : XK) : Prop := ∃ p, ∃ m : Int, a = .ref p ∧ b = .int m ∧ Pool w p ∧ 0 < m ∧ m < 2 ^ 200 ∧ ∀ v d, Ext (One p) w v → Pool v p → 0 ≤ d → d < m → Q (.int d) v.H
theorem ok_l_take {f : Addr} {fd : FuncData} {C_Frame : Addr} (F : Fun K "_law_take" "_law_take" s_l_take f fd) (T : Txt K mg C_Frame)  : FnOk P ww K mg base CX0 1 f fd ["_law_pool_here", "_law_m"] (pr2 (p_l_take)) := by
  refine F.ok sc_l_take (fun vs H Q E h => len2 h) (fun cdv A outer s H vs Q E hr h => ?_)
  obtain ⟨w, x0, x1,  rfl, rfl, h⟩ := h
  refine ⟨_, (pss_cons (ps_if (pt_cmpR g_gt (pe_ix (kIx K) (pv 0) pe_int (fun _ _ => rfl)) pe_int (nomark _)) (pss_cons (ps_set (i := 2) sc_l_take.nd rfl (Or.inl rfl) (pe_op g_mod (pe_ix (kIx K) (pv 0) pe_int (fun _ _ => rfl)) (pv 1)))
      (pss_cons (ps_asg (pe_op g_div (pe_ix (kIx K) (pv 0) pe_int (fun _ _ => rfl)) (pv 1)) (pg_sub (pv 0) pe_int set_list))
      (pss_one (ps_ret (pv 2))))) pss_nil)
      (pss_cons (ps_asg (pe_op g_mod (pe_op (kAdd K) (pe_op (kMul K) (pe_ix (kIx K) (pv 0) pe_int (fun _ _ => rfl)) pe_int) pe_int) pe_int) (pg_sub (pv 0) pe_int set_list))
      (pss_cons (ps_asg (pe_op g_mod (pe_op (kAdd K) (pe_op (kAdd K) (pe_op (kMul K) (pe_ix (kIx K) (pv 0) pe_int (fun _ _ => rfl)) pe_int) (pe_op g_div (pe_ix (kIx K) (pv 0) pe_int (fun _ _ => rfl)) pe_int)) pe_int) pe_int) (pg_sub (pv 0) pe_int set_list))
      (pss_one (ps_ret (pe_op g_mod (pe_op (kAdd K) (pe_op g_div (pe_ix (kIx K) (pv 0) pe_int (fun _ _ => rfl)) pe_int) (pe_op g_div (pe_ix (kIx K) (pv 0) pe_int (fun _ _ => rfl)) pe_int)) (pv 1))))))), ?_⟩
  rw [st_l_take]
  obtain ⟨p, m, rfl, rfl, ⟨l, s, t, hl, o⟩, h1, h2, q⟩ := h
  wtm_at "go"
  refine ite_d (fun hb => ?_) (fun hb => ?_)
  · wtm_at "go"
    refine q _ _ (by wtm_at "ch") ⟨_, _, _, ?_, by wtm_at "own"⟩ (Int.emod_nonneg _ (by omega)) (Int.emod_lt_of_pos _ h1)
    exact Int.ediv_nonneg hl (by omega)
  · wtm_at "go"
    exact q _ _ (by wtm_at "ch") ⟨_, _, _, hl, by wtm_at "own"⟩ (Int.emod_nonneg _ (by omega)) (Int.emod_lt_of_pos _ h1)
theorem take_s {w : Wd} {p : Addr} {m : Int} {Q : VK} {E : XK} (pu : Pool w p) (a : 0 < m) (b : m < 2 ^ 200) (k : ∀ v d, Ext (One p) w v → Pool v p → 0 ≤ d → d < m → Q (.int d) v.H) : p_l_take w (.ref p) (.int m) Q E := ⟨p, m, rfl, rfl, pu, a, b, k⟩
theorem pool_new {w : Wd} {p l : Addr} (n : w.H l = none) (h : Pool w p) : l ≠ p := by
  obtain ⟨_, _, _, _, o⟩ := h
  exact o.ne' n
theorem pool_new' {w : Wd} {p l : Addr} (n : w.H l = none) (h : Pool w p) : p ≠ l := (pool_new n h).symm
local macro_rules | `(tactic| wtm_at "pool") => `(tactic| first
  | assumption
  | (refine' Pool.go (by assumption) ?nm ?pu; (case nm => wtm_at "nm"); (case pu => wtm_at "pool"))
  | fail "pool")
local macro_rules | `(tactic| wtm_at "ne") => `(tactic| first
  | (refine' pool_new ?n ?pu; (case n => assumption); (case pu => wtm_at "pool"))
  | (refine' pool_new' ?n ?pu; (case n => assumption); (case pu => wtm_at "pool"))
  | fail "ne")
local macro_rules | `(tactic| wtm_at "go1") => `(tactic|
  (with_reducible refine' take_s ?pu ?a ?b ?k; (case pu => wtm_at "pool"); (case a => first | decide | omega); (case b => first | decide | omega); (intro _v _d _e _pu _h0 _h1)))

/-- a list of pairs at a, to be read -/
def Ls (w : Wd) (a : V) (rows : List (Int × Int)) : Prop := ∃ p vs, a = .ref p ∧ Rd w p (.lst vs) ∧ RpA w.S vs (rows.map prD)
/-- the answer: a new list of pairs, the caller's own -/
def Tells (w : Wd) (Q : VK) (P : List (Int × Int) → Prop) : Prop := ∀ v r vs out, Ext Non w v → w.H r = none → Own v r (.lst vs) → RpA v.S vs (out.map prD) → P out → Q (.ref r) v.H
theorem ls_of {w : Wd} {a : V} {rows : List (Int × Int)} (h : Rp w.S a (spD rows)) : Ls w a rows := by
  obtain ⟨p, vs, rfl, h1, h2⟩ := h.list_inv
  exact ⟨p, vs, rfl, .inl h1, h2⟩
theorem tells_lay {w : Wd} {Q : VK} {P : List (Int × Int) → Prop} (k : ∀ v r out, Ext Non w v → Rp v.S r (spD out) → P out → Q r v.H) : Tells w Q P := fun v r vs out e n o h p =>
  lay (R := Q (.ref r)) o fun v' e' s' => k v' (.ref r) out (e.step e' fun l hl => .inl (by rw [show l = r from hl]; exact n)) (.lst s' (h.go e')) p
theorem int_at {ns : List Int} {i : Nat} {x : V} (h : (ns.map V.int)[i]? = some x) : ∃ n, x = .int n := by
  rw [List.getElem?_map] at h
  cases e : ns[i]? with
  | none => rw [e] at h; cases h
  | some n => rw [e] at h; exact ⟨n, (Option.some.inj h).symm⟩

/-- all numbers, truths, None, texts, in lists and tuples of depth below n, nothing too deep to be compared -/
def Sm : Nat → PyData → Prop
  | 0, _ => False
  | n + 1, .list ds => (∀ d ∈ ds, Sm n d) ∧ ds.length < 2 ^ 12
  | n + 1, .tuple ds => (∀ d ∈ ds, Sm n d) ∧ ds.length < 2 ^ 12
  | _ + 1, .int _ => True
  | _ + 1, .none => True
  | _ + 1, _ => False
def p_l_same : Nat → Wd → V → V → VK → XK → Prop
  | 0, _, _, _, _, _ => False
  | n + 1, w, a, b, Q, _ => ∃ w' : Wd, w'.H = w.H ∧ ∃ d, Sm (n + 1) d ∧ Rp w'.S a d ∧ Rp w'.S b d ∧ ∀ v, Ext Non w' v → Q (.bl true) v.H
theorem same_s {n : Nat} {w : Wd} {a b : V} {Q : VK} {E : XK} {d : PyData} (h : Sm n d) (ha : Rp w.S a d) (hb : Rp w.S b d) (k : ∀ v, Ext Non w v → Q (.bl true) v.H) : p_l_same n w a b Q E := by
  cases n with
  | zero => exact h
  | succ n => exact ⟨w, rfl, d, h, ha, hb, k⟩
/-- the first one the caller's own -/
theorem same_o {n : Nat} {w : Wd} {a : Addr} {b : V} {vs : List V} {Q : VK} {E : XK} {ds : List PyData} (h : Sm n (.list ds)) (o : Own w a (.lst vs)) (ha : RpA w.S vs ds) (hb : Rp w.S b (.list ds)) (k : ∀ v, Ext Non w v → Q (.bl true) v.H) : p_l_same n w (.ref a) b Q E := by
  cases n with
  | zero => exact h
  | succ n =>
    obtain ⟨w', e1, e2, e3, e4⟩ := lend o
    refine ⟨w', e1, .list ds, h, .lst e2 (RpA.mono e3 _ _ ha), Rp.mono e3 _ _ hb, fun v ev => ?_⟩
    obtain ⟨u, eu, ex⟩ := e4 v ev
    rw [← eu]
    exact k u ex
theorem shaped_n : SeqAt.shaped .none = true := by decide
/-! _law_same -/
abbrev s_l_same : Stmt := top 10
abbrev nm_l_same : List Str := ["_law_found", "_law_due", "_law_one", "_law_other"]
theorem sc_l_same : FnScope nm_l_same ["_law_found", "_law_due"] (defScope s_l_same) := ⟨rfl, rfl, rfl, by decide +kernel, rfl, by decide +kernel, by decide +kernel⟩
theorem st_l_same (a b : V) : start nm_l_same [a, b] = [some a, some b, none, none] := rfl

theorem ok_l_same {f : Addr} {fd : FuncData} {C_Frame : Addr} (F : Fun K "_law_same" "_law_same" s_l_same f fd) (T : Txt K mg C_Frame) {nn : Nat} (c_l_same : Fnc P ww K mg base CX0 nn "_law_same" (pr2 (p_l_same nn))) : FnOk P ww K mg base CX0 (nn + 1) f fd ["_law_found", "_law_due"] (pr2 (p_l_same (nn + 1))) := by
  refine F.ok sc_l_same (fun vs H Q E h => len2 h) (fun cdv A outer s H vs Q E hr h => ?_)
  obtain ⟨w, x0, x1,  rfl, rfl, h⟩ := h
  refine ⟨_, (pss_cons (ps_if (pt_val (pe_callB (kIsiT K) (by rfl) T.n_isinstance (by decide +kernel) (pa_cons (pv 1) (pa_cons (pe_tup (pa_cons (pe_bltn (v := .ty "list") (u := .type "list") rfl T.n_list (by decide +kernel) rfl) (pa_cons (pe_bltn (v := .ty "tuple") (u := .type "tuple") rfl T.n_tuple (by decide +kernel) rfl) pa_nil))) pa_nil)))) (pss_cons (ps_if (PW.pt (pw_or (pt_cmpR (kNe K hr.units) (pe_callB (kIsi K) (by rfl) T.n_isinstance (by decide +kernel) (pa_cons (pv 1) (pa_cons (pe_bltn (v := .ty "list") (u := .type "list") rfl T.n_list (by decide +kernel) rfl) pa_nil))) (pe_callB (kIsi K) (by rfl) T.n_isinstance (by decide +kernel) (pa_cons (pv 0) (pa_cons (pe_bltn (v := .ty "list") (u := .type "list") rfl T.n_list (by decide +kernel) rfl) pa_nil))) (nomark _)) (pw_or1 (pt_cmpR (kNe K hr.units) (pe_callB (kIsi K) (by rfl) T.n_isinstance (by decide +kernel) (pa_cons (pv 1) (pa_cons (pe_bltn (v := .ty "tuple") (u := .type "tuple") rfl T.n_tuple (by decide +kernel) rfl) pa_nil))) (pe_callB (kIsi K) (by rfl) T.n_isinstance (by decide +kernel) (pa_cons (pv 0) (pa_cons (pe_bltn (v := .ty "tuple") (u := .type "tuple") rfl T.n_tuple (by decide +kernel) rfl) pa_nil))) (nomark _))))) (pss_one (ps_ret pe_bl)) pss_nil)
      (pss_one (ps_ret (pe_and (pe_cmpR (kEq K hr.units) (pe_callB (kLen K) (by rfl) T.n_len (by decide +kernel) (pa_cons (pv 0) pa_nil)) (pe_callB (kLen K) (by rfl) T.n_len (by decide +kernel) (pa_cons (pv 1) pa_nil)) (nomark _)) (pe_one (pe_callB (kAll K rfl) (by rfl) T.n_all (by decide +kernel) (pa_cons (pe_lc (own := [("_law_one", 2), ("_law_other", 3)]) (g := (gTup K 2 (gCons (gName 2) (gCons (gName 3) gNil)))) (tt := tYes) (by rfl) sc_l_same.nd (kpZip K (by rfl) T.n_zip (pa_cons (pv 0) (pa_cons (pv 1) pa_nil))) (blkOk_by (own := [("_law_one", 2), ("_law_other", 3)]) (N := nm_l_same) (sc := defScope s_l_same) (by decide +kernel)) (fun _ _ _ _ _ => (kgTup K (by rfl) (pgs_cons (pg_name (i := 2) sc_l_same.nd rfl (Or.inl rfl)) (pgs_cons (pg_name (i := 3) sc_l_same.nd rfl (Or.inl rfl)) pgs_nil)))) (fun _ _ _ _ _ => pts_nil) (fun _ _ _ _ _ => (pe_fn c_l_same hr (Nat.le_refl _) pass0 (pa_cons (pv 2) (pa_cons (pv 3) pa_nil))))) pa_nil))))))) pss_nil)
      (pss_cons (ps_if (PW.pt (pw_or (pt_cmpR (kNe K hr.units) (pe_callB (kIsi K) (by rfl) T.n_isinstance (by decide +kernel) (pa_cons (pv 0) (pa_cons (pe_bltn (v := .ty "bool") (u := .type "bool") rfl T.n_bool (by decide +kernel) rfl) pa_nil))) (pe_callB (kIsi K) (by rfl) T.n_isinstance (by decide +kernel) (pa_cons (pv 1) (pa_cons (pe_bltn (v := .ty "bool") (u := .type "bool") rfl T.n_bool (by decide +kernel) rfl) pa_nil))) (nomark _)) (pw_or1 (pt_cmpR (kNe K hr.units) (pe_callB (kIsi K) (by rfl) T.n_isinstance (by decide +kernel) (pa_cons (pv 0) (pa_cons (pe_bltn (v := .ty "int") (u := .type "int") rfl T.n_int (by decide +kernel) rfl) pa_nil))) (pe_callB (kIsi K) (by rfl) T.n_isinstance (by decide +kernel) (pa_cons (pv 1) (pa_cons (pe_bltn (v := .ty "int") (u := .type "int") rfl T.n_int (by decide +kernel) rfl) pa_nil))) (nomark _))))) (pss_one (ps_ret pe_bl)) pss_nil)
      (pss_one (ps_ret (pe_and (pe_cmpR (kEq K hr.units) (pe_callB (kIsi K) (by rfl) T.n_isinstance (by decide +kernel) (pa_cons (pv 0) (pa_cons (pe_bltn (v := .ty "str") (u := .type "str") rfl T.n_str (by decide +kernel) rfl) pa_nil))) (pe_callB (kIsi K) (by rfl) T.n_isinstance (by decide +kernel) (pa_cons (pv 1) (pa_cons (pe_bltn (v := .ty "str") (u := .type "str") rfl T.n_str (by decide +kernel) rfl) pa_nil))) (nomark _)) (pe_one (pe_cmpR (kEq K hr.units) (pv 0) (pv 1) (nomark _)))))))), ?_⟩
  rw [st_l_same]
  obtain ⟨w', hw, d, hd, ha, hb, k⟩ := h
  rw [← hw]
  cases d with
  | list ds =>
    obtain ⟨hd, hl⟩ := hd
    obtain ⟨a, vs, rfl, sa, ra⟩ := ha.list_inv
    obtain ⟨b, us, rfl, sb, rb⟩ := hb.list_inv
    have la := ra.length
    have lb := rb.length
    wtm_at "gs"
    refine ite_t rfl ?_
    wtm_at "gs"
    refine ite_d (fun _ => ?_) (fun z => absurd (by omega) z)
    wtm_at "gs"
    refine ⟨a, b, vs, us, rfl, .inl ⟨sql_of (by wtm_at "stb"), sql_of (by wtm_at "stb"), ?_⟩⟩
    intro D hD
    refine lc_zip (ww_zipL (xs := vs) (ys := us) (by omega)) hD (by rw [sizeLine_eq]; omega) (fun u e => ⟨sql_of (st_go e (by wtm_at "stb")), sql_of (st_go e (by wtm_at "stb"))⟩) ?_ ?_
    · intro i x1 y1 T u v hi h1 h2 eu ev sv R Z hR
      obtain ⟨d1, q1, q2⟩ := ra.get h1
      obtain ⟨d2, q3, q4⟩ := rb.get h2
      obtain rfl : d1 = d2 := Option.some.inj (q1.symm.trans q3)
      wtm_at "gs"
      refine ⟨rfl, s_yes (ite_tt ?_)⟩
      wtm_at "gs"
      exact same_s (hd d1 (List.mem_of_getElem? q1)) (by wtm_at "rp") (by wtm_at "rp") hR
    · intro u eu hD' o
      wtm_at "gs"
      rw [show (List.replicate vs.length true).all id = true by simp]
      exact k _ (by wtm_at "ch")
  | tuple ds =>
    obtain ⟨hd, hl⟩ := hd
    obtain ⟨a, vs, rfl, sa, ra⟩ := ha.tuple_inv
    obtain ⟨b, us, rfl, sb, rb⟩ := hb.tuple_inv
    have la := ra.length
    have lb := rb.length
    wtm_at "gs"
    refine ite_t rfl ?_
    wtm_at "gs"
    refine ite_d (fun _ => ?_) (fun z => absurd (by omega) z)
    wtm_at "gs"
    refine ⟨a, b, vs, us, rfl, .inr ⟨sqt_of (by wtm_at "stb"), sqt_of (by wtm_at "stb"), ?_⟩⟩
    intro D hD
    refine lc_zip (ww_zipT (xs := vs) (ys := us) (by omega)) hD (by rw [sizeLine_eq]; omega) (fun u e => ⟨sqt_of (st_go e (by wtm_at "stb")), sqt_of (st_go e (by wtm_at "stb"))⟩) ?_ ?_
    · intro i x1 y1 T u v hi h1 h2 eu ev sv R Z hR
      obtain ⟨d1, q1, q2⟩ := ra.get h1
      obtain ⟨d2, q3, q4⟩ := rb.get h2
      obtain rfl : d1 = d2 := Option.some.inj (q1.symm.trans q3)
      wtm_at "gs"
      refine ⟨rfl, s_yes (ite_tt ?_)⟩
      wtm_at "gs"
      exact same_s (hd d1 (List.mem_of_getElem? q1)) (by wtm_at "rp") (by wtm_at "rp") hR
    · intro u eu hD' o
      wtm_at "gs"
      rw [show (List.replicate vs.length true).all id = true by simp]
      exact k _ (by wtm_at "ch")
  | int n =>
    obtain rfl := ha.int_inv
    obtain rfl := hb.int_inv
    wtm_at "gs"
    refine ite_f rfl ?_
    wtm_at "gs"
    refine ite_d (fun _ => ?_) (fun z => absurd rfl z)
    wtm_at "gs"
    rw [decide_eq_true rfl]
    exact k _ (by wtm_at "ch")
  | none =>
    obtain rfl := ha.none_inv
    obtain rfl := hb.none_inv
    wtm_at "gs"
    refine ite_f rfl ?_
    wtm_at "gs"
    refine ite_d (fun _ => ?_) (fun z => absurd rfl z)
    wtm_at "gs"
    refine s_eqRs shaped_n .non .non ?_
    exact k _ (by wtm_at "ch")
  | bool b => exact hd.elim
  | str z => exact hd.elim
  | dict kv => exact hd.elim
/-- a bond as data -/
abbrev trD (t : Int × Int × Int) : PyData := .tuple [.int t.1, .int t.2.1, .int t.2.2]
abbrev ssD (S : List (List (Int × Int))) : PyData := .list (S.map spD)
abbrev bsD (B : List (Int × Int × Int)) : PyData := .list (B.map trD)
/-- a frame stands at x for good -/
def Fr (C : Addr) (S : Hp) (x : V) (A : List (List (Int × Int))) (B : List (Int × Int × Int)) : Prop := ∃ a dx, ∃ y z : V, x = .ref a ∧ S a = some (.ins C dx [("sets", y), ("ties", z)]) ∧ Rp S y (ssD A) ∧ Rp S z (bsD B)
theorem Fr.go {C : Addr} {w v : Wd} {x : V} {A : List (List (Int × Int))} {B : List (Int × Int × Int)} {m : Addr → Prop} (e : Ext m w v) (h : Fr C w.S x A B) : Fr C v.S x A B := by
  obtain ⟨a, dx, y, z, rfl, h1, h2, h3⟩ := h
  exact ⟨a, dx, y, z, rfl, st_go e h1, h2.go e, h3.go e⟩
local macro_rules | `(tactic| wtm_at "frm") => `(tactic| first
  | assumption
  | (refine' Fr.go (by assumption) ?s; (case s => wtm_at "frm"))
  | fail "frm")
/-! Frame.__init__ -/
abbrev s_Frame_init : Stmt := inClass (top 6) 0
abbrev nm_Frame_init : List Str := ["self", "spans", "bonds", "one"]
theorem sc_Frame_init : FnScope nm_Frame_init ["self", "spans", "bonds"] (defScope s_Frame_init) := ⟨rfl, rfl, rfl, by decide +kernel, rfl, by decide +kernel, by decide +kernel⟩
theorem st_Frame_init (a b c : V) : start nm_Frame_init [a, b, c] = [some a, some b, some c, none] := rfl
def p_Frame_init (C : Addr) (w : Wd) (a b c : V) (Q : VK) (_ : XK) : Prop := ∃ x dx A B pb vb, a = .ref x ∧ Own w x (.ins C dx []) ∧ b = .ref pb ∧ Rd w pb (.lst vb) ∧ RpA w.S vb (A.map spD) ∧ Rp w.S c (bsD B) ∧ A.length < 2 ^ 10 ∧ ∀ v, Ext (One x) w v → Fr C v.S (.ref x) A B → Q .non v.H
theorem ok_Frame_init {f : Addr} {fd : FuncData} {C_Frame : Addr} (F : Fun K "__init__" "Frame.__init__" s_Frame_init f fd) (T : Txt K mg C_Frame)  : FnOk P ww K mg base CX0 1 f fd ["self", "spans", "bonds"] (pr3 (p_Frame_init C_Frame)) := by
  refine F.ok sc_Frame_init (fun vs H Q E h => len3 h) (fun cdv A outer s H vs Q E hr h => ?_)
  obtain ⟨w, x0, x1, x2,  rfl, rfl, h⟩ := h
  have cl_Frame := T.cl_Frame
  have na_Frame_sets := T.na_Frame_sets
  have na_Frame_ties := T.na_Frame_ties
  refine ⟨_, (pss_cons (ps_fld (pv 0) (pe_lc (own := [("one", 3)]) (g := (gName 3)) (tt := tYes) (by rfl) sc_Frame_init.nd (kpList K (pv 1)) (blkOk_by (own := [("one", 3)]) (N := nm_Frame_init) (sc := defScope s_Frame_init) (by decide +kernel)) (fun _ _ _ _ _ => (pg_name (i := 3) sc_Frame_init.nd rfl (Or.inl rfl))) (fun _ _ _ _ _ => pts_nil) (fun _ _ _ _ _ => (pe_callTy (kList K) (by rfl) T.n_list (by decide +kernel) (pa_cons (pv 3) pa_nil)))) rfl)
      (pss_one (ps_fld (pv 0) (pe_callTy (kList K) (by rfl) T.n_list (by decide +kernel) (pa_cons (pv 2) pa_nil)) rfl))), ?_⟩
  rw [st_Frame_init]
  obtain ⟨x, dx, A, B, pa, va, rfl, o, rfl, rda, ra, hB, lA, k⟩ := h
  obtain ⟨pb, vb, rfl, sb, rb⟩ := hB.list_inv
  have la := ra.length
  rw [List.length_map] at la
  wtm_at "gs"
  intro D hD
  refine lc_gen (rows := A) (ww_list (xs := va)) (fun _ => true) spD hD (by omega) (by rw [sizeLine_eq]; omega) (fun u e => SqL.of (Rd.h (rda.go e (rda.ne hD)))) ?_ ?_
  · intro i x1 q u hi hx hq e R Z hR hZ
    obtain ⟨d, h3, h4⟩ := ra.get hx
    have h3' : d = spD q := by rw [List.getElem?_map, hq] at h3; exact (Option.some.inj h3).symm
    subst h3'
    obtain ⟨t, vt, rfl, ht, hvt⟩ := (h4.go e).list_inv
    wtm_at "gs"
    refine ⟨rfl, s_yes (ite_tt ?_)⟩
    wtm_at "gs"
    exact hR _ _ (by wtm_at "ch") rfl (.lst (by wtm_at "stb") (by wtm_at "rpa"))
  · intro u acc eu hD' oD ha2
    rw [filter_all] at ha2
    have hx : D ≠ x := o.ne' hD
    wtm_at "gs"
    refine lay (R := Q .non) (show Own _ D _ by wtm_at "own") fun v0 ev0 sv0 => ?_
    refine lay (R := Q .non) (show Own _ x _ by wtm_at "own") fun v ev sv => ?_
    exact k v (by wtm_at "ch") ⟨x, dx, _, _, rfl, sv, by wtm_at "rp", by wtm_at "rp"⟩
/-! Frame.spans -/
abbrev s_Frame_spans : Stmt := inClass (top 6) 1
abbrev nm_Frame_spans : List Str := ["self", "one"]
theorem sc_Frame_spans : FnScope nm_Frame_spans ["self"] (defScope s_Frame_spans) := ⟨rfl, rfl, rfl, by decide +kernel, rfl, by decide +kernel, by decide +kernel⟩
theorem st_Frame_spans (a : V) : start nm_Frame_spans [a] = [some a, none] := rfl
def p_Frame_spans (C : Addr) (w : Wd) (a : V) (Q : VK) (_ : XK) : Prop := ∃ A B, Fr C w.S a A B ∧ A.length < 2 ^ 10 ∧ ∀ v r, Ext Non w v → Rp v.S r (ssD A) → Q r v.H
theorem ok_Frame_spans {f : Addr} {fd : FuncData} {C_Frame : Addr} (F : Fun K "spans" "Frame.spans" s_Frame_spans f fd) (T : Txt K mg C_Frame)  : FnOk P ww K mg base CX0 1 f fd ["self"] (pr1 (p_Frame_spans C_Frame)) := by
  refine F.ok sc_Frame_spans (fun vs H Q E h => len1 h) (fun cdv A outer s H vs Q E hr h => ?_)
  obtain ⟨w, x0,  rfl, rfl, h⟩ := h
  have cl_Frame := T.cl_Frame
  have na_Frame_sets := T.na_Frame_sets
  have na_Frame_ties := T.na_Frame_ties
  refine ⟨_, (pss_one (ps_ret (pe_lc (own := [("one", 1)]) (g := (gName 1)) (tt := tYes) (by rfl) sc_Frame_spans.nd (kpList K (pe_fld (pv 0) rfl)) (blkOk_by (own := [("one", 1)]) (N := nm_Frame_spans) (sc := defScope s_Frame_spans) (by decide +kernel)) (fun _ _ _ _ _ => (pg_name (i := 1) sc_Frame_spans.nd rfl (Or.inl rfl))) (fun _ _ _ _ _ => pts_nil) (fun _ _ _ _ _ => (pe_callTy (kList K) (by rfl) T.n_list (by decide +kernel) (pa_cons (pv 1) pa_nil)))))), ?_⟩
  rw [st_Frame_spans]
  obtain ⟨A, B, ⟨x, dx, y, z, rfl, sx, hA, hB⟩, lA, k⟩ := h
  obtain ⟨pa, va, rfl, sa, ra⟩ := hA.list_inv
  have la := ra.length
  rw [List.length_map] at la
  wtm_at "gs"
  intro D hD
  refine lc_gen (rows := A) (ww_list (xs := va)) (fun _ => true) spD hD (by omega) (by rw [sizeLine_eq]; omega) (fun u e => sql_of (st_go e sa)) ?_ ?_
  · intro i x1 q u hi hx hq e R Z hR hZ
    obtain ⟨d, h3, h4⟩ := ra.get hx
    have h3' : d = spD q := by rw [List.getElem?_map, hq] at h3; exact (Option.some.inj h3).symm
    subst h3'
    obtain ⟨t, vt, rfl, ht, hvt⟩ := (h4.go e).list_inv
    wtm_at "gs"
    refine ⟨rfl, s_yes (ite_tt ?_)⟩
    wtm_at "gs"
    exact hR _ _ (by wtm_at "ch") rfl (.lst (by wtm_at "stb") (by wtm_at "rpa"))
  · intro u acc eu hD' oD ha2
    rw [filter_all] at ha2
    wtm_at "gs"
    refine lay (R := Q (.ref D)) oD fun v ev sv => ?_
    exact k v _ (by wtm_at "ch") (.lst sv (by wtm_at "rpa"))
/-! Frame.bonds -/
abbrev s_Frame_bonds : Stmt := inClass (top 6) 2
abbrev nm_Frame_bonds : List Str := ["self"]
theorem sc_Frame_bonds : FnScope nm_Frame_bonds ["self"] (defScope s_Frame_bonds) := ⟨rfl, rfl, rfl, by decide +kernel, rfl, by decide +kernel, by decide +kernel⟩
theorem st_Frame_bonds (a : V) : start nm_Frame_bonds [a] = [some a] := rfl
def p_Frame_bonds (C : Addr) (w : Wd) (a : V) (Q : VK) (_ : XK) : Prop := ∃ A B, Fr C w.S a A B ∧ ∀ v r, Ext Non w v → Rp v.S r (bsD B) → Q r v.H
theorem ok_Frame_bonds {f : Addr} {fd : FuncData} {C_Frame : Addr} (F : Fun K "bonds" "Frame.bonds" s_Frame_bonds f fd) (T : Txt K mg C_Frame)  : FnOk P ww K mg base CX0 1 f fd ["self"] (pr1 (p_Frame_bonds C_Frame)) := by
  refine F.ok sc_Frame_bonds (fun vs H Q E h => len1 h) (fun cdv A outer s H vs Q E hr h => ?_)
  obtain ⟨w, x0,  rfl, rfl, h⟩ := h
  have cl_Frame := T.cl_Frame
  have na_Frame_sets := T.na_Frame_sets
  have na_Frame_ties := T.na_Frame_ties
  refine ⟨_, (pss_one (ps_ret (pe_callTy (kList K) (by rfl) T.n_list (by decide +kernel) (pa_cons (pe_fld (pv 0) rfl) pa_nil)))), ?_⟩
  rw [st_Frame_bonds]
  obtain ⟨A, B, ⟨x, dx, y, z, rfl, sx, hA, hB⟩, k⟩ := h
  obtain ⟨pb, vb, rfl, sb, rb⟩ := hB.list_inv
  wtm_at "gs"
  exact k _ _ (by wtm_at "ch") (.lst (by wtm_at "stb") (by wtm_at "rpa"))
/-! first_from -/
abbrev s_first_from : Stmt := top 1
abbrev nm_first_from : List Str := ["spans", "number", "low", "high"]
theorem sc_first_from : FnScope nm_first_from ["spans", "number"] (defScope s_first_from) := ⟨rfl, rfl, rfl, by decide +kernel, rfl, by decide +kernel, by decide +kernel⟩
theorem st_first_from (a b : V) : start nm_first_from [a, b] = [some a, some b, none, none] := rfl
def p_first_from (w : Wd) (a b : V) (Q : VK) (_ : XK) : Prop := ∃ rows, ∃ n : Int, Ls w a rows ∧ b = .int n ∧ rows.length < 2 ^ 15 ∧ ∀ v, Ext Non w v → Q (optV (firstFrom rows n)) v.H
theorem ok_first_from {f : Addr} {fd : FuncData} {C_Frame : Addr} (F : Fun K "first_from" "first_from" s_first_from f fd) (T : Txt K mg C_Frame)  : FnOk P ww K mg base CX0 1 f fd ["spans", "number"] (pr2 (p_first_from)) := by
  refine F.ok sc_first_from (fun vs H Q E h => len2 h) (fun cdv A outer s H vs Q E hr h => ?_)
  obtain ⟨w, x0, x1,  rfl, rfl, h⟩ := h
  refine ⟨_, (pss_cons (ps_for PassesOwn.never rfl (kpList K (pv 0)) (kgTup K (by rfl) (pgs_cons (pg_name (i := 2) sc_first_from.nd rfl (Or.inl rfl)) (pgs_cons (pg_name (i := 3) sc_first_from.nd rfl (Or.inl rfl)) pgs_nil))) (pss_one (ps_if (pt_cmpR g_le (pv 1) (pv 3) (nomark _)) (pss_one (ps_ret (pe_callB (kMax K rfl) (by rfl) T.n_max (by decide +kernel) (pa_cons (pv 2) (pa_cons (pv 1) pa_nil))))) pss_nil)))
      (pss_one (ps_ret pe_non))), ?_⟩
  rw [st_first_from]
  obtain ⟨rows, n, ⟨p, vs, rfl, r, ha⟩, rfl, hl, k⟩ := h
  have hvl := ha.length
  rw [List.length_map] at hvl
  wtm_at "go"
  refine forW (ww_list (xs := vs)) (fun i σ u => Ext Non w u ∧ ∃ (y z : Option V), σ = [some (.ref p), some (.int n), y, z] ∧ firstFrom rows n = firstFrom (rows.drop i) n) ⟨Ext.refl _ _, _, _, rfl, rfl⟩ (fun i σ u _ p => by have := p.1; exact SqL.of (Rd.h (show Rd u _ (.lst vs) by wtm_at "rd"))) ?_ ?_
  · rintro i x σ _ u hi ⟨eu, y, z, rfl, hf⟩ ⟨rfl, hx⟩
    obtain ⟨d, h3, h4⟩ := ha.get hx
    have hi' : i < rows.length := by omega
    have h3' : d = prD rows[i] := by rw [List.getElem?_map, List.getElem?_eq_getElem hi'] at h3; exact (Option.some.inj h3).symm
    subst h3'
    have hq : rows[i]? = some rows[i] := List.getElem?_eq_getElem hi'
    generalize rows[i] = q at h4 hq
    obtain ⟨t, rfl, ht⟩ := pr_inv (show Rp u.S x (prD q) by wtm_at "rp")
    rw [first_drop hq] at hf
    wtm_at "gs"
    refine ite_d (fun c => ?_) (fun c => ?_)
    · rw [if_pos c] at hf
      wtm_at "gs"
      have := k u eu
      rw [hf] at this
      exact this
    · rw [if_neg c] at hf
      wtm_at "gs"
      exact ⟨eu, _, _, rfl, hf⟩
  · rintro σ u ⟨eu, y, z, rfl, hf⟩
    wtm_at "gs"
    have := k u eu
    rw [hf, hvl, List.drop_length] at this
    exact this
/-! stepped -/
abbrev s_stepped : Stmt := top 3
abbrev nm_stepped : List Str := ["sets", "lows", "bond", "later", "earlier", "minutes"]
theorem sc_stepped : FnScope nm_stepped ["sets", "lows", "bond"] (defScope s_stepped) := ⟨rfl, rfl, rfl, by decide +kernel, rfl, by decide +kernel, by decide +kernel⟩
theorem st_stepped (a b c : V) : start nm_stepped [a, b, c] = [some a, some b, some c, none, none, none] := rfl
def p_stepped (w : Wd) (a b c : V) (Q : VK) (_ : XK) : Prop := ∃ S p, ∃ L : List (Option Int), ∃ t, Rp w.S a (ssD S) ∧ b = .ref p ∧ Rd w p (.lst (L.map optV)) ∧ Rp w.S c (trD (bdT t)) ∧ t.j < L.length ∧ t.e < L.length ∧ L.length = S.length ∧ (∀ A ∈ S, A.length < 2 ^ 10) ∧
  ∀ v, Ext Non w v → Q (optV (stepV S L t.j t.e t.m)) v.H
theorem ok_stepped {f : Addr} {fd : FuncData} {C_Frame : Addr} (F : Fun K "stepped" "stepped" s_stepped f fd) (T : Txt K mg C_Frame) (c_first_from : Fnc P ww K mg base CX0 1 "first_from" (pr2 (p_first_from))) : FnOk P ww K mg base CX0 2 f fd ["sets", "lows", "bond"] (pr3 (p_stepped)) := by
  refine F.ok sc_stepped (fun vs H Q E h => len3 h) (fun cdv A outer s H vs Q E hr h => ?_)
  obtain ⟨w, x0, x1, x2,  rfl, rfl, h⟩ := h
  refine ⟨_, (pss_cons (ps_asg (pv 2) (kgTup K (by rfl) (pgs_cons (pg_name (i := 3) sc_stepped.nd rfl (Or.inl rfl)) (pgs_cons (pg_name (i := 4) sc_stepped.nd rfl (Or.inl rfl)) (pgs_cons (pg_name (i := 5) sc_stepped.nd rfl (Or.inl rfl)) pgs_nil)))))
      (pss_cons (ps_if (PW.pt (pw_or (pt_cmpR g_is (pe_ix (kIx K) (pv 1) (pv 3) (fun _ _ => rfl)) pe_non (nomark _)) (pw_or1 (pt_cmpR g_is (pe_ix (kIx K) (pv 1) (pv 4) (fun _ _ => rfl)) pe_non (nomark _))))) (pss_one (ps_ret (pe_ix (kIx K) (pv 1) (pv 3) (fun _ _ => rfl)))) pss_nil)
      (pss_cons (ps_if (pt_cmpR g_le (pe_op (kAdd K) (pe_ix (kIx K) (pv 1) (pv 4) (fun _ _ => rfl)) (pv 5)) (pe_ix (kIx K) (pv 1) (pv 3) (fun _ _ => rfl)) (nomark _)) (pss_one (ps_ret (pe_ix (kIx K) (pv 1) (pv 3) (fun _ _ => rfl)))) pss_nil)
      (pss_one (ps_ret (pe_fn c_first_from hr (by decide) pass0 (pa_cons (pe_ix (kIx K) (pv 0) (pv 3) (fun _ _ => rfl)) (pa_cons (pe_op (kAdd K) (pe_ix (kIx K) (pv 1) (pv 4) (fun _ _ => rfl)) (pv 5)) pa_nil)))))))), ?_⟩
  rw [st_stepped]
  obtain ⟨S, p, L, t, hS, rfl, hp, ht, hj, he, hl, hsm, k⟩ := h
  obtain ⟨pt, vt, rfl, st, rt⟩ := ht.tuple_inv
  obtain ⟨ps, vs, rfl, ss, rs⟩ := hS.list_inv
  obtain ⟨j, e, m⟩ := t
  dsimp only [bdT] at hj he rt k
  cases rt with
  | cons r1 rt => cases rt with
    | cons r2 rt => cases rt with
      | cons r3 rt =>
        cases rt
        cases r1
        cases r2
        cases r3
        have hjL : L[j]? = some L[j] := List.getElem?_eq_getElem hj
        have heL : L[e]? = some L[e] := List.getElem?_eq_getElem he
        generalize L[j] = oj at hjL
        generalize L[e] = oe at heL
        have hjV : (L.map optV)[j]? = some (optV oj) := by rw [List.getElem?_map, hjL]; rfl
        have heV : (L.map optV)[e]? = some (optV oe) := by rw [List.getElem?_map, heL]; rfl
        have hsj : S[j]? = some S[j] := List.getElem?_eq_getElem (by omega)
        have hsl : S[j].length < 2 ^ 10 := hsm _ (List.getElem_mem _)
        have hgd : S.getD j [] = S[j] := by rw [List.getD_eq_getElem?_getD, hsj]; rfl
        unfold stepV at k
        rw [atL_get hjL, atL_get heL, hgd] at k
        generalize S[j] = A at hsj hsl k
        obtain ⟨y, hy, hyr⟩ := rs.get' (i := j) (d := spD A) (by rw [List.getElem?_map, hsj]; rfl)
        cases oj with
        | none =>
          have k : ∀ v, Ext Non w v → Q .non v.H := by cases oe <;> exact k
          wtm_at "gs"
          refine ite_d (fun _ => ?_) (fun z => absurd rfl z)
          wtm_at "gs"
          exact k _ (by wtm_at "ch")
        | some l =>
          cases oe with
          | none =>
            wtm_at "gs"
            refine ite_d (fun z => by cases z) (fun _ => ?_)
            wtm_at "gs"
            refine ite_d (fun _ => ?_) (fun z => absurd rfl z)
            wtm_at "gs"
            exact k _ (by wtm_at "ch")
          | some x =>
            dsimp only [optV] at hjV heV
            dsimp only [mixV] at k
            wtm_at "gs"
            refine ite_d (fun c => ?_) (fun c => ?_)
            · rw [if_pos c] at k
              wtm_at "gs"
              exact k _ (by wtm_at "ch")
            · rw [if_neg c] at k
              wtm_at "gs"
              refine s_ixA (.inl (by wtm_at "stb")) hy ?_
              wtm_at "gs"
              exact ⟨A, _, ls_of (by wtm_at "rp"), rfl, by omega, fun v ev => k v (by wtm_at "ch")⟩
theorem tr_inv {S : Hp} {v : V} {t : Int × Int × Int} (h : Rp S v (trD t)) : ∃ a, v = .ref a ∧ S a = some (.tup [.int t.1, .int t.2.1, .int t.2.2]) := by
  obtain ⟨a, vs, rfl, h1, h2⟩ := h.tuple_inv
  cases h2 with
  | cons a1 a2 => cases a2 with
    | cons b1 b2 => cases b2 with
      | cons c1 c2 =>
        cases c2
        cases a1
        cases b1
        cases c1
        exact ⟨a, rfl, h1⟩
theorem tr_rp {S : Hp} {a : Addr} {x y z : Int} (h : S a = some (.tup [.int x, .int y, .int z])) : Rp S (.ref a) (.tuple [.int x, .int y, .int z]) := .tup h (.cons (.int _) (.cons (.int _) (.cons (.int _) .nil)))

/-- the entry that is left without a moment, as a value -/
def pastV : Option Nat → V
  | none => .non
  | some j => .int (j : Int)
def pastD : Option Nat → PyData
  | none => .none
  | some j => .int (j : Int)
theorem rp_past {S : Hp} : ∀ {o : Option Nat}, Rp S (pastV o) (pastD o)
  | none => .non
  | some _ => .int _
theorem optV_ints (L : List Int) : (L.map some).map optV = L.map V.int := by rw [List.map_map]; rfl
theorem stepV_ints {S : List (List (Int × Int))} {L : List Int} {j e : Nat} {l x m : Int} (h1 : L[j]? = some l) (h2 : L[e]? = some x) : stepV S (L.map some) j e m = if x + m ≤ l then some l else firstFrom (S.getD j []) (x + m) := by
  unfold stepV
  rw [atL_get (o := some l) (by rw [List.getElem?_map, h1]; rfl), atL_get (o := some x) (by rw [List.getElem?_map, h2]; rfl)]
  rfl
theorem stp_up {S : List (List (Int × Int))} {B : List Bd} {k : Nat} {L : List Int} {b : Bd} {l x y : Int} (hb : B[k]? = some b) (h1 : L[b.j]? = some l) (h2 : L[b.e]? = some x) (c : l < x + b.m) (hf : firstFrom (S.getD b.j []) (x + b.m) = some y) : stp S B k L = .up b.j y := by
  unfold stp
  rw [hb]
  show stpB S L b = _
  unfold stpB
  simp only [h1, h2]
  rw [if_pos c, hf]
theorem stp_out {S : List (List (Int × Int))} {B : List Bd} {k : Nat} {L : List Int} {b : Bd} {l x : Int} (hb : B[k]? = some b) (h1 : L[b.j]? = some l) (h2 : L[b.e]? = some x) (c : l < x + b.m) (hf : firstFrom (S.getD b.j []) (x + b.m) = none) : stp S B k L = .out b.j := by
  unfold stp
  rw [hb]
  show stpB S L b = _
  unfold stpB
  simp only [h1, h2]
  rw [if_pos c, hf]
theorem stp_bad {S : List (List (Int × Int))} {B : List Bd} {k : Nat} {L : List Int} {b : Bd} {l x : Int} (hb : B[k]? = some b) (h1 : L[b.j]? = some l) (h2 : L[b.e]? = some x) (c : ¬ l < x + b.m) : stp S B k L = .bad := by
  unfold stp
  rw [hb]
  show stpB S L b = _
  unfold stpB
  simp only [h1, h2]
  rw [if_neg c]
/-- what is told: the lows, the steps, the entry left without a moment -/
structure Told (S : List (List (Int × Int))) (B : List Bd) (H L0 : List Int) (ks : List Nat) (L : List Int) (past : Option Nat) : Prop where
  r : rfold S B ks L0 = some (L, past)
  n : Near H L
  l : ks.length ≤ 2 ^ 12
  k : past = none → Kept B L
/-! raised -/
abbrev s_raised : Stmt := top 4
abbrev nm_raised : List Str := ["frame", "lows", "sets", "bonds", "steps", "again", "number", "bond", "low"]
theorem sc_raised : FnScope nm_raised ["frame", "lows"] (defScope s_raised) := ⟨rfl, rfl, rfl, by decide +kernel, rfl, by decide +kernel, by decide +kernel⟩
theorem st_raised (a b : V) : start nm_raised [a, b] = [some a, some b, none, none, none, none, none, none, none] := rfl
def p_raised (C : Addr) (w : Wd) (a b : V) (Q : VK) (_ : XK) : Prop := ∃ S Bs H p L0, Fr C w.S a S (Bs.map bdT) ∧ b = .ref p ∧ Rd w p (.lst (L0.map V.int)) ∧ Lain H S Bs ∧ Near H L0 ∧ H.length ≤ 9 ∧ Bs.length < 2 ^ 10 ∧
  ∀ v t p1 p2 (ks : List Nat) L past, Ext Non w v → v.S t = some (.tup [.ref p1, .ref p2, pastV past]) → w.H p1 = none → w.H p2 = none → p1 ≠ p2 → Own v p1 (.lst (L.map V.int)) → Own v p2 (.lst (ks.map fun (k : Nat) => V.int (k : Int))) → Told S Bs H L0 ks L past → Q (.ref t) v.H
theorem ok_raised {f : Addr} {fd : FuncData} {C_Frame : Addr} (F : Fun K "raised" "raised" s_raised f fd) (T : Txt K mg C_Frame) (c_Frame_bonds : Mth P ww K mg base CX0 C_Frame 1 "bonds" (pr1 (p_Frame_bonds C_Frame))) (c_Frame_spans : Mth P ww K mg base CX0 C_Frame 1 "spans" (pr1 (p_Frame_spans C_Frame))) (c_stepped : Fnc P ww K mg base CX0 2 "stepped" (pr3 (p_stepped))) : FnOk P ww K mg base CX0 3 f fd ["frame", "lows"] (pr2 (p_raised C_Frame)) := by
  refine F.ok sc_raised (fun vs H Q E h => len2 h) (fun cdv A outer s H vs Q E hr h => ?_)
  obtain ⟨w, x0, x1,  rfl, rfl, h⟩ := h
  have cl_Frame := T.cl_Frame
  have na_Frame_sets := T.na_Frame_sets
  have na_Frame_ties := T.na_Frame_ties
  refine ⟨_, (pss_cons (ps_set (i := 2) sc_raised.nd rfl (Or.inl rfl) (pe_mth0 c_Frame_spans T.cl_Frame hr (by decide) pass0 (pv 0)))
      (pss_cons (ps_set (i := 3) sc_raised.nd rfl (Or.inl rfl) (pe_mth0 c_Frame_bonds T.cl_Frame hr (by decide) pass0 (pv 0)))
      (pss_cons (ps_set (i := 1) sc_raised.nd rfl (Or.inl rfl) (pe_callTy (kList K) (by rfl) T.n_list (by decide +kernel) (pa_cons (pv 1) pa_nil)))
      (pss_cons (ps_set (i := 4) sc_raised.nd rfl (Or.inl rfl) (pe_lst pa_nil))
      (pss_cons (ps_set (i := 5) sc_raised.nd rfl (Or.inl rfl) pe_bl)
      (pss_cons (ps_while PassesOwn.never (pt_val (pv 5)) (pss_cons (ps_set (i := 5) sc_raised.nd rfl (Or.inl rfl) pe_bl)
      (pss_one (ps_for PassesOwn.never rfl (kpEnum K (by rfl) T.n_enumerate (pa_cons (pv 3) pa_nil)) (kgTup K (by rfl) (pgs_cons (pg_name (i := 6) sc_raised.nd rfl (Or.inl rfl)) (pgs_cons (pg_name (i := 7) sc_raised.nd rfl (Or.inl rfl)) pgs_nil))) (pss_cons (ps_set (i := 8) sc_raised.nd rfl (Or.inl rfl) (pe_fn c_stepped hr (by decide) pass0 (pa_cons (pv 2) (pa_cons (pv 1) (pa_cons (pv 7) pa_nil)))))
      (pss_cons (ps_if (pt_cmpR g_is (pv 8) pe_non (nomark _)) (pss_cons (ps_expr (pe_bm PySem.F.plainAttrs_list PySem.F.slot_list_append PySem.F.type_list_append mt_append (pv 4) (pa_cons (pv 6) pa_nil)))
      (pss_one (ps_ret (pe_tup (pa_cons (pv 1) (pa_cons (pv 4) (pa_cons (pe_ix (kIx K) (pv 7) pe_int (fun _ _ => rfl)) pa_nil))))))) pss_nil)
      (pss_one (ps_if (pt_cmpR (kNe K hr.units) (pv 8) (pe_ix (kIx K) (pv 1) (pe_ix (kIx K) (pv 7) pe_int (fun _ _ => rfl)) (fun _ _ => rfl)) (nomark _)) (pss_cons (ps_asg (pv 8) (pg_sub (pv 1) (pe_ix (kIx K) (pv 7) pe_int (fun _ _ => rfl)) set_list))
      (pss_cons (ps_expr (pe_bm PySem.F.plainAttrs_list PySem.F.slot_list_append PySem.F.type_list_append mt_append (pv 4) (pa_cons (pv 6) pa_nil)))
      (pss_one (ps_set (i := 5) sc_raised.nd rfl (Or.inl rfl) pe_bl)))) pss_nil))))))))
      (pss_one (ps_ret (pe_tup (pa_cons (pv 1) (pa_cons (pv 4) (pa_cons pe_non pa_nil)))))))))))), ?_⟩
  rw [st_raised]
  obtain ⟨S, Bs, H, p, L0, hF, rfl, rd, la, ne, hH, hB, k⟩ := h
  obtain ⟨x, dx, y, z, rfl, sx, _, _⟩ := id hF
  wtm_at "gs"
  refine ⟨S, _, hF, by have := la.l; omega, fun v1 r1 e1 hS => ?_⟩
  have hF1 := hF.go e1
  wtm_at "gs"
  refine ⟨S, _, hF1, fun v2 r2 e2 hB2 => ?_⟩
  obtain ⟨rb, vb, rfl, sb, rbb⟩ := hB2.list_inv
  have lb := rbb.length
  rw [List.length_map, List.length_map] at lb
  have hS2 := hS.go e2
  have rd2 : Rd v2 p (.lst (L0.map V.int)) := (rd.go e1 fun z => z).go e2 fun z => z
  have e12 := e1.trans e2
  have lL0 : (L0.map V.int).length ≤ 9 := by rw [List.length_map, ne.l]; exact hH
  clear e1 e2 hS hF1
  wtm_at "go"
  refine s_listO (.inl (SqL.of rd2.h)) fun D v3 e3 n3 o3 => ?_
  wtm_at "go"
  rename_i T v4 e4 n4 o4
  have o3' : Own v4 D (.lst (L0.map V.int)) := o3.ext e4 fun z => z
  have hDT : D ≠ T := o3.ne n4
  have ew4 : Ext Non w v4 := (e12.trans e3).trans e4
  have wD : w.H D = none := e12.back n3
  have wT : w.H T = none := (e12.trans e3).back n4
  have hS4 := (hS2.go e3).go e4
  have sb4 := st_go e4 (st_go e3 sb)
  have rb4 := (rbb.go e3).go e4
  clear e3 e4 o3 hS2 sb rbb rd2 e12
  have back : ∀ u, Ext (Two D T) v4 u → Ext Non w u := fun u e => ew4.step e fun b hb => .inl (by rcases hb with hb | hb; (rw [hb]; exact wD); (rw [hb]; exact wT))
  refine whW2 (fun m σ u => Ext (Two D T) v4 u ∧ ∃ (ag : Bool) (g6 g7 g8 : Option V) (ks : List Nat) (L : List Int), σ = [some (.ref x), some (.ref D), some r1, some (.ref rb), some (.ref T), some (.bl ag), g6, g7, g8] ∧
      m = 2 * mu H L + (if ag then 1 else 0) ∧ Own u D (.lst (L.map V.int)) ∧ Own u T (.lst (ks.map fun (k : Nat) => V.int (k : Int))) ∧ rfold S Bs ks L0 = some (L, none) ∧ Near H L ∧ ks.length + mu H L ≤ 230 * 9 ∧ (ag = false → Kept Bs L)) (2 * mu H L0 + 1)
    (fun σ u => Ext (Two D T) v4 u ∧ ∃ (g6 g7 g8 : Option V) (ks : List Nat) (L : List Int), σ = [some (.ref x), some (.ref D), some r1, some (.ref rb), some (.ref T), some (.bl false), g6, g7, g8] ∧
      Own u D (.lst (L.map V.int)) ∧ Own u T (.lst (ks.map fun (k : Nat) => V.int (k : Int))) ∧ rfold S Bs ks L0 = some (L, none) ∧ Near H L ∧ ks.length + mu H L ≤ 230 * 9 ∧ Kept Bs L) ?_ ?_ ?_
  · exact ⟨Ext.refl _ _, true, _, _, _, [], L0, rfl, rfl, o3', o4, rfl, ne, by have := ne.mu; show 0 + mu H L0 ≤ _; omega, fun h => by cases h⟩
  · rintro Z hZ m σ u ⟨eu, ag, g6, g7, g8, ks, L, rfl, rfl, oD, oT, hr, hn, hm, hk⟩
    cases ag with
    | false =>
      wtm_at "go"
      exact hZ _ _ ⟨eu, _, _, _, ks, L, rfl, oD, oT, hr, hn, hm, hk rfl⟩
    | true =>
      have sbu := st_go eu sb4
      wtm_at "go"
      refine ⟨rb, vb, rfl, SqL.of (u.ok _ _ sbu), ?_⟩
      refine forW (ww_enum (xs := vb)) (fun i σ z => Ext (Two D T) v4 z ∧ ∃ (ag : Bool) (g6 g7 g8 : Option V) (ks : List Nat) (M : List Int), σ = [some (.ref x), some (.ref D), some r1, some (.ref rb), some (.ref T), some (.bl ag), g6, g7, g8] ∧
        Own z D (.lst (M.map V.int)) ∧ Own z T (.lst (ks.map fun (k : Nat) => V.int (k : Int))) ∧ rfold S Bs ks L0 = some (M, none) ∧ Near H M ∧ ks.length + mu H M ≤ 230 * 9 ∧ (if ag then mu H M + 1 ≤ mu H L else M = L ∧ ∀ (i' : Nat) b, i' < i → Bs[i']? = some b → ∀ l x, L[b.j]? = some l → L[b.e]? = some x → x + b.m ≤ l)) ⟨eu, false, _, _, _, ks, L, rfl, oD, oT, hr, hn, hm, rfl, fun i' b h => absurd h (by omega)⟩ (fun i σ z _ hh => sql_of (st_go hh.1 sb4)) ?_ ?_
      · rintro i xv σ z v5 hi ⟨ez, ag, g6, g7, g8, ks, M, rfl, oD2, oT2, hr2, hn2, hm2, hag⟩ ⟨T1, x1, rfl, ev, hT, sT, hx⟩
        obtain ⟨b, hb⟩ : ∃ b, Bs[i]? = some b := ⟨_, List.getElem?_eq_getElem (by omega)⟩
        have hbm := List.mem_of_getElem? hb
        obtain ⟨tt, htv, htt⟩ : ∃ t, vb[i]? = some (.ref t) ∧ v4.S t = some (.tup [.int (b.j : Int), .int (b.e : Int), .int b.m]) := by
          obtain ⟨y, h1, h2⟩ := rb4.get' (i := i) (d := trD (bdT b)) (by rw [List.getElem?_map, List.getElem?_map, hb]; rfl)
          obtain ⟨t, rfl, h3⟩ := tr_inv h2
          exact ⟨t, h1, h3⟩
        rw [htv] at hx
        cases hx
        obtain ⟨hj, he, -⟩ := la.b b hbm
        have hMl := hn2.l
        obtain ⟨l, hl⟩ : ∃ l, M[b.j]? = some l := ⟨_, List.getElem?_eq_getElem (by omega)⟩
        obtain ⟨x0, hx0⟩ : ∃ l, M[b.e]? = some l := ⟨_, List.getElem?_eq_getElem (by omega)⟩
        have ez5 : Ext (Two D T) v4 v5 := ez.step ev fun _ z => z.elim
        have oD5 : Own v5 D _ := oD2.ext ev fun z => z
        have oT5 : Own v5 T _ := oT2.ext ev fun z => z
        have htt5 := st_go ez5 htt
        have hS5 := hS4.go ez5
        have lks : (ks.map fun (k : Nat) => V.int (k : Int)).length ≤ 2070 := by rw [List.length_map]; omega
        have hat : atI (M.map V.int) (b.j : Int) = some (.int l) := by
          rw [atI_nn (by omega) (by rw [List.length_map]; omega), show ((b.j : Nat) : Int).toNat = b.j by omega, List.getElem?_map, hl]
          rfl
        clear ev ez oD2 oT2 oD oT
        wtm_at "gs"
        refine ⟨S, D, M.map some, b, hS5, rfl, by rw [optV_ints]; exact .inr oD5, tr_rp htt5, by rw [List.length_map]; omega, by rw [List.length_map]; omega, by rw [List.length_map, la.l]; omega, fun A hA => ?_, fun v6 e6 => ?_⟩
        · obtain ⟨n, hn1⟩ := List.mem_iff_getElem?.mp hA
          have hn2 := (List.getElem?_eq_some_iff.mp hn1).1
          have hnH : n < H.length := by rw [← la.l]; exact hn2
          exact (la.s n A _ hn1 (List.getElem?_eq_getElem hnH)).1
        rw [stepV_ints hl hx0]
        have oD6 : Own v6 D _ := oD5.ext e6 fun z => z
        have oT6 : Own v6 T _ := oT5.ext e6 fun z => z
        have ez6 : Ext (Two D T) v4 v6 := ez5.step e6 fun _ z => z.elim
        have htt6 := st_go e6 htt5
        clear e6 oD5 oT5 ez5 htt5 hS5 sT
        by_cases c : x0 + b.m ≤ l
        · rw [if_pos c]
          dsimp only [optV]
          wtm_at "gs"
          refine s_ixO oD6 hat ?_
          wtm_at "gs"
          refine ite_d (fun c => absurd rfl c) (fun _ => ?_)
          wtm_at "gs"
          refine ⟨ez6, ag, _, _, _, ks, M, rfl, oD6, oT6, hr2, hn2, hm2, ?_⟩
          cases ag with
          | true => exact hag
          | false =>
            obtain ⟨rfl, h9⟩ := hag
            refine ⟨rfl, fun i' b' hi' hb' l' x' g1 g2 => ?_⟩
            by_cases c9 : i' < i
            · exact h9 i' b' c9 hb' l' x' g1 g2
            · have : i' = i := by omega
              subst this
              rw [hb] at hb'
              cases hb'
              rw [hl] at g1
              rw [hx0] at g2
              cases g1
              cases g2
              exact c
        · rw [if_neg c]
          cases hf : firstFrom (S.getD b.j []) (x0 + b.m) with
          | none =>
            dsimp only [optV]
            wtm_at "gs"
            rename_i v7 e7 o7 t v8 e8 n8 s8
            have o8 : Own v8 T (.lst ((ks ++ [i]).map fun (k : Nat) => V.int (k : Int))) := by rw [List.map_append]; exact o7.ext e8 fun z => z
            have e48 : Ext (Two D T) v4 v8 := (ez6.step e7 fun b hb => .inr (.inr hb)).step e8 fun _ z => z.elim
            refine k v8 t D T (ks ++ [i]) M (some b.j) (back _ e48) s8 wD wT hDT ((oD6.ext e7 hDT).ext e8 fun z => z) o8 ⟨?_, hn2, by rw [List.length_append]; show ks.length + 1 ≤ _; omega, fun h => by cases h⟩
            rw [rfold_snoc hr2, stp_out hb hl hx0 (by omega) hf]
          | some y =>
            obtain ⟨hh, h1, h2, h3⟩ := la.up hn2 hbm hx0 hf
            have hmu := mu_set H M b.j hh l y h1 hl (by omega) h3
            dsimp only [optV]
            wtm_at "gs"
            refine s_ixO oD6 hat ?_
            wtm_at "gs"
            refine ite_d (fun _ => ?_) (fun c9 => absurd (by omega) c9)
            wtm_at "gs"
            refine s_setA (j := b.j) oD6 (by rw [List.length_map]; omega) fun v7 e7 o7 => ?_
            have oT7 : Own v7 T _ := oT6.ext e7 hDT.symm
            have ez7 : Ext (Two D T) v4 v7 := ez6.step e7 fun b hb => .inr (.inl hb)
            have o7' : Own v7 D (.lst ((M.set b.j y).map V.int)) := by rw [List.map_set]; exact o7
            clear e7 oD6 oT6 ez6 o7
            wtm_at "gs"
            rename_i v8 e8 o8
            refine ⟨ez7.step e8 fun b hb => .inr (.inr hb), true, _, _, _, ks ++ [i], M.set b.j y, rfl, o7'.ext e8 hDT, by rw [List.map_append]; exact o8, ?_, hn2.set h1 hl (by omega) h3, by rw [List.length_append]; show ks.length + 1 + _ ≤ _; omega, ?_⟩
            · rw [rfold_snoc hr2, stp_up hb hl hx0 (by omega) hf]
            · show mu H (M.set b.j y) + 1 ≤ mu H L
              cases ag with
              | true =>
                have hag : mu H M + 1 ≤ mu H L := hag
                omega
              | false =>
                rw [← hag.1]
                exact hmu
      · rintro σ z ⟨ez, ag, g6, g7, g8, ks, M, rfl, oD2, oT2, hr2, hn2, hm2, hag⟩
        wtm_at "go"
        rw [lb] at hag
        refine ⟨_, ?_, ez, ag, g6, g7, g8, ks, M, rfl, rfl, oD2, oT2, hr2, hn2, hm2, fun h => ?_⟩
        · cases ag with
          | true =>
            have hag : mu H M + 1 ≤ mu H L := hag
            show 2 * mu H M + 1 < 2 * mu H L + 1
            omega
          | false =>
            have hag := hag.1
            show 2 * mu H M + 0 < 2 * mu H L + 1
            rw [hag]
            omega
        · subst h
          obtain ⟨rfl, h9⟩ := hag
          intro b hb l x h1 h2
          obtain ⟨i', hi'⟩ := List.mem_iff_getElem?.mp hb
          exact h9 i' b (List.getElem?_eq_some_iff.mp hi').1 hi' l x h1 h2
  · rintro σ u ⟨eu, g6, g7, g8, ks, L, rfl, oD, oT, hr, hn, hm, hk⟩
    wtm_at "gs"
    rename_i t v5 e5 n5 s5
    exact k v5 t D T ks L none ((back u eu).trans e5) s5 wD wT hDT (oD.ext e5 fun z => z) (oT.ext e5 fun z => z) ⟨hr, hn, by omega, fun _ => hk⟩
/-! _law_first -/
abbrev s_l_first : Stmt := top 11
abbrev nm_l_first : List Str := ["_law_spans_here", "_law_number", "_law_low_here", "_law_high"]
theorem sc_l_first : FnScope nm_l_first ["_law_spans_here", "_law_number"] (defScope s_l_first) := ⟨rfl, rfl, rfl, by decide +kernel, rfl, by decide +kernel, by decide +kernel⟩
theorem st_l_first (a b : V) : start nm_l_first [a, b] = [some a, some b, none, none] := rfl
def p_l_first (w : Wd) (a b : V) (Q : VK) (_ : XK) : Prop := ∃ rows, ∃ n : Int, Ls w a rows ∧ b = .int n ∧ rows.length < 2 ^ 15 ∧ ∀ v, Ext Non w v → Q (optV (firstFrom rows n)) v.H
theorem ok_l_first {f : Addr} {fd : FuncData} {C_Frame : Addr} (F : Fun K "_law_first" "_law_first" s_l_first f fd) (T : Txt K mg C_Frame)  : FnOk P ww K mg base CX0 1 f fd ["_law_spans_here", "_law_number"] (pr2 (p_l_first)) := by
  refine F.ok sc_l_first (fun vs H Q E h => len2 h) (fun cdv A outer s H vs Q E hr h => ?_)
  obtain ⟨w, x0, x1,  rfl, rfl, h⟩ := h
  refine ⟨_, (pss_cons (ps_for PassesOwn.never rfl (kpList K (pv 0)) (kgTup K (by rfl) (pgs_cons (pg_name (i := 2) sc_l_first.nd rfl (Or.inl rfl)) (pgs_cons (pg_name (i := 3) sc_l_first.nd rfl (Or.inl rfl)) pgs_nil))) (pss_one (ps_if (pt_cmpR g_le (pv 1) (pv 3) (nomark _)) (pss_one (ps_ret (pe_callB (kMax K rfl) (by rfl) T.n_max (by decide +kernel) (pa_cons (pv 2) (pa_cons (pv 1) pa_nil))))) pss_nil)))
      (pss_one (ps_ret pe_non))), ?_⟩
  rw [st_l_first]
  obtain ⟨rows, n, ⟨p, vs, rfl, r, ha⟩, rfl, hl, k⟩ := h
  have hvl := ha.length
  rw [List.length_map] at hvl
  wtm_at "go"
  refine forW (ww_list (xs := vs)) (fun i σ u => Ext Non w u ∧ ∃ (y z : Option V), σ = [some (.ref p), some (.int n), y, z] ∧ firstFrom rows n = firstFrom (rows.drop i) n) ⟨Ext.refl _ _, _, _, rfl, rfl⟩ (fun i σ u _ p => by have := p.1; exact SqL.of (Rd.h (show Rd u _ (.lst vs) by wtm_at "rd"))) ?_ ?_
  · rintro i x σ _ u hi ⟨eu, y, z, rfl, hf⟩ ⟨rfl, hx⟩
    obtain ⟨d, h3, h4⟩ := ha.get hx
    have hi' : i < rows.length := by omega
    have h3' : d = prD rows[i] := by rw [List.getElem?_map, List.getElem?_eq_getElem hi'] at h3; exact (Option.some.inj h3).symm
    subst h3'
    have hq : rows[i]? = some rows[i] := List.getElem?_eq_getElem hi'
    generalize rows[i] = q at h4 hq
    obtain ⟨t, rfl, ht⟩ := pr_inv (show Rp u.S x (prD q) by wtm_at "rp")
    rw [first_drop hq] at hf
    wtm_at "gs"
    refine ite_d (fun c => ?_) (fun c => ?_)
    · rw [if_pos c] at hf
      wtm_at "gs"
      have := k u eu
      rw [hf] at this
      exact this
    · rw [if_neg c] at hf
      wtm_at "gs"
      exact ⟨eu, _, _, rfl, hf⟩
  · rintro σ u ⟨eu, y, z, rfl, hf⟩
    wtm_at "gs"
    have := k u eu
    rw [hf, hvl, List.drop_length] at this
    exact this
theorem s_ixRd {K : PySem.W.Frag} {w : Wd} {p : Addr} {j : Int} {vs : List V} {v : V} {Q : V → Hp → Prop} (h : Rd w p (.lst vs)) (e : atI vs j = some v) (k : Q v w.H) : gIx K (.ref p) (.int j) w.H Q := ⟨vs, v, .inl (SqL.of h.h), e, k⟩
/-! _law_spans -/
abbrev s_l_spans : Stmt := top 13
abbrev nm_l_spans : List Str := ["_law_pool_here", "_law_height", "_law_low_here", "_law_found", "_law_k", "_law_high"]
theorem sc_l_spans : FnScope nm_l_spans ["_law_pool_here", "_law_height"] (defScope s_l_spans) := ⟨rfl, rfl, rfl, by decide +kernel, rfl, by decide +kernel, by decide +kernel⟩
theorem st_l_spans (a b : V) : start nm_l_spans [a, b] = [some a, some b, none, none, none, none] := rfl
def p_l_spans (w : Wd) (a b : V) (Q : VK) (_ : XK) : Prop := ∃ p, ∃ h : Int, a = .ref p ∧ b = .int h ∧ Pool w p ∧ ∀ v r (rows : List (Int × Int)), Ext (One p) w v → Pool v p → Rp v.S r (spD rows) → 1 ≤ rows.length → rows.length ≤ 8 → (∀ q ∈ rows, h - 30 ≤ q.1 ∧ q.1 ≤ h + 190 ∧ q.1 ≤ q.2) → Q r v.H
theorem ok_l_spans {f : Addr} {fd : FuncData} {C_Frame : Addr} (F : Fun K "_law_spans" "_law_spans" s_l_spans f fd) (T : Txt K mg C_Frame) (c_l_take : Fnc P ww K mg base CX0 1 "_law_take" (pr2 (p_l_take))) : FnOk P ww K mg base CX0 2 f fd ["_law_pool_here", "_law_height"] (pr2 (p_l_spans)) := by
  refine F.ok sc_l_spans (fun vs H Q E h => len2 h) (fun cdv A outer s H vs Q E hr h => ?_)
  obtain ⟨w, x0, x1,  rfl, rfl, h⟩ := h
  refine ⟨_, (pss_cons (ps_set (i := 2) sc_l_spans.nd rfl (Or.inl rfl) (pe_op g_sub (pv 1) (pe_fn c_l_take hr (by decide) pass0 (pa_cons (pv 0) (pa_cons pe_int pa_nil)))))
      (pss_cons (ps_set (i := 3) sc_l_spans.nd rfl (Or.inl rfl) (pe_lst pa_nil))
      (pss_cons (ps_for PassesOwn.never rfl (pi_range1 rfl T.n_range (pa_cons (pe_ix (kIx K) (pe_lst (pa_cons pe_int (pa_cons pe_int (pa_cons pe_int (pa_cons pe_int (pa_cons pe_int (pa_cons pe_int (pa_cons pe_int (pa_cons pe_int pa_nil))))))))) (pe_fn c_l_take hr (by decide) pass0 (pa_cons (pv 0) (pa_cons pe_int pa_nil))) (fun _ _ => rfl)) pa_nil)) (pg_name (i := 4) sc_l_spans.nd rfl (Or.inl rfl)) (pss_cons (ps_set (i := 5) sc_l_spans.nd rfl (Or.inl rfl) (pe_op (kAdd K) (pv 2) (pe_op (kMul K) (pe_fn c_l_take hr (by decide) pass0 (pa_cons (pv 0) (pa_cons pe_int pa_nil))) (pe_fn c_l_take hr (by decide) pass0 (pa_cons (pv 0) (pa_cons pe_int pa_nil))))))
      (pss_cons (ps_expr (pe_bm PySem.F.plainAttrs_list PySem.F.slot_list_append PySem.F.type_list_append mt_append (pv 3) (pa_cons (pe_tup (pa_cons (pv 2) (pa_cons (pv 5) pa_nil))) pa_nil)))
      (pss_one (ps_set (i := 2) sc_l_spans.nd rfl (Or.inl rfl) (pe_op (kAdd K) (pe_op (kAdd K) (pv 5) pe_int) (pe_fn c_l_take hr (by decide) pass0 (pa_cons (pv 0) (pa_cons pe_int pa_nil)))))))))
      (pss_cons (ps_if (pt_cmpR (kEq K hr.units) (pe_fn c_l_take hr (by decide) pass0 (pa_cons (pv 0) (pa_cons pe_int pa_nil))) pe_int (nomark _)) (pss_one (ps_expr (pe_bm PySem.F.plainAttrs_list PySem.F.slot_list_append PySem.F.type_list_append mt_append (pv 3) (pa_cons (pe_tup (pa_cons (pv 2) (pa_cons (pe_op (kAdd K) (pv 2) (pe_op g_pow pe_int pe_int)) pa_nil))) pa_nil)))) pss_nil)
      (pss_one (ps_ret (pv 3))))))), ?_⟩
  rw [st_l_spans]
  obtain ⟨p, hh, rfl, rfl, pu, q⟩ := h
  wtm_at "go"
  rename_i v0 d0 e0 pu0 h00 h01 f wf ef nf of lp wc ec nc oc v1 d1 e1 pu1 h10 h11
  have hpf : p ≠ f := pool_new' nf pu0
  wtm_at "ixm"
  intro v hv hm
  simp only [List.mem_cons, List.not_mem_nil, or_false] at hm
  obtain ⟨many, rfl, hmany, hmany1⟩ : ∃ n : Nat, v = .int n ∧ n ≤ 7 ∧ 1 ≤ n := by
    rcases hm with rfl | rfl | rfl | rfl | rfl | rfl | rfl | rfl <;> exact ⟨_, congrArg V.int (Int.toNat_of_nonneg (by decide)).symm, by decide, by decide⟩
  have of1 : Own v1 f (.lst []) := by wtm_at "own"
  have ew1 : Ext (One p) w v1 := by wtm_at "ch"
  have wf0 : w.H f = none := (show Ext (One p) w v0 by wtm_at "ch").back nf
  clear hm hv e0 e1 ec ef pu0 of oc pu
  wtm_at "gs"
  refine forW (ww_range (lo := 0) (m := _)) (fun i σ u => Ext (Two p f) v1 u ∧ Pool u p ∧ ∃ (lo : Int) (us : List V) (rows : List (Int × Int)) (k g : Option V), σ = [some (.ref p), some (.int hh), some (.int lo), some (.ref f), k, g] ∧
      Own u f (.lst us) ∧ RpA u.S us (rows.map prD) ∧ rows.length = i ∧ hh - 30 ≤ lo ∧ lo ≤ hh + 23 * i ∧ ∀ q ∈ rows, hh - 30 ≤ q.1 ∧ q.1 ≤ hh + 190 ∧ q.1 ≤ q.2) ⟨Ext.refl _ _, pu1, _, [], [], _, _, rfl, of1, .nil, rfl, by omega, by omega, fun _ h => by cases h⟩ (fun _ _ _ _ _ => trivial) ?_ ?_
  · rintro i x σ _ u hi ⟨eu, pu, lo, us, rows, k, g, rfl, ou, hus, hl, hlo, hlo2, hr⟩ ⟨rfl, rfl⟩
    have hul := hus.length
    rw [List.length_map] at hul
    have hi : i < 7 := by omega
    wtm_at "gs"
    rename_i v2 d2 e2 pu2 h20 h21 v3 d3 e3 pu3 h30 h31 t4 v4 e4 n4 s4 v5 e5 o5 v6 d6 e6 pu6 h60 h61
    have g1 : 0 ≤ d2 * d3 := Int.mul_nonneg h20 h30
    have g2 : d2 * d3 ≤ 5 * 2 := Int.mul_le_mul (by omega) (by omega) h30 (by omega)
    refine ⟨by wtm_at "ch", pu6, _, _, rows ++ [(lo, lo + d2 * d3)], _, _, rfl, by wtm_at "own", ?_, by simp [hl], by omega, by push_cast; omega, fun q hq => ?_⟩
    · rw [List.map_append]
      exact RpA.append (by wtm_at "rpa") (.one (pr_rp (by wtm_at "stb")))
    · rcases List.mem_append.mp hq with h | h
      · exact hr q h
      · rw [List.mem_singleton.mp h]
        exact ⟨hlo, by show lo ≤ _; omega, by show lo ≤ lo + _; omega⟩
  · rintro σ u ⟨eu, pu, lo, us, rows, k, g, rfl, ou, hus, hl, hlo, hlo2, hr⟩
    have hl7 : rows.length ≤ 7 := by omega
    have hl1 : 1 ≤ rows.length := by omega
    have hlo3 : lo ≤ hh + 190 := by omega
    have hul := hus.length
    rw [List.length_map] at hul
    wtm_at "go"
    refine ite_d (fun c => ?_) (fun c => ?_)
    · wtm_at "gs"
      rename_i c6 hc6 t4 v4 e4 n4 s4 v5 e5 o5
      refine lay (R := Q (.ref f)) o5 fun v6 e6 s6 => ?_
      have r6 : RpA v6.S (us ++ [.ref t4]) ((rows ++ [(lo, lo + c6)]).map prD) := by
        rw [List.map_append]
        exact RpA.append (by wtm_at "rpa") (.one (pr_rp (by wtm_at "stb")))
      refine q v6 _ (rows ++ [(lo, lo + c6)]) ?_ (by wtm_at "pool") (.lst s6 r6) (by simp) (by simp; omega) (fun q hq => ?_)
      · have e26 : Ext (Two p f) v1 v6 := by wtm_at "ch"
        exact ew1.step e26 fun b hb => by rcases hb with hb | hb; (exact .inr hb); (exact .inl (by rw [hb]; exact wf0))
      · rcases List.mem_append.mp hq with h | h
        · exact hr q h
        · rw [List.mem_singleton.mp h]
          exact ⟨hlo, hlo3, by show lo ≤ lo + _; omega⟩
    · wtm_at "go"
      refine lay (R := Q (.ref f)) (show Own _ f (.lst us) by wtm_at "own") fun v6 e6 s6 => ?_
      refine q v6 _ rows ?_ (by wtm_at "pool") (.lst s6 (by wtm_at "rpa")) hl1 (by omega) hr
      have e26 : Ext (Two p f) v1 v6 := by wtm_at "ch"
      exact ew1.step e26 fun b hb => by rcases hb with hb | hb; (exact .inr hb); (exact .inl (by rw [hb]; exact wf0))
/-! _law_bond -/
abbrev s_l_bond : Stmt := top 14
abbrev nm_l_bond : List Str := ["_law_pool_here", "_law_heights", "_law_later", "_law_earlier", "_law_minutes"]
theorem sc_l_bond : FnScope nm_l_bond ["_law_pool_here", "_law_heights"] (defScope s_l_bond) := ⟨rfl, rfl, rfl, by decide +kernel, rfl, by decide +kernel, by decide +kernel⟩
theorem st_l_bond (a b : V) : start nm_l_bond [a, b] = [some a, some b, none, none, none] := rfl
def p_l_bond (w : Wd) (a b : V) (Q : VK) (_ : XK) : Prop := ∃ p q, ∃ hs : List Int, a = .ref p ∧ b = .ref q ∧ Pool w p ∧ w.S q = some (.lst (hs.map V.int)) ∧ 0 < hs.length ∧ hs.length ≤ 60 ∧
  ∀ v t (bd : Bd), Ext (One p) w v → Rp v.S t (trD (bdT bd)) → bd.j < hs.length → bd.e < hs.length → (∀ hj he, hs[bd.j]? = some hj → hs[bd.e]? = some he → bd.m ≤ hj - he) → Q t v.H
theorem ok_l_bond {f : Addr} {fd : FuncData} {C_Frame : Addr} (F : Fun K "_law_bond" "_law_bond" s_l_bond f fd) (T : Txt K mg C_Frame) (c_l_take : Fnc P ww K mg base CX0 1 "_law_take" (pr2 (p_l_take))) : FnOk P ww K mg base CX0 2 f fd ["_law_pool_here", "_law_heights"] (pr2 (p_l_bond)) := by
  refine F.ok sc_l_bond (fun vs H Q E h => len2 h) (fun cdv A outer s H vs Q E hr h => ?_)
  obtain ⟨w, x0, x1,  rfl, rfl, h⟩ := h
  refine ⟨_, (pss_cons (ps_set (i := 2) sc_l_bond.nd rfl (Or.inl rfl) (pe_fn c_l_take hr (by decide) pass0 (pa_cons (pv 0) (pa_cons (pe_callB (kLen K) (by rfl) T.n_len (by decide +kernel) (pa_cons (pv 1) pa_nil)) pa_nil))))
      (pss_cons (ps_set (i := 3) sc_l_bond.nd rfl (Or.inl rfl) (pe_fn c_l_take hr (by decide) pass0 (pa_cons (pv 0) (pa_cons (pe_callB (kLen K) (by rfl) T.n_len (by decide +kernel) (pa_cons (pv 1) pa_nil)) pa_nil))))
      (pss_cons (ps_set (i := 4) sc_l_bond.nd rfl (Or.inl rfl) (pe_op g_sub (pe_ix (kIx K) (pv 1) (pv 2) (fun _ _ => rfl)) (pe_ix (kIx K) (pv 1) (pv 3) (fun _ _ => rfl))))
      (pss_one (ps_ret (pe_tup (pa_cons (pv 2) (pa_cons (pv 3) (pa_cons (pe_op g_sub (pv 4) (pe_op (kMul K) (pe_fn c_l_take hr (by decide) pass0 (pa_cons (pv 0) (pa_cons pe_int pa_nil))) (pe_fn c_l_take hr (by decide) pass0 (pa_cons (pv 0) (pa_cons pe_int pa_nil))))) pa_nil))))))))), ?_⟩
  rw [st_l_bond]
  obtain ⟨p, q, hs, rfl, rfl, pu, sq, h0, h60, k⟩ := h
  have hl : (hs.map V.int).length = hs.length := List.length_map _
  have hat : ∀ d : Int, 0 ≤ d → d < hs.length → ∃ z : Int, atI (hs.map V.int) d = some (.int z) ∧ hs[d.toNat]? = some z := fun d g0 g1 => ⟨hs[d.toNat], by
    rw [atI_nn g0 (by omega), List.getElem?_map, List.getElem?_eq_getElem (by omega)]
    rfl, List.getElem?_eq_getElem (by omega)⟩
  wtm_at "gs"
  rename_i v1 d1 e1 pu1 h10 h11 v2 d2 e2 pu2 h20 h21
  rw [hl] at h11 h21
  obtain ⟨z1, a1, b1⟩ := hat d1 h10 h11
  obtain ⟨z2, a2, b2⟩ := hat d2 h20 h21
  have s2 : v2.S q = some (.lst (hs.map V.int)) := by wtm_at "stb"
  have ew : Ext (One p) w v2 := by wtm_at "ch"
  clear e1 e2 pu1
  refine s_ixL s2 a1 ?_
  wtm_at "gs"
  refine s_ixL s2 a2 ?_
  wtm_at "gs"
  rename_i v3 d3 e3 pu3 h30 h31 v4 d4 e4 pu4 h40 h41 t v5 e5 n5 s5
  have g1 : 0 ≤ d3 * d4 := Int.mul_nonneg h30 h40
  refine k _ _ ⟨d1.toNat, d2.toNat, z1 - z2 - d3 * d4⟩ (by wtm_at "ch") ?_ (show d1.toNat < _ by omega) (show d2.toNat < _ by omega) (fun hj he f1 f2 => ?_)
  · show Rp _ _ (.tuple [.int ((d1.toNat : Nat) : Int), .int ((d2.toNat : Nat) : Int), .int (z1 - z2 - d3 * d4)])
    rw [show ((d1.toNat : Nat) : Int) = d1 by omega, show ((d2.toNat : Nat) : Int) = d2 by omega]
    exact tr_rp (by wtm_at "stb")
  · have f1 : hs[d1.toNat]? = some hj := f1
    have f2 : hs[d2.toNat]? = some he := f2
    rw [b1] at f1
    rw [b2] at f2
    cases f1
    cases f2
    show z1 - z2 - d3 * d4 ≤ z1 - z2
    omega
/-! _law_low -/
abbrev s_l_low : Stmt := top 15
abbrev nm_l_low : List Str := ["_law_pool_here", "_law_spans_here", "_law_low_here", "_law_high"]
theorem sc_l_low : FnScope nm_l_low ["_law_pool_here", "_law_spans_here"] (defScope s_l_low) := ⟨rfl, rfl, rfl, by decide +kernel, rfl, by decide +kernel, by decide +kernel⟩
theorem st_l_low (a b : V) : start nm_l_low [a, b] = [some a, some b, none, none] := rfl
def p_l_low (w : Wd) (a b : V) (Q : VK) (_ : XK) : Prop := ∃ p, ∃ rows : List (Int × Int), ∃ h : Int, a = .ref p ∧ Pool w p ∧ Rp w.S b (spD rows) ∧ 1 ≤ rows.length ∧ rows.length ≤ 8 ∧ (∀ q ∈ rows, h - 30 ≤ q.1 ∧ q.1 ≤ h + 190 ∧ q.1 ≤ q.2) ∧ ∀ v n, Ext (One p) w v → Pool v p → h - 30 ≤ n → n ≤ h + 200 → Q (.int n) v.H
theorem ok_l_low {f : Addr} {fd : FuncData} {C_Frame : Addr} (F : Fun K "_law_low" "_law_low" s_l_low f fd) (T : Txt K mg C_Frame) (c_l_take : Fnc P ww K mg base CX0 1 "_law_take" (pr2 (p_l_take))) : FnOk P ww K mg base CX0 2 f fd ["_law_pool_here", "_law_spans_here"] (pr2 (p_l_low)) := by
  refine F.ok sc_l_low (fun vs H Q E h => len2 h) (fun cdv A outer s H vs Q E hr h => ?_)
  obtain ⟨w, x0, x1,  rfl, rfl, h⟩ := h
  refine ⟨_, (pss_cons (ps_asg (pe_ix (kIx K) (pv 1) (pe_fn c_l_take hr (by decide) pass0 (pa_cons (pv 0) (pa_cons (pe_callB (kLen K) (by rfl) T.n_len (by decide +kernel) (pa_cons (pv 1) pa_nil)) pa_nil))) (fun _ _ => rfl)) (kgTup K (by rfl) (pgs_cons (pg_name (i := 2) sc_l_low.nd rfl (Or.inl rfl)) (pgs_cons (pg_name (i := 3) sc_l_low.nd rfl (Or.inl rfl)) pgs_nil))))
      (pss_one (ps_ret (pe_callB (kMin K rfl) (by rfl) T.n_min (by decide +kernel) (pa_cons (pv 3) (pa_cons (pe_op (kAdd K) (pv 2) (pe_fn c_l_take hr (by decide) pass0 (pa_cons (pv 0) (pa_cons pe_int pa_nil)))) pa_nil)))))), ?_⟩
  rw [st_l_low]
  obtain ⟨p, rows, hh, rfl, pu, hr, h1, h8, hb, k⟩ := h
  obtain ⟨q, vs, rfl, sq, ra⟩ := hr.list_inv
  have la := ra.length
  rw [List.length_map] at la
  wtm_at "gs"
  rename_i v1 d1 e1 pu1 h10 h11
  obtain ⟨r, hr1⟩ : ∃ r, rows[d1.toNat]? = some r := ⟨_, List.getElem?_eq_getElem (by omega)⟩
  obtain ⟨y, hy, hyr⟩ := ra.get' (i := d1.toNat) (d := prD r) (by rw [List.getElem?_map, hr1]; rfl)
  obtain ⟨t, rfl, st⟩ := pr_inv (hyr.go e1)
  have hb1 := hb r (List.mem_of_getElem? hr1)
  have at1 : atI vs d1 = some (.ref t) := by rw [atI_nn h10 (by omega)]; exact hy
  refine s_ixL (st_go e1 sq) at1 ?_
  wtm_at "gs"
  refine k _ _ (by wtm_at "ch") (by wtm_at "pool") ?_ ?_ <;> omega
/-! _law_keeps -/
abbrev s_l_keeps : Stmt := top 16
abbrev nm_l_keeps : List Str := ["_law_lows", "_law_bonds", "_law_later", "_law_earlier", "_law_minutes"]
theorem sc_l_keeps : FnScope nm_l_keeps ["_law_lows", "_law_bonds"] (defScope s_l_keeps) := ⟨rfl, rfl, rfl, by decide +kernel, rfl, by decide +kernel, by decide +kernel⟩
theorem st_l_keeps (a b : V) : start nm_l_keeps [a, b] = [some a, some b, none, none, none] := rfl
def p_l_keeps (w : Wd) (a b : V) (Q : VK) (_ : XK) : Prop := ∃ p, ∃ L : List Int, ∃ B : List Bd, a = .ref p ∧ Rd w p (.lst (L.map V.int)) ∧ Rp w.S b (bsD (B.map bdT)) ∧ Kept B L ∧ (∀ b ∈ B, b.j < L.length ∧ b.e < L.length) ∧ ∀ v, Ext Non w v → Q (.bl true) v.H
theorem ok_l_keeps {f : Addr} {fd : FuncData} {C_Frame : Addr} (F : Fun K "_law_keeps" "_law_keeps" s_l_keeps f fd) (T : Txt K mg C_Frame)  : FnOk P ww K mg base CX0 1 f fd ["_law_lows", "_law_bonds"] (pr2 (p_l_keeps)) := by
  refine F.ok sc_l_keeps (fun vs H Q E h => len2 h) (fun cdv A outer s H vs Q E hr h => ?_)
  obtain ⟨w, x0, x1,  rfl, rfl, h⟩ := h
  refine ⟨_, (pss_cons (ps_for PassesOwn.never rfl (kpList K (pv 1)) (kgTup K (by rfl) (pgs_cons (pg_name (i := 2) sc_l_keeps.nd rfl (Or.inl rfl)) (pgs_cons (pg_name (i := 3) sc_l_keeps.nd rfl (Or.inl rfl)) (pgs_cons (pg_name (i := 4) sc_l_keeps.nd rfl (Or.inl rfl)) pgs_nil)))) (pss_one (ps_if (pt_cmpR g_lt (pe_ix (kIx K) (pv 0) (pv 2) (fun _ _ => rfl)) (pe_op (kAdd K) (pe_ix (kIx K) (pv 0) (pv 3) (fun _ _ => rfl)) (pv 4)) (nomark _)) (pss_one (ps_ret pe_bl)) pss_nil)))
      (pss_one (ps_ret pe_bl))), ?_⟩
  rw [st_l_keeps]
  obtain ⟨p, L, B, rfl, rd, hB, hk, hw, k⟩ := h
  obtain ⟨q, vb, rfl, sq, rb⟩ := hB.list_inv
  have lb := rb.length
  rw [List.length_map, List.length_map] at lb
  wtm_at "gs"
  refine forW (ww_list (xs := vb)) (fun i σ u => Ext Non w u ∧ ∃ g1 g2 g3 : Option V, σ = [some (.ref p), some (.ref q), g1, g2, g3]) ⟨Ext.refl _ _, _, _, _, rfl⟩ (fun i σ u _ hh => sql_of (st_go hh.1 sq)) ?_ ?_
  · rintro i x σ _ u hi ⟨eu, g1, g2, g3, rfl⟩ ⟨rfl, hx⟩
    obtain ⟨b, hb⟩ : ∃ b, B[i]? = some b := ⟨_, List.getElem?_eq_getElem (by omega)⟩
    have hbm := List.mem_of_getElem? hb
    obtain ⟨hj, he⟩ := hw b hbm
    obtain ⟨y, h1, h2⟩ := (rb.go eu).get' (i := i) (d := trD (bdT b)) (by rw [List.getElem?_map, List.getElem?_map, hb]; rfl)
    rw [h1] at hx
    cases hx
    obtain ⟨t, rfl, st⟩ := tr_inv h2
    dsimp only [bdT] at st
    have hl : L[b.j]? = some L[b.j] := List.getElem?_eq_getElem hj
    have hx0 : L[b.e]? = some L[b.e] := List.getElem?_eq_getElem he
    have hm := hk b hbm _ _ hl hx0
    generalize L[b.j] = l at hl hm
    generalize L[b.e] = x0 at hx0 hm
    have al : atI (L.map V.int) (b.j : Int) = some (.int l) := by
      rw [atI_nn (by omega) (by rw [List.length_map]; omega), show ((b.j : Nat) : Int).toNat = b.j by omega, List.getElem?_map, hl]
      rfl
    have ax : atI (L.map V.int) (b.e : Int) = some (.int x0) := by
      rw [atI_nn (by omega) (by rw [List.length_map]; omega), show ((b.e : Nat) : Int).toNat = b.e by omega, List.getElem?_map, hx0]
      rfl
    have rdu := rd.go eu fun z => z
    wtm_at "gs"
    refine s_ixRd rdu al ?_
    wtm_at "gs"
    refine s_ixRd rdu ax ?_
    wtm_at "gs"
    refine ite_d (fun c => absurd c (by omega)) (fun _ => ?_)
    wtm_at "gs"
    exact ⟨eu, _, _, _, rfl⟩
  · rintro σ u ⟨eu, g1, g2, g3, rfl⟩
    wtm_at "gs"
    exact k u eu
/-! _law_is_row -/
abbrev s_l_is_row : Stmt := top 17
abbrev nm_l_is_row : List Str := ["_law_steps", "_law_bonds", "_law_number"]
theorem sc_l_is_row : FnScope nm_l_is_row ["_law_steps", "_law_bonds"] (defScope s_l_is_row) := ⟨rfl, rfl, rfl, by decide +kernel, rfl, by decide +kernel, by decide +kernel⟩
theorem st_l_is_row (a b : V) : start nm_l_is_row [a, b] = [some a, some b, none] := rfl
def p_l_is_row (w : Wd) (a b : V) (Q : VK) (_ : XK) : Prop := ∃ p, ∃ ks : List Nat, ∃ B : List Bd, a = .ref p ∧ Rd w p (.lst (ks.map fun (k : Nat) => V.int (k : Int))) ∧ Rp w.S b (bsD (B.map bdT)) ∧ (∀ k ∈ ks, k < B.length) ∧ ∀ v, Ext Non w v → Q (.bl true) v.H
theorem ok_l_is_row {f : Addr} {fd : FuncData} {C_Frame : Addr} (F : Fun K "_law_is_row" "_law_is_row" s_l_is_row f fd) (T : Txt K mg C_Frame)  : FnOk P ww K mg base CX0 1 f fd ["_law_steps", "_law_bonds"] (pr2 (p_l_is_row)) := by
  refine F.ok sc_l_is_row (fun vs H Q E h => len2 h) (fun cdv A outer s H vs Q E hr h => ?_)
  obtain ⟨w, x0, x1,  rfl, rfl, h⟩ := h
  refine ⟨_, (pss_cons (ps_if (pt_not (pt_val (pe_callB (kIsi K) (by rfl) T.n_isinstance (by decide +kernel) (pa_cons (pv 0) (pa_cons (pe_bltn (v := .ty "list") (u := .type "list") rfl T.n_list (by decide +kernel) rfl) pa_nil))))) (pss_one (ps_ret pe_bl)) pss_nil)
      (pss_cons (ps_for PassesOwn.never rfl (kpList K (pv 0)) (pg_name (i := 2) sc_l_is_row.nd rfl (Or.inl rfl)) (pss_one (ps_if (PW.pt (pw_or (pt_not (pt_val (pe_callB (kIsi K) (by rfl) T.n_isinstance (by decide +kernel) (pa_cons (pv 2) (pa_cons (pe_bltn (v := .ty "int") (u := .type "int") rfl T.n_int (by decide +kernel) rfl) pa_nil))))) (pw_or (pt_val (pe_callB (kIsi K) (by rfl) T.n_isinstance (by decide +kernel) (pa_cons (pv 2) (pa_cons (pe_bltn (v := .ty "bool") (u := .type "bool") rfl T.n_bool (by decide +kernel) rfl) pa_nil)))) (pw_or1 (pt_not (pt_chain g_le g_lt pe_int (pv 2) (pe_callB (kLen K) (by rfl) T.n_len (by decide +kernel) (pa_cons (pv 1) pa_nil)))))))) (pss_one (ps_ret pe_bl)) pss_nil)))
      (pss_one (ps_ret pe_bl)))), ?_⟩
  rw [st_l_is_row]
  obtain ⟨p, ks, B, rfl, rd, hB, hk, k⟩ := h
  obtain ⟨q, vb, rfl, sq, rb⟩ := hB.list_inv
  have lb := rb.length
  rw [List.length_map, List.length_map] at lb
  wtm_at "gs"
  refine forW (ww_list (xs := ks.map fun (k : Nat) => V.int (k : Int))) (fun i σ u => Ext Non w u ∧ ∃ g : Option V, σ = [some (.ref p), some (.ref q), g]) ⟨Ext.refl _ _, _, rfl⟩ (fun i σ u _ hh => SqL.of (Rd.h (rd.go hh.1 fun z => z))) ?_ ?_
  · rintro i x σ _ u hi ⟨eu, g, rfl⟩ ⟨rfl, hx⟩
    rw [List.getElem?_map] at hx
    obtain ⟨n, hn, rfl⟩ := Option.map_eq_some_iff.mp hx
    have hnB := hk n (List.mem_of_getElem? hn)
    have squ := st_go eu sq
    wtm_at "gs"
    refine ite_d (fun c => ?_) (fun c => absurd c (by omega))
    wtm_at "gs"
    refine ite_nd (fun c => absurd (show (n : Int) < vb.length by omega) c) (fun c => ?_)
    wtm_at "gs"
    exact ⟨by wtm_at "ch", _, rfl⟩
  · rintro σ u ⟨eu, g, rfl⟩
    wtm_at "gs"
    exact k u eu
theorem sm_ints {L : List Int} (h : L.length < 2 ^ 12) : Sm 6 (.list (L.map PyData.int)) := by
  refine ⟨fun d hd => ?_, by rw [List.length_map]; exact h⟩
  obtain ⟨o, _, rfl⟩ := List.mem_map.mp hd
  trivial
theorem sm_past : ∀ {o : Option Nat}, Sm 6 (pastD o)
  | none => trivial
  | some _ => trivial
theorem ints_rpA {S : Hp} : ∀ L : List Int, RpA S (L.map V.int) (L.map PyData.int)
  | [] => .nil
  | x :: r => .cons (.int x) (ints_rpA r)
/-! _law_judged -/
abbrev s_l_judged : Stmt := top 18
abbrev nm_l_judged : List Str := ["_law_found", "_law_spans_here", "_law_bonds", "_law_lows", "_law_past", "_law_number", "_law_later", "_law_earlier", "_law_minutes", "_law_low_here"]
theorem sc_l_judged : FnScope nm_l_judged ["_law_found", "_law_spans_here", "_law_bonds", "_law_lows"] (defScope s_l_judged) := ⟨rfl, rfl, rfl, by decide +kernel, rfl, by decide +kernel, by decide +kernel⟩
theorem st_l_judged (a b c d : V) : start nm_l_judged [a, b, c, d] = [some a, some b, some c, some d, none, none, none, none, none, none] := rfl
def p_l_judged (w : Wd) (a b c d : V) (Q : VK) (_ : XK) : Prop := ∃ t p1 p2 p0 ks L past S B H L0, a = .ref t ∧ w.S t = some (.tup [.ref p1, .ref p2, pastV past]) ∧ Own w p1 (.lst (L.map V.int)) ∧ Own w p2 (.lst (ks.map fun (k : Nat) => V.int (k : Int))) ∧ Rp w.S b (ssD S) ∧ Rp w.S c (bsD (B.map bdT)) ∧ d = .ref p0 ∧ Rd w p0 (.lst (L0.map V.int)) ∧
  Told S B H L0 ks L past ∧ Lain H S B ∧ Near H L0 ∧ H.length ≤ 9 ∧ B.length < 2 ^ 10 ∧ ∀ v, Ext Non w v → Q (.bl true) v.H
theorem ok_l_judged {f : Addr} {fd : FuncData} {C_Frame : Addr} (F : Fun K "_law_judged" "_law_judged" s_l_judged f fd) (T : Txt K mg C_Frame) (c_l_first : Fnc P ww K mg base CX0 1 "_law_first" (pr2 (p_l_first))) (c_l_is_row : Fnc P ww K mg base CX0 1 "_law_is_row" (pr2 (p_l_is_row))) (c_l_keeps : Fnc P ww K mg base CX0 1 "_law_keeps" (pr2 (p_l_keeps))) (c_l_same : Fnc P ww K mg base CX0 6 "_law_same" (pr2 (p_l_same 6))) : FnOk P ww K mg base CX0 7 f fd ["_law_found", "_law_spans_here", "_law_bonds", "_law_lows"] (pr4 (p_l_judged)) := by
  refine F.ok sc_l_judged (fun vs H Q E h => len4 h) (fun cdv A outer s H vs Q E hr h => ?_)
  obtain ⟨w, x0, x1, x2, x3,  rfl, rfl, h⟩ := h
  refine ⟨_, (pss_cons (ps_if (PW.pt (pw_or (pt_not (pt_val (pe_callB (kIsi K) (by rfl) T.n_isinstance (by decide +kernel) (pa_cons (pv 0) (pa_cons (pe_bltn (v := .ty "tuple") (u := .type "tuple") rfl T.n_tuple (by decide +kernel) rfl) pa_nil))))) (pw_or (pt_cmpR (kNe K hr.units) (pe_callB (kLen K) (by rfl) T.n_len (by decide +kernel) (pa_cons (pv 0) pa_nil)) pe_int (nomark _)) (pw_or1 (pt_not (pt_val (pe_fn c_l_is_row hr (by decide) pass0 (pa_cons (pe_ix (kIx K) (pv 0) pe_int (fun _ _ => rfl)) (pa_cons (pv 2) pa_nil))))))))) (pss_one (ps_ret pe_bl)) pss_nil)
      (pss_cons (ps_set (i := 3) sc_l_judged.nd rfl (Or.inl rfl) (pe_callTy (kList K) (by rfl) T.n_list (by decide +kernel) (pa_cons (pv 3) pa_nil)))
      (pss_cons (ps_set (i := 4) sc_l_judged.nd rfl (Or.inl rfl) pe_non)
      (pss_cons (ps_for PassesOwn.never rfl (kpList K (pe_ix (kIx K) (pv 0) pe_int (fun _ _ => rfl))) (pg_name (i := 5) sc_l_judged.nd rfl (Or.inl rfl)) (pss_cons (ps_asg (pe_ix (kIx K) (pv 2) (pv 5) (fun _ _ => rfl)) (kgTup K (by rfl) (pgs_cons (pg_name (i := 6) sc_l_judged.nd rfl (Or.inl rfl)) (pgs_cons (pg_name (i := 7) sc_l_judged.nd rfl (Or.inl rfl)) (pgs_cons (pg_name (i := 8) sc_l_judged.nd rfl (Or.inl rfl)) pgs_nil)))))
      (pss_cons (ps_if (PW.pt (pw_or (pt_cmpR g_isnot (pv 4) pe_non (nomark _)) (pw_or1 (pt_cmpR g_le (pe_op (kAdd K) (pe_ix (kIx K) (pv 3) (pv 7) (fun _ _ => rfl)) (pv 8)) (pe_ix (kIx K) (pv 3) (pv 6) (fun _ _ => rfl)) (nomark _))))) (pss_one (ps_ret pe_bl)) pss_nil)
      (pss_cons (ps_set (i := 9) sc_l_judged.nd rfl (Or.inl rfl) (pe_fn c_l_first hr (by decide) pass0 (pa_cons (pe_ix (kIx K) (pv 1) (pv 6) (fun _ _ => rfl)) (pa_cons (pe_op (kAdd K) (pe_ix (kIx K) (pv 3) (pv 7) (fun _ _ => rfl)) (pv 8)) pa_nil))))
      (pss_one (ps_if (pt_cmpR g_is (pv 9) pe_non (nomark _)) (pss_one (ps_set (i := 4) sc_l_judged.nd rfl (Or.inl rfl) (pv 6))) (pss_one (ps_asg (pv 9) (pg_sub (pv 3) (pv 6) set_list)))))))))
      (pss_cons (ps_if (PW.pt (pw_or (pt_not (pt_val (pe_fn c_l_same hr (by decide) pass0 (pa_cons (pe_ix (kIx K) (pv 0) pe_int (fun _ _ => rfl)) (pa_cons (pv 3) pa_nil))))) (pw_or1 (pt_not (pt_val (pe_fn c_l_same hr (by decide) pass0 (pa_cons (pe_ix (kIx K) (pv 0) pe_int (fun _ _ => rfl)) (pa_cons (pv 4) pa_nil)))))))) (pss_one (ps_ret pe_bl)) pss_nil)
      (pss_one (ps_ret (pe_or (pe_cmpR g_isnot (pv 4) pe_non (nomark _)) (pe_one (pe_fn c_l_keeps hr (by decide) pass0 (pa_cons (pv 3) (pa_cons (pv 2) pa_nil)))))))))))), ?_⟩
  rw [st_l_judged]
  obtain ⟨t, p1, p2, p0, ks, L, past, S, B, H, L0, rfl, st, o1, o2, hS, hB, rfl, rd, td, la, ne, hH, lB, k⟩ := h
  obtain ⟨pa, va, rfl, sa, ra⟩ := hS.list_inv
  obtain ⟨pb, vb, rfl, sb, rb⟩ := hB.list_inv
  have lva := ra.length
  rw [List.length_map] at lva
  have lb := rb.length
  rw [List.length_map, List.length_map] at lb
  have lL0 : (L0.map V.int).length ≤ 9 := by rw [List.length_map, ne.l]; exact hH
  wtm_at "gs"
  refine ite_d (fun c => absurd rfl c) (fun _ => ?_)
  wtm_at "gs"
  refine ⟨p2, ks, B, rfl, .inr o2, hB, rfold_lt td.r, fun v1 e1 => ?_⟩
  have o11 := o1.ext e1 fun z => z
  have o21 := o2.ext e1 fun z => z
  have rd1 := rd.go e1 fun z => z
  have st1 := st_go e1 st
  have sa1 := st_go e1 sa
  have ra1 := ra.go e1
  have sb1 := st_go e1 sb
  have rb1 := rb.go e1
  have hB1 := hB.go e1
  clear o1 o2 rd st sa ra sb rb hB hS
  wtm_at "go"
  refine s_listO (.inl (SqL.of rd1.h)) fun D v2 e2 n2 o3 => ?_
  have o12 := o11.ext e2 fun z => z
  have o22 := o21.ext e2 fun z => z
  have st2 := st_go e2 st1
  have sa2 := st_go e2 sa1
  have ra2 := ra1.go e2
  have sb2 := st_go e2 sb1
  have rb2 := rb1.go e2
  have hB2 := hB1.go e2
  have e12 := e1.trans e2
  have wD : w.H D = none := e1.back n2
  have hD1 : p1 ≠ D := o11.ne n2
  have hD2 : p2 ≠ D := o21.ne n2
  clear e1 e2 o11 o21 rd1 st1 sa1 ra1 sb1 rb1 hB1
  wtm_at "gs"
  refine forW (ww_list (xs := ks.map fun (k : Nat) => V.int (k : Int))) (fun i σ u => Ext (One D) v2 u ∧ ∃ (pst : Option Nat) (g5 g6 g7 g8 g9 : Option V) (M : List Int), σ = [some (.ref t), some (.ref pa), some (.ref pb), some (.ref D), some (pastV pst), g5, g6, g7, g8, g9] ∧ Own u D (.lst (M.map V.int)) ∧ M.length = H.length ∧ ((pst = none ∧ rfold S B (ks.drop i) M = some (L, past)) ∨ (ks.length ≤ i ∧ pst = past ∧ M = L))) ⟨Ext.refl _ _, none, _, _, _, _, _, L0, rfl, o3, ne.l, .inl ⟨rfl, td.r⟩⟩ (fun i σ u _ hh => SqL.of (o22.ext hh.1 hD2).h) ?_ ?_
  · rintro i xv σ _ u hi ⟨eu, pst, g5, g6, g7, g8, g9, M, rfl, oD, hM, hc⟩ ⟨rfl, hx⟩
    rw [List.length_map] at hi
    rcases hc with ⟨rfl, hr⟩ | ⟨h1, -, -⟩
    · obtain ⟨kn, hkn⟩ : ∃ k, ks[i]? = some k := ⟨_, List.getElem?_eq_getElem hi⟩
      rw [List.getElem?_map, hkn] at hx
      cases hx
      rw [drop_at hkn] at hr
      have hlt := rfold_lt hr kn List.mem_cons_self
      have hr : (match stp S B kn M with | .bad => none | .up j y => rfold S B (ks.drop (i + 1)) (M.set j y) | .out j => if ks.drop (i + 1) = [] then some (M, some j) else none) = some (L, past) := hr
      obtain ⟨b, hb⟩ : ∃ b, B[kn]? = some b := ⟨_, List.getElem?_eq_getElem hlt⟩
      have hbm := List.mem_of_getElem? hb
      obtain ⟨hj, he, -⟩ := la.b b hbm
      obtain ⟨l, hl⟩ : ∃ l, M[b.j]? = some l := ⟨_, List.getElem?_eq_getElem (by omega)⟩
      obtain ⟨x0, hx0⟩ : ∃ l, M[b.e]? = some l := ⟨_, List.getElem?_eq_getElem (by omega)⟩
      obtain ⟨A, hA⟩ : ∃ A, S[b.j]? = some A := ⟨_, List.getElem?_eq_getElem (by rw [la.l]; omega)⟩
      have hgd : S.getD b.j [] = A := by rw [List.getD_eq_getElem?_getD, hA]; rfl
      have lA := (la.s _ A _ hA (List.getElem?_eq_getElem hj)).1
      have hSl := la.l
      obtain ⟨y, hy, hyr⟩ := (ra2.go eu).get' (i := b.j) (d := spD A) (by rw [List.getElem?_map, hA]; rfl)
      have ay : atI va (b.j : Int) = some y := by rw [atI_nn (by omega) (by omega), show ((b.j : Nat) : Int).toNat = b.j by omega]; exact hy
      obtain ⟨tv, htv, htr⟩ := (rb2.go eu).get' (i := kn) (d := trD (bdT b)) (by rw [List.getElem?_map, List.getElem?_map, hb]; rfl)
      obtain ⟨tt, rfl, stt⟩ := tr_inv htr
      dsimp only [bdT] at stt
      have at1 : atI vb (kn : Int) = some (.ref tt) := by rw [atI_nn (by omega) (by omega), show ((kn : Nat) : Int).toNat = kn by omega]; exact htv
      have al : atI (M.map V.int) (b.j : Int) = some (.int l) := by
        rw [atI_nn (by omega) (by rw [List.length_map]; omega), show ((b.j : Nat) : Int).toNat = b.j by omega, List.getElem?_map, hl]
        rfl
      have ax : atI (M.map V.int) (b.e : Int) = some (.int x0) := by
        rw [atI_nn (by omega) (by rw [List.length_map]; omega), show ((b.e : Nat) : Int).toNat = b.e by omega, List.getElem?_map, hx0]
        rfl
      by_cases c : l < x0 + b.m
      · have sau := st_go eu sa2
        have sbu := st_go eu sb2
        dsimp only [pastV]
        wtm_at "gs"
        refine s_ixL sbu at1 ?_
        wtm_at "gs"
        refine s_ixO oD ax ?_
        wtm_at "gs"
        refine s_ixO oD al ?_
        wtm_at "gs"
        refine ite_d (fun c9 => absurd c9 (by omega)) (fun _ => ?_)
        wtm_at "gs"
        refine s_ixL sau ay ?_
        wtm_at "gs"
        refine s_ixO oD ax ?_
        wtm_at "gs"
        refine ⟨A, _, ls_of hyr, rfl, by omega, fun v6 e6 => ?_⟩
        have oD6 := oD.ext e6 fun z => z
        have eu6 : Ext (One D) v2 v6 := eu.step e6 fun _ z => z.elim
        clear e6 oD eu sau sbu
        cases hf : firstFrom A (x0 + b.m) with
        | none =>
          rw [stp_out hb hl hx0 c (by rw [hgd]; exact hf)] at hr
          have hr : (if ks.drop (i + 1) = [] then some (M, some b.j) else none) = some (L, past) := hr
          by_cases cd : ks.drop (i + 1) = []
          · rw [if_pos cd] at hr
            cases hr
            have hle := List.drop_eq_nil_iff.mp cd
            dsimp only [optV]
            wtm_at "gs"
            exact ⟨eu6, some b.j, _, _, _, _, _, L, rfl, oD6, hM, .inr ⟨hle, rfl, rfl⟩⟩
          · rw [if_neg cd] at hr
            cases hr
        | some y1 =>
          rw [stp_up hb hl hx0 c (by rw [hgd]; exact hf)] at hr
          have hr : rfold S B (ks.drop (i + 1)) (M.set b.j y1) = some (L, past) := hr
          dsimp only [optV]
          wtm_at "gs"
          refine s_setA (j := b.j) oD6 (by rw [List.length_map]; omega) fun v7 e7 o7 => ?_
          rw [← List.map_set] at o7
          wtm_at "gs"
          exact ⟨eu6.trans e7, none, _, _, _, _, _, M.set b.j y1, rfl, o7, by rw [List.length_set]; exact hM, .inl ⟨rfl, hr⟩⟩
      · rw [stp_bad hb hl hx0 c] at hr
        cases hr
    · omega
  · rintro σ u ⟨eu, pst, g5, g6, g7, g8, g9, M, rfl, oD, hM, hc⟩
    obtain ⟨rfl, rfl⟩ : pst = past ∧ M = L := by
      rcases hc with ⟨rfl, hr⟩ | ⟨-, h2, h3⟩
      · rw [List.length_map, List.drop_length] at hr
        cases hr
        exact ⟨rfl, rfl⟩
      · exact ⟨h2, h3⟩
    show tSeq _ _ _ _ _
    refine lay (R := fun H => tSeq _ _ _ _ H) oD fun v3 e3 sD => ?_
    have e23 : Ext (One D) v2 v3 := eu.trans e3
    have ew3 : Ext Non w v3 := e12.step e23 fun b hb => .inl (by rw [show b = D from hb]; exact wD)
    have o13 := o12.ext e23 hD1
    have st3 := st_go e23 st2
    have hB3 := hB2.go e23
    clear eu e3 oD e23 e12 o12 o22 st2 sa2 ra2 sb2 rb2 hB2
    wtm_at "gs"
    refine same_o (sm_ints (by omega)) o13 (ints_rpA M) (.lst sD (ints_rpA M)) fun v4 e4 => ?_
    have st4 := st_go e4 st3
    wtm_at "gs"
    refine same_s sm_past rp_past rp_past fun v5 e5 => ?_
    have ew5 := (ew3.trans e4).trans e5
    cases pst with
    | some j =>
      dsimp only [pastV]
      wtm_at "gs"
      exact k _ ew5
    | none =>
      dsimp only [pastV]
      wtm_at "gs"
      refine ⟨D, M, B, rfl, .inl (st_go e5 (st_go e4 sD)), (hB3.go e4).go e5, td.k rfl, fun b hb => ?_, fun v6 e6 => ?_⟩
      · obtain ⟨h1, h2, -⟩ := la.b b hb
        exact ⟨by omega, by omega⟩
      · exact k _ (ew5.trans e6)
theorem same_t {n : Nat} {w : Wd} {a : V} {t p : Addr} {vs : List V} {ds : List PyData} {y z : V} {dy dz : PyData} {Q : VK} {E : XK} (h : Sm n (.tuple [.list ds, dy, dz])) (ha : Rp w.S a (.tuple [.list ds, dy, dz])) (o : Own w p (.lst vs)) (rv : RpA w.S vs ds) (st : w.S t = some (.tup [.ref p, y, z])) (hy : Rp w.S y dy) (hz : Rp w.S z dz) (k : ∀ v, Ext Non w v → Q (.bl true) v.H) : p_l_same n w a (.ref t) Q E := by
  cases n with
  | zero => exact h
  | succ n =>
    obtain ⟨w', e1, e2, e3, e4⟩ := lend o
    refine ⟨w', e1, _, h, Rp.mono e3 _ _ ha, .tup (e3 _ _ st) (.cons (.lst e2 (RpA.mono e3 _ _ rv)) (.cons (Rp.mono e3 _ _ hy) (.cons (Rp.mono e3 _ _ hz) .nil))), fun v ev => ?_⟩
    obtain ⟨u, eu, ex⟩ := e4 v ev
    rw [← eu]
    exact k u ex
theorem sm_told {L : List Int} (h : L.length < 2 ^ 12) : Sm 6 (.tuple [.list (L.map PyData.int), .list [], .none]) := by
  refine ⟨fun d hd => ?_, by simp⟩
  simp only [List.mem_cons, List.not_mem_nil, or_false] at hd
  rcases hd with rfl | rfl | rfl
  · refine ⟨fun d hd => ?_, by rw [List.length_map]; exact h⟩
    obtain ⟨o, _, rfl⟩ := List.mem_map.mp hd
    trivial
  · exact ⟨fun d hd => (by cases hd), by simp⟩
  · trivial
theorem sm_ss {S : List (List (Int × Int))} (h : S.length < 2 ^ 12) (k : ∀ A ∈ S, A.length < 2 ^ 10) : Sm 6 (ssD S) := by
  refine ⟨fun d hd => ?_, by rw [List.length_map]; exact h⟩
  obtain ⟨A, hA, rfl⟩ := List.mem_map.mp hd
  refine ⟨fun d hd => ?_, by rw [List.length_map]; have := k A hA; omega⟩
  obtain ⟨q, _, rfl⟩ := List.mem_map.mp hd
  refine ⟨fun d hd => ?_, by simp⟩
  simp only [List.mem_cons, List.not_mem_nil, or_false] at hd
  rcases hd with rfl | rfl <;> trivial
theorem sm_bs {B : List (Int × Int × Int)} (h : B.length < 2 ^ 12) : Sm 6 (bsD B) := by
  refine ⟨fun d hd => ?_, by rw [List.length_map]; exact h⟩
  obtain ⟨q, _, rfl⟩ := List.mem_map.mp hd
  refine ⟨fun d hd => ?_, by simp⟩
  simp only [List.mem_cons, List.not_mem_nil, or_false] at hd
  rcases hd with rfl | rfl | rfl <;> trivial
theorem raised_lay {C : Addr} {w : Wd} {a b : V} {Q : VK} {E : XK} (h : ∃ S Bs H p L0, Fr C w.S a S (Bs.map bdT) ∧ b = .ref p ∧ Rd w p (.lst (L0.map V.int)) ∧ Lain H S Bs ∧ Near H L0 ∧ H.length ≤ 9 ∧ Bs.length < 2 ^ 10 ∧
  ∀ v t (ks : List Nat) L past, Ext Non w v → Rp v.S t (.tuple [.list (L.map PyData.int), .list (ks.map fun (k : Nat) => PyData.int (k : Int)), pastD past]) → Told S Bs H L0 ks L past → Q t v.H) : p_raised C w a b Q E := by
  obtain ⟨S, Bs, H, p, L0, hF, rfl, rd, la, ne, hH, hB, k⟩ := h
  refine ⟨S, Bs, H, p, L0, hF, rfl, rd, la, ne, hH, hB, fun v t p1 p2 ks L past e st n1 n2 hne o1 o2 td => ?_⟩
  refine lay (R := Q (.ref t)) o1 fun v1 e1 s1 => ?_
  refine lay (R := Q (.ref t)) (o2.ext e1 hne.symm) fun v2 e2 s2 => ?_
  have e02 : Ext Non w v2 := (e.step e1 fun b hb => .inl (by rw [show b = p1 from hb]; exact n1)).step e2 fun b hb => .inl (by rw [show b = p2 from hb]; exact n2)
  refine k v2 (.ref t) ks L past e02 (.tup (st_go e2 (st_go e1 st)) (.cons (.lst (st_go e2 s1) (ints_rpA L)) (.cons (.lst s2 ?_) (.cons rp_past .nil)))) td
  have : ∀ ks : List Nat, RpA v2.S (ks.map fun (k : Nat) => V.int (k : Int)) (ks.map fun (k : Nat) => PyData.int (k : Int)) := fun ks => by
    induction ks with
    | nil => exact .nil
    | cons k ks ih => exact .cons (.int _) ih
  exact this ks
/-! law -/
abbrev s_law : Stmt := top 19
abbrev nm_law : List Str := ["_law_script", "_law_head", "_law_far", "_law_size", "_law_k", "_law_heights", "_law_spans_here", "_law_bonds", "_law_lows", "_law_frame", "_law_handed", "_law_found", "_law_again", "_law_one"]
theorem sc_law : FnScope nm_law ["_law_script"] (defScope s_law) := ⟨rfl, rfl, rfl, by decide +kernel, rfl, by decide +kernel, by decide +kernel⟩
theorem st_law (a : V) : start nm_law [a] = [some a, none, none, none, none, none, none, none, none, none, none, none, none, none] := rfl
def p_law (K : PySem.W.Frag) (w : Wd) (a : V) (Q : VK) (_ : XK) : Prop := Scr K w a ∧ ∀ v, Ext Non w v → Q (.bl true) v.H
theorem ok_law {f : Addr} {fd : FuncData} {C_Frame : Addr} (F : Fun K "law" "law" s_law f fd) (T : Txt K mg C_Frame) (c_Frame_bonds : Mth P ww K mg base CX0 C_Frame 1 "bonds" (pr1 (p_Frame_bonds C_Frame))) (c_Frame_init : Mkr P ww K mg base CX0 C_Frame 1 (pr3 (p_Frame_init C_Frame))) (c_Frame_spans : Mth P ww K mg base CX0 C_Frame 1 "spans" (pr1 (p_Frame_spans C_Frame))) (c_l_bond : Fnc P ww K mg base CX0 2 "_law_bond" (pr2 (p_l_bond))) (c_l_judged : Fnc P ww K mg base CX0 7 "_law_judged" (pr4 (p_l_judged))) (c_l_low : Fnc P ww K mg base CX0 2 "_law_low" (pr2 (p_l_low))) (c_l_pool : Fnc P ww K mg base CX0 1 "_law_pool" (pr2 (p_l_pool K))) (c_l_same : Fnc P ww K mg base CX0 6 "_law_same" (pr2 (p_l_same 6))) (c_l_spans : Fnc P ww K mg base CX0 2 "_law_spans" (pr2 (p_l_spans))) (c_l_take : Fnc P ww K mg base CX0 1 "_law_take" (pr2 (p_l_take))) (c_raised : Fnc P ww K mg base CX0 3 "raised" (pr2 (p_raised C_Frame))) : FnOk P ww K mg base CX0 8 f fd ["_law_script"] (pr1 (p_law K)) := by
  refine F.ok sc_law (fun vs H Q E h => len1 h) (fun cdv A outer s H vs Q E hr h => ?_)
  obtain ⟨w, x0,  rfl, rfl, h⟩ := h
  have cl_Frame := T.cl_Frame
  have na_Frame_sets := T.na_Frame_sets
  have na_Frame_ties := T.na_Frame_ties
  refine ⟨_, (pss_cons (ps_set (i := 1) sc_law.nd rfl (Or.inr rfl) (pe_fn c_l_pool hr (by decide) pass0 (pa_cons (pv 0) (pa_cons pe_int pa_nil))))
      (pss_cons (ps_set (i := 2) sc_law.nd rfl (Or.inr rfl) (pe_ix (kIx K) (pe_lst (pa_cons pe_int (pa_cons pe_int (pa_cons pe_int (pa_cons (pe_op g_pow pe_int pe_int) pa_nil))))) (pe_fn c_l_take hr (by decide) pass0 (pa_cons (pv 1) (pa_cons pe_int pa_nil))) (fun _ _ => rfl)))
      (pss_cons (ps_set (i := 3) sc_law.nd rfl (Or.inl rfl) (pe_fn c_l_take hr (by decide) pass0 (pa_cons (pv 1) (pa_cons pe_int pa_nil))))
      (pss_cons (ps_set (i := 5) sc_law.nd rfl (Or.inr rfl) (pe_lc (own := [("_law_k", 4)]) (g := (gName 4)) (tt := tYes) (by rfl) sc_law.nd (pi_range1 rfl T.n_range (pa_cons (pv 3) pa_nil)) (blkOk_by (own := [("_law_k", 4)]) (N := nm_law) (sc := defScope s_law) (by decide +kernel)) (fun _ _ _ _ _ => (pg_name (i := 4) sc_law.nd rfl (Or.inl rfl))) (fun _ _ _ _ _ => pts_nil) (fun _ _ _ _ _ => (pe_op (kMul K) (pe_op g_sub (pe_fn c_l_take hr (by decide) pass0 (pa_cons (pv 1) (pa_cons pe_int pa_nil))) pe_int) (pv 2)))))
      (pss_cons (ps_setLc (i := 6) (own := [("_law_k", 4)]) (g := (gName 4)) (tt := tYes) (by rfl) sc_law.nd rfl rfl (sw_true rfl rfl rfl (by decide +kernel)) (pi_range1 rfl T.n_range (pa_cons (pv 3) pa_nil)) (blkOk_by (own := [("_law_k", 4)]) (N := nm_law) (sc := defScope s_law) (by decide +kernel)) (fun _ _ _ _ _ => (pg_name (i := 4) sc_law.nd rfl (Or.inl rfl))) (fun _ _ _ _ _ => pts_nil) (fun _ _ _ _ _ => (pe_fn c_l_spans hr (by decide) pass0 (pa_cons (pe_fn c_l_pool hr (by decide) pass0 (pa_cons (pv 0) (pa_cons (pe_op (kAdd K) pe_int (pv 4)) pa_nil))) (pa_cons (pe_ix (kIx K) (pv 5) (pv 4) (fun _ _ => rfl)) pa_nil)))))
      (pss_cons (ps_set (i := 7) sc_law.nd rfl (Or.inl rfl) (pe_lst pa_nil))
      (pss_cons (ps_if (pt_cmpR g_gt (pv 3) pe_int (nomark _)) (pss_one (ps_for PassesOwn.never rfl (pi_range1 rfl T.n_range (pa_cons (pe_callB (kMin K rfl) (by rfl) T.n_min (by decide +kernel) (pa_cons pe_int (pa_cons (pe_callB (kMax K rfl) (by rfl) T.n_max (by decide +kernel) (pa_cons (pe_fn c_l_take hr (by decide) pass0 (pa_cons (pv 1) (pa_cons pe_int pa_nil))) (pa_cons (pe_op g_sub (pe_op g_sub (pe_callB (kLen K) (by rfl) T.n_len (by decide +kernel) (pa_cons (pv 0) pa_nil)) pe_int) (pv 3)) pa_nil))) pa_nil))) pa_nil)) (pg_name (i := 4) sc_law.nd rfl (Or.inl rfl)) (pss_one (ps_expr (pe_bm PySem.F.plainAttrs_list PySem.F.slot_list_append PySem.F.type_list_append mt_append (pv 7) (pa_cons (pe_fn c_l_bond hr (by decide) pass0 (pa_cons (pe_fn c_l_pool hr (by decide) pass0 (pa_cons (pv 0) (pa_cons (pe_op (kAdd K) (pe_op (kAdd K) pe_int (pv 3)) (pv 4)) pa_nil))) (pa_cons (pv 5) pa_nil))) pa_nil)))))) pss_nil)
      (pss_cons (ps_setLc (i := 8) (own := [("_law_one", 13)]) (g := (gName 13)) (tt := tYes) (by rfl) sc_law.nd rfl rfl (sw_true rfl rfl rfl (by decide +kernel)) (kpList K (pv 6)) (blkOk_by (own := [("_law_one", 13)]) (N := nm_law) (sc := defScope s_law) (by decide +kernel)) (fun _ _ _ _ _ => (pg_name (i := 13) sc_law.nd rfl (Or.inl rfl))) (fun _ _ _ _ _ => pts_nil) (fun _ _ _ _ _ => (pe_ix (kIx K) (pe_ix (kIx K) (pv 13) pe_int (fun _ _ => rfl)) pe_int (fun _ _ => rfl))))
      (pss_cons (ps_if (pt_cmpR (kEq K hr.units) (pe_fn c_l_take hr (by decide) pass0 (pa_cons (pv 1) (pa_cons pe_int pa_nil))) pe_int (nomark _)) (pss_one (ps_setLc (i := 8) (own := [("_law_one", 13)]) (g := (gName 13)) (tt := tYes) (by rfl) sc_law.nd rfl rfl (sw_true rfl rfl rfl (by decide +kernel)) (kpList K (pv 6)) (blkOk_by (own := [("_law_one", 13)]) (N := nm_law) (sc := defScope s_law) (by decide +kernel)) (fun _ _ _ _ _ => (pg_name (i := 13) sc_law.nd rfl (Or.inl rfl))) (fun _ _ _ _ _ => pts_nil) (fun _ _ _ _ _ => (pe_fn c_l_low hr (by decide) pass0 (pa_cons (pv 1) (pa_cons (pv 13) pa_nil)))))) pss_nil)
      (pss_cons (ps_set (i := 9) sc_law.nd rfl (Or.inl rfl) (pe_mk c_Frame_init hr (by decide) T.g_Frame pass0 (pa_cons (pe_lc (own := [("_law_one", 13)]) (g := (gName 13)) (tt := tYes) (by rfl) sc_law.nd (kpList K (pv 6)) (blkOk_by (own := [("_law_one", 13)]) (N := nm_law) (sc := defScope s_law) (by decide +kernel)) (fun _ _ _ _ _ => (pg_name (i := 13) sc_law.nd rfl (Or.inl rfl))) (fun _ _ _ _ _ => pts_nil) (fun _ _ _ _ _ => (pe_callTy (kList K) (by rfl) T.n_list (by decide +kernel) (pa_cons (pv 13) pa_nil)))) (pa_cons (pe_callTy (kList K) (by rfl) T.n_list (by decide +kernel) (pa_cons (pv 7) pa_nil)) pa_nil))))
      (pss_cons (ps_set (i := 10) sc_law.nd rfl (Or.inl rfl) (pe_callTy (kList K) (by rfl) T.n_list (by decide +kernel) (pa_cons (pv 8) pa_nil)))
      (pss_cons (ps_set (i := 11) sc_law.nd rfl (Or.inl rfl) (pe_fn c_raised hr (by decide) pass0 (pa_cons (pv 9) (pa_cons (pv 10) pa_nil))))
      (pss_cons (ps_if (PW.pt (pw_or (pt_cmpR (kNe K hr.units) (pv 10) (pv 8) (nomark _)) (pw_or1 (pt_not (pt_val (pe_fn c_l_judged hr (by decide) pass0 (pa_cons (pv 11) (pa_cons (pv 6) (pa_cons (pv 7) (pa_cons (pv 8) pa_nil)))))))))) (pss_one (ps_ret pe_bl)) pss_nil)
      (pss_cons (ps_if (pt_cmpR g_is (pe_ix (kIx K) (pv 11) pe_int (fun _ _ => rfl)) pe_non (nomark _)) (pss_cons (ps_set (i := 12) sc_law.nd rfl (Or.inl rfl) (pe_fn c_raised hr (by decide) pass0 (pa_cons (pv 9) (pa_cons (pe_callTy (kList K) (by rfl) T.n_list (by decide +kernel) (pa_cons (pe_ix (kIx K) (pv 11) pe_int (fun _ _ => rfl)) pa_nil)) pa_nil))))
      (pss_one (ps_if (pt_not (pt_val (pe_fn c_l_same hr (by decide) pass0 (pa_cons (pv 12) (pa_cons (pe_tup (pa_cons (pe_ix (kIx K) (pv 11) pe_int (fun _ _ => rfl)) (pa_cons (pe_lst pa_nil) (pa_cons pe_non pa_nil)))) pa_nil))))) (pss_one (ps_ret pe_bl)) pss_nil))) pss_nil)
      (pss_cons (ps_expr (pe_bm PySem.F.plainAttrs_list PySem.F.slot_list_append PySem.F.type_list_append mt_append (pe_ix (kIx K) (pv 11) pe_int (fun _ _ => rfl)) (pa_cons pe_int pa_nil)))
      (pss_cons (ps_expr (pe_bm PySem.F.plainAttrs_list PySem.F.slot_list_append PySem.F.type_list_append mt_append (pe_ix (kIx K) (pv 11) pe_int (fun _ _ => rfl)) (pa_cons pe_int pa_nil)))
      (pss_cons (ps_expr (pe_bm0 PySem.F.plainAttrs_list PySem.F.slot_list_clear PySem.F.type_list_clear mt_clear (pv 10)))
      (pss_cons (ps_set (i := 12) sc_law.nd rfl (Or.inl rfl) (pe_fn c_raised hr (by decide) pass0 (pa_cons (pv 9) (pa_cons (pv 8) pa_nil))))
      (pss_cons (ps_if (pt_not (pt_val (pe_fn c_l_judged hr (by decide) pass0 (pa_cons (pv 12) (pa_cons (pv 6) (pa_cons (pv 7) (pa_cons (pv 8) pa_nil))))))) (pss_one (ps_ret pe_bl)) pss_nil)
      (pss_one (ps_ret (pe_and (pe_fn c_l_same hr (by decide) pass0 (pa_cons (pe_mth0 c_Frame_spans T.cl_Frame hr (by decide) pass0 (pv 9)) (pa_cons (pv 6) pa_nil))) (pe_one (pe_fn c_l_same hr (by decide) pass0 (pa_cons (pe_mth0 c_Frame_bonds T.cl_Frame hr (by decide) pass0 (pv 9)) (pa_cons (pv 7) pa_nil)))))))))))))))))))))))))), ?_⟩
  rw [st_law]
  obtain ⟨sc, k⟩ := h
  have sc0 := sc
  obtain ⟨a, ns, rfl, hs, hl⟩ := sc
  wtm_at "gs"
  refine ⟨0, sc0, rfl, by decide, fun v1 p e1 n1 pu1 => ?_⟩
  wtm_at "gs"
  wtm_at "ixm"
  intro v hv hm
  simp only [List.mem_cons, List.not_mem_nil, or_false] at hm
  obtain ⟨far, rfl⟩ : ∃ n : Int, v = .int n := by rcases hm with rfl | rfl | rfl | rfl <;> exact ⟨_, rfl⟩
  clear hm hv
  wtm_at "gs"
  rename_i v2 d2 e2 pu2 h20 h21
  obtain ⟨size, rfl⟩ := Int.eq_ofNat_of_zero_le h20
  have hsz : size ≤ 8 := by omega
  have e02 : Ext (One p) w v2 := by wtm_at "ch"
  have ew2 : Ext Non w v2 := e02.more fun b hb => .inl (by rw [show b = p from hb]; exact n1)
  have sc2 : Scr K v2 (.ref a) := by wtm_at "scr"
  clear e1 e2 e02 pu1 sc0
  intro D hD
  have hDp : D ≠ p := pool_new hD pu2
  have hpD : p ≠ D := hDp.symm
  refine lc_X (α := Int) ww_range (P := fun _ _ => True) (gd := PyData.int) (One p) (fun u => Pool u p) hD hDp (by rw [sizeLine_eq]; omega) (fun u e => pu2.go e (fun z => z)) (fun u v h e => h.go e hpD) (fun _ _ _ _ _ h => h.1) (fun _ _ _ => trivial) ?_ ?_
  · rintro i x v hi ⟨-, rfl⟩ e pv R Z hR
    wtm_at "gs"
    refine ⟨rfl, s_yes (ite_tt ?_)⟩
    wtm_at "gs"
    exact hR _ _ _ (by wtm_at "ch") (by wtm_at "pool") trivial (.int _)
  intro v3 acc H e3 pv3 hD' oD ra lH hH0
  obtain rfl := RpA.ints_inv ra
  show gName 5 _ _ _ _
  refine lay (R := fun H => gName 5 (V.ref D) _ H _) oD fun v4 e4 sH => ?_
  have lH : H.length = size := by omega
  have pu4 : Pool v4 p := pv3.go e4 hpD
  have e24 : Ext (One p) v2 v4 := e3.step e4 fun b hb => .inl (by rw [show b = D from hb]; exact hD)
  have ew4 : Ext Non w v4 := ew2.step e24 fun b hb => .inl (by rw [show b = p from hb]; exact n1)
  have sc4 : Scr K v4 (.ref a) := sc2.go e24
  have hatH : ∀ i : Nat, i < size → atI (H.map V.int) (0 + (i : Int)) = some (.int (H.getD i 0)) := fun i hi => by
    rw [atI_nn (by omega) (by rw [List.length_map]; omega), show (0 + (i : Int)).toNat = i by omega, List.getElem?_map, List.getD_eq_getElem?_getD, List.getElem?_eq_getElem (show i < H.length by omega)]
    rfl
  have getH : ∀ (i : Nat) h, H[i]? = some h → H.getD i 0 = h := fun i h e => by rw [List.getD_eq_getElem?_getD, e]; rfl
  clear e3 pv3 oD ra e4 e24 sc2 ew2 pu2
  wtm_at "gs"
  intro D2 hD2
  have hD2p : D2 ≠ p := pool_new hD2 pu4
  have hpD2 : p ≠ D2 := hD2p.symm
  refine lc_X (α := List (Int × Int)) ww_range (P := fun i d => 1 ≤ d.length ∧ d.length ≤ 8 ∧ ∀ q ∈ d, H.getD i 0 - 30 ≤ q.1 ∧ q.1 ≤ H.getD i 0 + 190 ∧ q.1 ≤ q.2) (gd := spD) Non (fun u => True) hD2 (fun z => z) (by rw [sizeLine_eq]; omega) (fun u e => trivial) (fun u v h e => trivial) (fun _ _ _ _ _ h => h.1) (fun _ _ _ => trivial) ?_ ?_
  · rintro i x v hi ⟨-, rfl⟩ e - R Z hR
    have hi : i < size := hi
    have scv : Scr K v (.ref a) := sc4.go e
    have sv := st_go e sH
    wtm_at "gs"
    refine ⟨rfl, s_yes (ite_tt ?_)⟩
    wtm_at "gs"
    refine ⟨_, scv, rfl, by omega, fun v6 p6 e6 n6 pu6 => ?_⟩
    wtm_at "gs"
    refine s_ixL (st_go e6 sv) (hatH i hi) ?_
    wtm_at "gs"
    refine ⟨p6, _, rfl, rfl, pu6, fun v7 r rows e7 pu7 hr h1 h8 hb => ?_⟩
    exact hR _ _ rows (e6.step e7 fun b hb => .inl (by rw [show b = p6 from hb]; exact n6)) trivial ⟨h1, h8, hb⟩ hr
  intro v5 acc S e5 _ hD2' oD2 ra2 lS hS0
  show gName 6 _ _ _ _
  refine lay (R := fun H => gName 6 (V.ref D2) _ H _) oD2 fun v6 e6 sS => ?_
  have lS : S.length = size := by omega
  have e46 : Ext Non v4 v6 := e5.step e6 fun b hb => .inl (by rw [show b = D2 from hb]; exact hD2)
  have pu6 : Pool v6 p := pu4.go e46 fun z => z
  have ew6 := ew4.trans e46
  have sc6 := sc4.go e46
  have sH6 := st_go e46 sH
  have rS6 := ra2.go e6
  have lacc := rS6.length
  rw [List.length_map] at lacc
  clear e5 e6 e46 oD2 ra2 sc4 ew4 pu4 sH
  wtm_at "goi"
  rename_i L v7 e7 n7 o7
  have hLp : L ≠ p := pool_new n7 pu6
  have pu7 : Pool v7 p := pu6.go e7 fun z => z
  have sc7 : Scr K v7 (.ref a) := sc6.go e7
  have s7 := st_go e7 sH6
  have ew7 := ew6.trans e7
  have wL := ew6.back n7
  have sS7 := st_go e7 sS
  have rS7 := rS6.go e7
  clear e7 pu6 sc6 sH6 ew6 rS6 sS
  refine s_ifJ (fun σ u => Ext (Two p L) v7 u ∧ Pool u p ∧ ∃ (g4 : Option V) (us : List V) (B : List Bd), σ = [some (.ref a), some (.ref p), some (.int far), some (.int (size : Int)), g4, some (.ref D), some (.ref D2), some (.ref L), none, none, none, none, none, none] ∧ Own u L (.lst us) ∧ RpA u.S us ((B.map bdT).map trD) ∧ (∀ b ∈ B, b.j < H.length ∧ b.e < H.length ∧ ∀ hj he, H[b.j]? = some hj → H[b.e]? = some he → b.m ≤ hj - he) ∧ B.length ≤ 62) (fun Z hZ => ?_) ?_
  · wtm_at "go"
    refine ite_d (fun c => ?_) (fun c => ?_)
    · wtm_at "go"
      rename_i u1 d1 f1 pv1 g10 g11
      have hn62 : (min 62 (max d1 ((ns.length : Int) - 1 - size))).toNat ≤ 62 := by omega
      generalize (min 62 (max d1 ((ns.length : Int) - 1 - size))).toNat = many at hn62
      refine forW (ww_range (lo := 0) (m := many)) (fun i σ u => Ext (Two p L) v7 u ∧ Pool u p ∧ ∃ (g4 : Option V) (us : List V) (B : List Bd), σ = [some (.ref a), some (.ref p), some (.int far), some (.int (size : Int)), g4, some (.ref D), some (.ref D2), some (.ref L), none, none, none, none, none, none] ∧ Own u L (.lst us) ∧ RpA u.S us ((B.map bdT).map trD) ∧ (∀ b ∈ B, b.j < H.length ∧ b.e < H.length ∧ ∀ hj he, H[b.j]? = some hj → H[b.e]? = some he → b.m ≤ hj - he) ∧ B.length = i) ⟨f1.more fun b hb => .inr (.inl hb), pv1, _, [], [], rfl, o7.ext f1 hLp, .nil, (fun _ h => by cases h), rfl⟩ (fun _ _ _ _ _ => trivial) ?_ ?_
      · rintro i xv σ _ u hi ⟨eu, pu, g4, us, B, rfl, ou, ru, hE, hB⟩ ⟨rfl, rfl⟩
        have lu := ru.length
        rw [List.length_map, List.length_map] at lu
        have su := st_go eu s7
        have scu : Scr K u (.ref a) := sc7.go eu
        wtm_at "go"
        refine ⟨_, scu, rfl, by omega, fun v2 p2 e2 n2 pu2 => ?_⟩
        wtm_at "go"
        refine ⟨p2, D, H, rfl, rfl, pu2, st_go e2 su, by omega, by omega, fun v3 t bd e3 hr hj he hmm => ?_⟩
        have hLp2 : L ≠ p2 := ou.ne n2
        have hpp2 : p ≠ p2 := pool_new' n2 pu
        have o3 : Own v3 L (.lst us) := (ou.ext e2 fun z => z).ext e3 hLp2
        have pu33 : Pool v3 p := (pu.go e2 fun z => z).go e3 hpp2
        have e23 : Ext Non u v3 := e2.step e3 fun b hb => .inl (by rw [show b = p2 from hb]; exact n2)
        have ru3 := ru.go e23
        have eu3 : Ext (Two p L) v7 v3 := eu.step e23 fun _ z => z.elim
        clear e2 e3 e23 ru pu2 ou su scu eu pu
        wtm_at "go"
        rename_i v4 e4 o4
        refine ⟨eu3.step e4 fun b hb => .inr (.inr hb), pu33.go e4 hLp.symm, _, _, B ++ [bd], rfl, o4, ?_, fun b hb => ?_, by simp [hB]⟩
        · rw [List.map_append, List.map_append]
          exact RpA.append (ru3.go e4) (.one (hr.go e4))
        · rcases List.mem_append.mp hb with h | h
          · exact hE b h
          · rw [List.mem_singleton.mp h]
            exact ⟨hj, he, hmm⟩
      · rintro σ u ⟨eu, pu, g4, us, B, rfl, ou, ru, hE, hB⟩
        exact hZ _ _ ⟨eu, pu, _, us, B, rfl, ou, ru, hE, by omega⟩
    · wtm_at "go"
      exact hZ _ _ ⟨Ext.refl _ _, pu7, _, [], [], rfl, o7, .nil, (fun _ h => by cases h), by simp⟩
  rintro σ u8 ⟨e8, pu8, g4, us, B, rfl, o8, r8, hBw, hB62⟩
  have ew8 : Ext Non w u8 := ew7.step e8 fun b hb => .inl (by rcases hb with hb | hb; (rw [hb]; exact n1); (rw [hb]; exact wL))
  have s8 := st_go e8 s7
  have sS8 := st_go e8 sS7
  have rS8 := rS7.go e8
  clear e8 s7 sS7 rS7 ew7 sc7 pu7 o7
  show tSeq _ _ _ _ _
  refine lay (R := fun H => tSeq _ _ _ _ H) o8 fun v9 f9 sB => ?_
  have pu9 : Pool v9 p := pu8.go f9 hLp.symm
  have ew9 : Ext Non w v9 := ew8.step f9 fun b hb => .inl (by rw [show b = L from hb]; exact wL)
  have rB9 := r8.go f9
  have sS9 := st_go f9 sS8
  have rS9 := rS8.go f9
  have lB9 := rB9.length
  rw [List.length_map, List.length_map] at lB9
  clear f9 pu8 o8 r8 ew8 s8 sS8 rS8
  have la : Lain H S B := ⟨by omega, hBw, fun i A h h1 h2 => by
    obtain ⟨g1, g2, g3⟩ := hS0 i A h1
    rw [getH i h h2] at g3
    exact ⟨by omega, fun q hq => by have := g3 q hq; omega⟩⟩
  wtm_at "gs"
  intro D3 hD3
  refine lc_X (α := Int) (ww_list (xs := acc)) (P := fun i n => H.getD i 0 - 30 ≤ n ∧ n ≤ H.getD i 0 + 200) (gd := PyData.int) Non (fun u => True) hD3 (fun z => z) (by rw [sizeLine_eq]; omega) (fun u e => trivial) (fun u v h e => trivial) (fun _ _ _ _ _ h => h.1) (fun u e _ => sql_of (st_go e sS9)) ?_ ?_
  · rintro i x v hi ⟨-, hx⟩ e - R Z hR
    obtain ⟨A, hA⟩ : ∃ A, S[i]? = some A := ⟨_, List.getElem?_eq_getElem (by omega)⟩
    obtain ⟨h1, h8, hb⟩ := hS0 i A hA
    obtain ⟨y, hy, hyr⟩ := rS9.get' (i := i) (d := spD A) (by rw [List.getElem?_map, hA]; rfl)
    rw [hx] at hy
    cases hy
    obtain ⟨t, vt, rfl, st, rt⟩ := (hyr.go e).list_inv
    cases A with
    | nil => simp at h1
    | cons q r =>
      have hq := hb q List.mem_cons_self
      cases rt with
      | cons rt1 rt2 =>
        obtain ⟨tt, rfl, stt⟩ := pr_inv rt1
        wtm_at "gs"
        refine ⟨rfl, s_yes (ite_tt ?_)⟩
        wtm_at "gs"
        refine s_ixL st atI_0 ?_
        wtm_at "gs"
        exact hR _ _ _ (by wtm_at "ch") trivial ⟨by omega, by omega⟩ (.int _)
  intro v10 accl L0 e10 _ hD3' oD3 ra3 lL0 hL0
  obtain rfl := RpA.ints_inv ra3
  show gName 8 _ _ _ _
  refine lay (R := fun H => gName 8 (V.ref D3) _ H _) oD3 fun v11 e11 sL0 => ?_
  have e911 : Ext Non v9 v11 := e10.step e11 fun b hb => .inl (by rw [show b = D3 from hb]; exact hD3)
  have pu11 : Pool v11 p := pu9.go e911 fun z => z
  have ew11 := ew9.trans e911
  have sB11 := st_go e911 sB
  have rB11 := rB9.go e911
  have sS11 := st_go e911 sS9
  have rS11 := rS9.go e911
  have ne0 : Near H L0 := ⟨by omega, fun i h l g1 g2 => by have := hL0 i l g2; rw [getH i h g1] at this; exact this⟩
  clear e10 e11 e911 oD3 ra3 pu9 ew9 sB rB9 sS9 rS9
  wtm_at "goi"
  refine s_ifJ (fun σ u => Ext (One p) v11 u ∧ Pool u p ∧ ∃ (D4 : Addr) (L1 : List Int), σ = [some (.ref a), some (.ref p), some (.int far), some (.int (size : Int)), g4, some (.ref D), some (.ref D2), some (.ref L), some (.ref D4), none, none, none, none, none] ∧ u.S D4 = some (.lst (L1.map V.int)) ∧ Near H L1) (fun Z hZ => ?_) ?_
  · wtm_at "go"
    refine ite_d (fun c => ?_) (fun c => ?_)
    · wtm_at "go"
      rename_i u1 d1 f1 pv1 g10 g11
      intro D4 hD4
      have hD4p : D4 ≠ p := pool_new hD4 pv1
      have hpD4 : p ≠ D4 := hD4p.symm
      have sS1 := st_go f1 sS11
      have rS1 := rS11.go f1
      refine lc_X (α := Int) (ww_list (xs := acc)) (P := fun i n => H.getD i 0 - 30 ≤ n ∧ n ≤ H.getD i 0 + 200) (gd := PyData.int) (One p) (fun u => Pool u p) hD4 hD4p (by rw [sizeLine_eq]; omega) (fun u e => pv1.go e (fun z => z)) (fun u v h e => h.go e hpD4) (fun _ _ _ _ _ h => h.1) (fun u e _ => sql_of (st_go e sS1)) ?_ ?_
      · rintro i x v hi ⟨-, hx⟩ e pv R Z hR
        obtain ⟨A, hA⟩ : ∃ A, S[i]? = some A := ⟨_, List.getElem?_eq_getElem (by omega)⟩
        obtain ⟨h1, h8, hb⟩ := hS0 i A hA
        obtain ⟨y, hy, hyr⟩ := rS1.get' (i := i) (d := spD A) (by rw [List.getElem?_map, hA]; rfl)
        rw [hx] at hy
        cases hy
        wtm_at "gs"
        refine ⟨rfl, s_yes (ite_tt ?_)⟩
        wtm_at "gs"
        exact ⟨p, A, _, rfl, pv, hyr.go e, h1, h8, hb, fun v5 n e5 pv5 b1 b2 => hR _ _ _ e5 pv5 ⟨b1, b2⟩ (.int _)⟩
      · intro v5 accl L1 e5 pv5 hD4' oD4 ra4 lL1 hL1
        obtain rfl := RpA.ints_inv ra4
        show gName 8 _ _ _ _
        refine lay (R := fun H => gName 8 (V.ref D4) _ H _) oD4 fun v6 e6 sL1 => ?_
        have e16 : Ext (One p) u1 v6 := e5.step e6 fun b hb => .inl (by rw [show b = D4 from hb]; exact hD4)
        have pv6 : Pool v6 p := pv5.go e6 hpD4
        have e116 := f1.trans e16
        clear e5 e6 oD4 f1 pv1 pv5 e16
        wtm_at "go"
        exact hZ _ _ ⟨e116, pv6, D4, L1, rfl, sL1, ⟨by omega, fun i h l q1 q2 => by have := hL1 i l q2; rw [getH i h q1] at this; exact this⟩⟩
    · wtm_at "go"
      exact hZ _ _ ⟨by wtm_at "ch", by wtm_at "pool", D3, L0, rfl, by wtm_at "stb", ne0⟩
  clear sL0 ne0 hL0 lL0 L0 hD3 hD3'
  rintro σ v12 ⟨e12, pu12, D4, L0, rfl, sL0, ne⟩
  have ew12 : Ext Non w v12 := ew11.step e12 fun b hb => .inl (by rw [show b = p from hb]; exact n1)
  have sB12 := st_go e12 sB11
  have rB12 := rB11.go e12
  have sS12 := st_go e12 sS11
  have rS12 := rS11.go e12
  clear e12 pu12 pu11 ew11 sB11 rB11 sS11 rS11
  have lL0' : (L0.map V.int).length ≤ 9 := by rw [List.length_map, ne.l]; omega
  wtm_at "gs"
  intro D5 hD5
  refine lc_gen (rows := S) (ww_list (xs := acc)) (fun _ => true) spD hD5 (by omega) (by rw [sizeLine_eq]; omega) (fun u e => sql_of (st_go e sS12)) ?_ ?_
  · intro i x1 q u hi hx hq e R Z hR hZ
    obtain ⟨h1, h8, hb⟩ := hS0 i q hq
    obtain ⟨y, hy, hyr⟩ := rS12.get' (i := i) (d := spD q) (by rw [List.getElem?_map, hq]; rfl)
    rw [hx] at hy
    cases hy
    obtain ⟨t, vt, rfl, st, rt⟩ := (hyr.go e).list_inv
    have lt := rt.length
    rw [List.length_map] at lt
    wtm_at "gs"
    refine ⟨rfl, s_yes (ite_tt ?_)⟩
    wtm_at "gs"
    exact hR _ _ (by wtm_at "ch") rfl (.lst (by wtm_at "stb") (by wtm_at "rpa"))
  intro v13 acc5 e13 hD5' oD5 ra5
  rw [filter_all] at ra5
  have sB13 := st_go e13 sB12
  wtm_at "gs"
  rename_i cB v14 e14 n14 s14
  refine s_rmake fun x dx v15 e15 n15 o15 => s_pm3 ⟨x, dx, S, B.map bdT, D5, acc5, rfl, o15, rfl, .inr ((oD5.ext e14 fun z => z).ext e15 fun z => z), (ra5.go e14).go e15, .lst (st_go e15 s14) (((rB12.go e13).go e14).go e15), by omega, fun v16 e16 hF => ⟨rfl, ?_⟩⟩
  have e126 : Ext Non v12 v16 := ((e13.trans e14).trans e15).step e16 fun b hb => .inl (by rw [show b = x from hb]; exact (e13.trans e14).back n15)
  have ew16 := ew12.trans e126
  have sB16 := st_go e126 sB12
  have rB16 := rB12.go e126
  have sS16 := st_go e126 sS12
  have rS16 := rS12.go e126
  have sL16 := st_go e126 sL0
  clear e13 e14 e15 e16 e126 oD5 ra5 s14 o15 sB12 rB12 sS12 rS12 sL0 sB13 ew12
  wtm_at "go"
  refine s_listO (.inl (sql_of sL16)) fun D6 v17 e17 n17 o17 => ?_
  have hF17 := hF.go e17
  have ew17 := ew16.trans e17
  have sB17 := st_go e17 sB16
  have rB17 := rB16.go e17
  have sS17 := st_go e17 sS16
  have rS17 := rS16.go e17
  have sL17 := st_go e17 sL16
  have wD6 : w.H D6 = none := ew16.back n17
  clear hF ew16 sB16 rB16 sS16 rS16 sL16
  wtm_at "gs"
  refine ⟨S, B, H, D6, L0, hF17, rfl, .inr o17, la, ne, by omega, by omega, fun v18 t p1 p2 ks M past e18 st f1 f2 hne o1 o2 td => ?_⟩
  have o18 := o17.ext e18 fun z => z
  have hD61 : D6 ≠ p1 := o17.ne f1
  have hD62 : D6 ≠ p2 := o17.ne f2
  have wp1 : w.H p1 = none := ew17.back f1
  have wp2 : w.H p2 = none := ew17.back f2
  have sL18 := st_go e18 sL17
  have hF18 := hF17.go e18
  have ew18 := ew17.trans e18
  have hS18 : Rp v18.S (.ref D2) (ssD S) := .lst (st_go e18 sS17) (rS17.go e18)
  have hB18 : Rp v18.S (.ref L) (bsD (B.map bdT)) := .lst (st_go e18 sB17) (rB17.go e18)
  clear e18 o17 sL17 hF17 ew17 sS17 rS17 sB17 rB17
  wtm_at "gs"
  refine s_neLs (PySem.W.shaped_ints _) (.inr o18) (ints_rpA _) (.inl sL18) (ints_rpA _) ?_
  wtm_at "gs"
  refine ⟨t, p1, p2, D4, ks, M, past, S, B, H, L0, rfl, st, o1, o2, hS18, hB18, rfl, .inl sL18, td, la, ne, by omega, by omega, fun v19 e19 => ?_⟩
  have o19 := o18.ext e19 fun z => z
  have o119 := o1.ext e19 fun z => z
  have o219 := o2.ext e19 fun z => z
  have st19 := st_go e19 st
  have sL19 := st_go e19 sL18
  have hF19 := hF18.go e19
  have hS19 := hS18.go e19
  have hB19 := hB18.go e19
  have ew19 := ew18.trans e19
  have lM : M.length ≤ 9 := by rw [td.n.l]; omega
  have lks : ks.length ≤ 4096 := td.l
  clear e19 o18 o1 o2 st sL18 hF18 hS18 hB18 ew18
  wtm_at "goi"
  refine s_ifJ (fun σ u => Ext Non v19 u ∧ ∃ g12 : Option V, σ = [some (.ref a), some (.ref p), some (.int far), some (.int (size : Int)), g4, some (.ref D), some (.ref D2), some (.ref L), some (.ref D4), some (.ref x), some (.ref D6), some (.ref t), g12, none]) (fun Z hZ => ?_) ?_
  · cases past with
    | some j =>
      dsimp only [pastV] at st19
      wtm_at "go"
      exact hZ _ _ ⟨Ext.refl _ _, _, rfl⟩
    | none =>
      dsimp only [pastV] at st19
      wtm_at "go"
      refine s_listO (.inl (SqL.of o119.h)) fun D7 v20 e20 n20 o20 => ?_
      wtm_at "go"
      refine raised_lay ⟨S, B, H, D7, M, hF19.go e20, rfl, .inr o20, la, td.n, by omega, by omega, fun v21 r ks2 M2 past2 e21 hr td2 => ?_⟩
      obtain ⟨rfl, hp⟩ := rfold_kept (td.k rfl) td2.r
      cases hp
      have o121 := (o119.ext e20 fun z => z).ext e21 fun z => z
      have st21 := st_go e21 (st_go e20 st19)
      have e1921 := e20.trans e21
      clear e20 e21 o20 td2
      wtm_at "gs"
      rename_i Le v22 e22 n22 s22 tt v23 e23 n23 s23
      refine same_t (sm_told (by omega)) ((hr.go e22).go e23) ((o121.ext e22 fun z => z).ext e23 fun z => z) (ints_rpA M) s23 (.lst (st_go e23 s22) .nil) .non fun v24 e24 => ?_
      have e1924 : Ext Non v19 v24 := ((e1921.trans e22).trans e23).trans e24
      wtm_at "gs"
      exact hZ _ _ ⟨e1924, _, rfl⟩
  rintro σ u ⟨eu, g12, rfl⟩
  have ou := o19.ext eu fun z => z
  have o1u := o119.ext eu fun z => z
  have o2u := o219.ext eu fun z => z
  have stu := st_go eu st19
  have sLu := st_go eu sL19
  have hFu := hF19.go eu
  have hSu := hS19.go eu
  have hBu := hB19.go eu
  have ewu := ew19.trans eu
  clear eu o19 o119 o219 st19 sL19 hF19 hS19 hB19 ew19
  wtm_at "go"
  rename_i z1 g1 q1 z2 g2 q2 z3 g3 q3
  have eA : Ext Non w z3 := ((ewu.step g1 fun b hb => .inl (by rw [show b = p1 from hb]; exact wp1)).step g2 fun b hb => .inl (by rw [show b = p2 from hb]; exact wp2)).step g3 fun b hb => .inl (by rw [show b = D6 from hb]; exact wD6)
  have sL3 := st_go g3 (st_go g2 (st_go g1 sLu))
  have hF3 := ((hFu.go g1).go g2).go g3
  have hS3 := ((hSu.go g1).go g2).go g3
  have hB3 := ((hBu.go g1).go g2).go g3
  clear g1 g2 g3 q1 q2 q3 ou o1u o2u stu sLu hFu hSu hBu ewu td f1 f2 hne lks lM
  refine ⟨S, B, H, D4, L0, hF3, rfl, .inl sL3, la, ne, by omega, by omega, fun v25 t p1 p2 ks M past e25 st f1 f2 hne o1 o2 td => ?_⟩
  have hF4 := hF3.go e25
  have hS4 := hS3.go e25
  have hB4 := hB3.go e25
  have sL4 := st_go e25 sL3
  have eB := eA.trans e25
  clear e25 eA hF3 hS3 hB3 sL3
  wtm_at "gs"
  refine ⟨t, p1, p2, D4, ks, M, past, S, B, H, L0, rfl, st, o1, o2, hS4, hB4, rfl, .inl sL4, td, la, ne, by omega, by omega, fun v26 e26 => ?_⟩
  have hF5 := hF4.go e26
  have hS5 := hS4.go e26
  have hB5 := hB4.go e26
  have eC := eB.trans e26
  clear e26 o1 o2 hF4 hS4 hB4 sL4 eB st
  obtain ⟨fx, dx2, y5, z5, hxe, sx, _, _⟩ := id hF5
  obtain rfl := V.ref.inj hxe
  have hA1 : ∀ A ∈ S, A.length < 2 ^ 10 := fun A hA => by
    obtain ⟨n, hn⟩ := List.mem_iff_getElem?.mp hA
    have := (hS0 n A hn).2.1
    omega
  wtm_at "gs"
  refine ⟨S, _, hF5, by omega, fun v27 r27 e27 hr27 => ?_⟩
  wtm_at "gs"
  refine same_s (sm_ss (by omega) hA1) hr27 (hS5.go e27) fun v28 e28 => ?_
  wtm_at "gs"
  refine ⟨S, _, (hF5.go e27).go e28, fun v29 r29 e29 hr29 => ?_⟩
  wtm_at "gs"
  refine same_s (sm_bs (by rw [List.length_map]; omega)) hr29 (((hB5.go e27).go e28).go e29) fun v30 e30 => ?_
  wtm_at "gs"
  exact k _ ((((eC.trans e27).trans e28).trans e29).trans e30)
theorem law_in {K : PySem.W.Frag} {H : Hp} {a : Addr} {ns : List Int} {E : XK} (hl : ns.length ≤ 63) (hS : SqL K H a (ns.map V.int)) : p_law K ⟨H, H, fun _ _ h => h⟩ (.ref a) (fun v _ => v = .bl true) E := ⟨⟨a, ns, rfl, hS, hl⟩, fun _ _ => rfl⟩

end
/-! ### the end -/
theorem all_mk {l : PySem.W.OpenLaw} {ww : World} {K : PySem.W.Frag} {h : Heap} {mg : Str → Option Value} {fa : Addr} (X : K.In h) (G : h.Ns mainGlobals mg) (hfa : mg "law" = some (.ref fa))
    {C_Frame : Addr} (g_Frame : PySem.W.nsIn K mainGlobals "Frame" = some (some (.ref C_Frame))) (pg_Frame : PySem.W.plainGet K C_Frame Str.empty = true) (hd_Frame : PySem.W.hasDictIn K C_Frame = true) (po_Frame : PySem.W.plainOver K C_Frame = true)
    (sa_Frame : PySem.W.findIn K (.ref C_Frame) "__setattr__" = some (some (.builtin "object.__setattr__"))) (mk_Frame : PySem.W.makesIn K C_Frame = true) (kc_Frame : PySem.W.keepIn K (.ref C_Frame) = true)
    (na_Frame_sets : PySem.W.findIn K (.ref C_Frame) "sets" = some none)
    (na_Frame_ties : PySem.W.findIn K (.ref C_Frame) "ties" = some none)
    {f_l_pool : Addr} {od_l_pool an_l_pool : Option Addr} {sl_l_pool : Array (Option Value)} {oc_l_pool kv_l_pool dc_l_pool pm_l_pool cd_l_pool ct_l_pool : Value}
    (a_l_pool : PySem.W.nsIn K mainGlobals "_law_pool" = some (some (.ref f_l_pool)))
    (l_l_pool : K.lookup f_l_pool = some ⟨oc_l_pool, od_l_pool, .func (PySem.W.fnOf "_law_pool" "_law_pool" (defArgs s_l_pool) (defBody s_l_pool) (defScope s_l_pool) .none kv_l_pool dc_l_pool pm_l_pool an_l_pool cd_l_pool ct_l_pool), sl_l_pool⟩)
    (d_l_pool : PySem.W.codeIn K cd_l_pool "_law_pool" = true) (k_l_pool : PySem.W.keepIn K (.ref f_l_pool) = true)
    {f_l_take : Addr} {od_l_take an_l_take : Option Addr} {sl_l_take : Array (Option Value)} {oc_l_take kv_l_take dc_l_take pm_l_take cd_l_take ct_l_take : Value}
    (a_l_take : PySem.W.nsIn K mainGlobals "_law_take" = some (some (.ref f_l_take)))
    (l_l_take : K.lookup f_l_take = some ⟨oc_l_take, od_l_take, .func (PySem.W.fnOf "_law_take" "_law_take" (defArgs s_l_take) (defBody s_l_take) (defScope s_l_take) .none kv_l_take dc_l_take pm_l_take an_l_take cd_l_take ct_l_take), sl_l_take⟩)
    (d_l_take : PySem.W.codeIn K cd_l_take "_law_take" = true) (k_l_take : PySem.W.keepIn K (.ref f_l_take) = true)
    {f_l_same : Addr} {od_l_same an_l_same : Option Addr} {sl_l_same : Array (Option Value)} {oc_l_same kv_l_same dc_l_same pm_l_same cd_l_same ct_l_same : Value}
    (a_l_same : PySem.W.nsIn K mainGlobals "_law_same" = some (some (.ref f_l_same)))
    (l_l_same : K.lookup f_l_same = some ⟨oc_l_same, od_l_same, .func (PySem.W.fnOf "_law_same" "_law_same" (defArgs s_l_same) (defBody s_l_same) (defScope s_l_same) .none kv_l_same dc_l_same pm_l_same an_l_same cd_l_same ct_l_same), sl_l_same⟩)
    (d_l_same : PySem.W.codeIn K cd_l_same "_law_same" = true) (k_l_same : PySem.W.keepIn K (.ref f_l_same) = true)
    {f_Frame_init : Addr} {od_Frame_init an_Frame_init : Option Addr} {sl_Frame_init : Array (Option Value)} {oc_Frame_init kv_Frame_init dc_Frame_init pm_Frame_init cd_Frame_init ct_Frame_init : Value}
    (a_Frame_init : PySem.W.findIn K (.ref C_Frame) "__init__" = some (some (.ref f_Frame_init))) (i_Frame_init : PySem.W.isFn K (.ref f_Frame_init) = true)
    (l_Frame_init : K.lookup f_Frame_init = some ⟨oc_Frame_init, od_Frame_init, .func (PySem.W.fnOf "__init__" "Frame.__init__" (defArgs s_Frame_init) (defBody s_Frame_init) (defScope s_Frame_init) .none kv_Frame_init dc_Frame_init pm_Frame_init an_Frame_init cd_Frame_init ct_Frame_init), sl_Frame_init⟩)
    (d_Frame_init : PySem.W.codeIn K cd_Frame_init "Frame.__init__" = true) (k_Frame_init : PySem.W.keepIn K (.ref f_Frame_init) = true)
    {f_Frame_spans : Addr} {od_Frame_spans an_Frame_spans : Option Addr} {sl_Frame_spans : Array (Option Value)} {oc_Frame_spans kv_Frame_spans dc_Frame_spans pm_Frame_spans cd_Frame_spans ct_Frame_spans : Value}
    (a_Frame_spans : PySem.W.findIn K (.ref C_Frame) "spans" = some (some (.ref f_Frame_spans))) (i_Frame_spans : PySem.W.isFn K (.ref f_Frame_spans) = true)
    (l_Frame_spans : K.lookup f_Frame_spans = some ⟨oc_Frame_spans, od_Frame_spans, .func (PySem.W.fnOf "spans" "Frame.spans" (defArgs s_Frame_spans) (defBody s_Frame_spans) (defScope s_Frame_spans) .none kv_Frame_spans dc_Frame_spans pm_Frame_spans an_Frame_spans cd_Frame_spans ct_Frame_spans), sl_Frame_spans⟩)
    (d_Frame_spans : PySem.W.codeIn K cd_Frame_spans "Frame.spans" = true) (k_Frame_spans : PySem.W.keepIn K (.ref f_Frame_spans) = true)
    {f_Frame_bonds : Addr} {od_Frame_bonds an_Frame_bonds : Option Addr} {sl_Frame_bonds : Array (Option Value)} {oc_Frame_bonds kv_Frame_bonds dc_Frame_bonds pm_Frame_bonds cd_Frame_bonds ct_Frame_bonds : Value}
    (a_Frame_bonds : PySem.W.findIn K (.ref C_Frame) "bonds" = some (some (.ref f_Frame_bonds))) (i_Frame_bonds : PySem.W.isFn K (.ref f_Frame_bonds) = true)
    (l_Frame_bonds : K.lookup f_Frame_bonds = some ⟨oc_Frame_bonds, od_Frame_bonds, .func (PySem.W.fnOf "bonds" "Frame.bonds" (defArgs s_Frame_bonds) (defBody s_Frame_bonds) (defScope s_Frame_bonds) .none kv_Frame_bonds dc_Frame_bonds pm_Frame_bonds an_Frame_bonds cd_Frame_bonds ct_Frame_bonds), sl_Frame_bonds⟩)
    (d_Frame_bonds : PySem.W.codeIn K cd_Frame_bonds "Frame.bonds" = true) (k_Frame_bonds : PySem.W.keepIn K (.ref f_Frame_bonds) = true)
    {f_first_from : Addr} {od_first_from an_first_from : Option Addr} {sl_first_from : Array (Option Value)} {oc_first_from kv_first_from dc_first_from pm_first_from cd_first_from ct_first_from : Value}
    (a_first_from : PySem.W.nsIn K mainGlobals "first_from" = some (some (.ref f_first_from)))
    (l_first_from : K.lookup f_first_from = some ⟨oc_first_from, od_first_from, .func (PySem.W.fnOf "first_from" "first_from" (defArgs s_first_from) (defBody s_first_from) (defScope s_first_from) .none kv_first_from dc_first_from pm_first_from an_first_from cd_first_from ct_first_from), sl_first_from⟩)
    (d_first_from : PySem.W.codeIn K cd_first_from "first_from" = true) (k_first_from : PySem.W.keepIn K (.ref f_first_from) = true)
    {f_stepped : Addr} {od_stepped an_stepped : Option Addr} {sl_stepped : Array (Option Value)} {oc_stepped kv_stepped dc_stepped pm_stepped cd_stepped ct_stepped : Value}
    (a_stepped : PySem.W.nsIn K mainGlobals "stepped" = some (some (.ref f_stepped)))
    (l_stepped : K.lookup f_stepped = some ⟨oc_stepped, od_stepped, .func (PySem.W.fnOf "stepped" "stepped" (defArgs s_stepped) (defBody s_stepped) (defScope s_stepped) .none kv_stepped dc_stepped pm_stepped an_stepped cd_stepped ct_stepped), sl_stepped⟩)
    (d_stepped : PySem.W.codeIn K cd_stepped "stepped" = true) (k_stepped : PySem.W.keepIn K (.ref f_stepped) = true)
    {f_raised : Addr} {od_raised an_raised : Option Addr} {sl_raised : Array (Option Value)} {oc_raised kv_raised dc_raised pm_raised cd_raised ct_raised : Value}
    (a_raised : PySem.W.nsIn K mainGlobals "raised" = some (some (.ref f_raised)))
    (l_raised : K.lookup f_raised = some ⟨oc_raised, od_raised, .func (PySem.W.fnOf "raised" "raised" (defArgs s_raised) (defBody s_raised) (defScope s_raised) .none kv_raised dc_raised pm_raised an_raised cd_raised ct_raised), sl_raised⟩)
    (d_raised : PySem.W.codeIn K cd_raised "raised" = true) (k_raised : PySem.W.keepIn K (.ref f_raised) = true)
    {f_l_first : Addr} {od_l_first an_l_first : Option Addr} {sl_l_first : Array (Option Value)} {oc_l_first kv_l_first dc_l_first pm_l_first cd_l_first ct_l_first : Value}
    (a_l_first : PySem.W.nsIn K mainGlobals "_law_first" = some (some (.ref f_l_first)))
    (l_l_first : K.lookup f_l_first = some ⟨oc_l_first, od_l_first, .func (PySem.W.fnOf "_law_first" "_law_first" (defArgs s_l_first) (defBody s_l_first) (defScope s_l_first) .none kv_l_first dc_l_first pm_l_first an_l_first cd_l_first ct_l_first), sl_l_first⟩)
    (d_l_first : PySem.W.codeIn K cd_l_first "_law_first" = true) (k_l_first : PySem.W.keepIn K (.ref f_l_first) = true)
    {f_l_spans : Addr} {od_l_spans an_l_spans : Option Addr} {sl_l_spans : Array (Option Value)} {oc_l_spans kv_l_spans dc_l_spans pm_l_spans cd_l_spans ct_l_spans : Value}
    (a_l_spans : PySem.W.nsIn K mainGlobals "_law_spans" = some (some (.ref f_l_spans)))
    (l_l_spans : K.lookup f_l_spans = some ⟨oc_l_spans, od_l_spans, .func (PySem.W.fnOf "_law_spans" "_law_spans" (defArgs s_l_spans) (defBody s_l_spans) (defScope s_l_spans) .none kv_l_spans dc_l_spans pm_l_spans an_l_spans cd_l_spans ct_l_spans), sl_l_spans⟩)
    (d_l_spans : PySem.W.codeIn K cd_l_spans "_law_spans" = true) (k_l_spans : PySem.W.keepIn K (.ref f_l_spans) = true)
    {f_l_bond : Addr} {od_l_bond an_l_bond : Option Addr} {sl_l_bond : Array (Option Value)} {oc_l_bond kv_l_bond dc_l_bond pm_l_bond cd_l_bond ct_l_bond : Value}
    (a_l_bond : PySem.W.nsIn K mainGlobals "_law_bond" = some (some (.ref f_l_bond)))
    (l_l_bond : K.lookup f_l_bond = some ⟨oc_l_bond, od_l_bond, .func (PySem.W.fnOf "_law_bond" "_law_bond" (defArgs s_l_bond) (defBody s_l_bond) (defScope s_l_bond) .none kv_l_bond dc_l_bond pm_l_bond an_l_bond cd_l_bond ct_l_bond), sl_l_bond⟩)
    (d_l_bond : PySem.W.codeIn K cd_l_bond "_law_bond" = true) (k_l_bond : PySem.W.keepIn K (.ref f_l_bond) = true)
    {f_l_low : Addr} {od_l_low an_l_low : Option Addr} {sl_l_low : Array (Option Value)} {oc_l_low kv_l_low dc_l_low pm_l_low cd_l_low ct_l_low : Value}
    (a_l_low : PySem.W.nsIn K mainGlobals "_law_low" = some (some (.ref f_l_low)))
    (l_l_low : K.lookup f_l_low = some ⟨oc_l_low, od_l_low, .func (PySem.W.fnOf "_law_low" "_law_low" (defArgs s_l_low) (defBody s_l_low) (defScope s_l_low) .none kv_l_low dc_l_low pm_l_low an_l_low cd_l_low ct_l_low), sl_l_low⟩)
    (d_l_low : PySem.W.codeIn K cd_l_low "_law_low" = true) (k_l_low : PySem.W.keepIn K (.ref f_l_low) = true)
    {f_l_keeps : Addr} {od_l_keeps an_l_keeps : Option Addr} {sl_l_keeps : Array (Option Value)} {oc_l_keeps kv_l_keeps dc_l_keeps pm_l_keeps cd_l_keeps ct_l_keeps : Value}
    (a_l_keeps : PySem.W.nsIn K mainGlobals "_law_keeps" = some (some (.ref f_l_keeps)))
    (l_l_keeps : K.lookup f_l_keeps = some ⟨oc_l_keeps, od_l_keeps, .func (PySem.W.fnOf "_law_keeps" "_law_keeps" (defArgs s_l_keeps) (defBody s_l_keeps) (defScope s_l_keeps) .none kv_l_keeps dc_l_keeps pm_l_keeps an_l_keeps cd_l_keeps ct_l_keeps), sl_l_keeps⟩)
    (d_l_keeps : PySem.W.codeIn K cd_l_keeps "_law_keeps" = true) (k_l_keeps : PySem.W.keepIn K (.ref f_l_keeps) = true)
    {f_l_is_row : Addr} {od_l_is_row an_l_is_row : Option Addr} {sl_l_is_row : Array (Option Value)} {oc_l_is_row kv_l_is_row dc_l_is_row pm_l_is_row cd_l_is_row ct_l_is_row : Value}
    (a_l_is_row : PySem.W.nsIn K mainGlobals "_law_is_row" = some (some (.ref f_l_is_row)))
    (l_l_is_row : K.lookup f_l_is_row = some ⟨oc_l_is_row, od_l_is_row, .func (PySem.W.fnOf "_law_is_row" "_law_is_row" (defArgs s_l_is_row) (defBody s_l_is_row) (defScope s_l_is_row) .none kv_l_is_row dc_l_is_row pm_l_is_row an_l_is_row cd_l_is_row ct_l_is_row), sl_l_is_row⟩)
    (d_l_is_row : PySem.W.codeIn K cd_l_is_row "_law_is_row" = true) (k_l_is_row : PySem.W.keepIn K (.ref f_l_is_row) = true)
    {f_l_judged : Addr} {od_l_judged an_l_judged : Option Addr} {sl_l_judged : Array (Option Value)} {oc_l_judged kv_l_judged dc_l_judged pm_l_judged cd_l_judged ct_l_judged : Value}
    (a_l_judged : PySem.W.nsIn K mainGlobals "_law_judged" = some (some (.ref f_l_judged)))
    (l_l_judged : K.lookup f_l_judged = some ⟨oc_l_judged, od_l_judged, .func (PySem.W.fnOf "_law_judged" "_law_judged" (defArgs s_l_judged) (defBody s_l_judged) (defScope s_l_judged) .none kv_l_judged dc_l_judged pm_l_judged an_l_judged cd_l_judged ct_l_judged), sl_l_judged⟩)
    (d_l_judged : PySem.W.codeIn K cd_l_judged "_law_judged" = true) (k_l_judged : PySem.W.keepIn K (.ref f_l_judged) = true)
    {f_law : Addr} {od_law an_law : Option Addr} {sl_law : Array (Option Value)} {oc_law kv_law dc_law pm_law cd_law ct_law : Value}
    (a_law : PySem.W.nsIn K mainGlobals "law" = some (some (.ref f_law)))
    (l_law : K.lookup f_law = some ⟨oc_law, od_law, .func (PySem.W.fnOf "law" "law" (defArgs s_law) (defBody s_law) (defScope s_law) .none kv_law dc_law pm_law an_law cd_law ct_law), sl_law⟩)
    (d_law : PySem.W.codeIn K cd_law "law" = true) (k_law : PySem.W.keepIn K (.ref f_law) = true)
    (n_abs : PySem.W.nsIn K mainGlobals "abs" = some none)
    (n_all : PySem.W.nsIn K mainGlobals "all" = some none)
    (n_bool : PySem.W.nsIn K mainGlobals "bool" = some none)
    (n_enumerate : PySem.W.nsIn K mainGlobals "enumerate" = some none)
    (n_int : PySem.W.nsIn K mainGlobals "int" = some none)
    (n_isinstance : PySem.W.nsIn K mainGlobals "isinstance" = some none)
    (n_len : PySem.W.nsIn K mainGlobals "len" = some none)
    (n_list : PySem.W.nsIn K mainGlobals "list" = some none)
    (n_max : PySem.W.nsIn K mainGlobals "max" = some none)
    (n_min : PySem.W.nsIn K mainGlobals "min" = some none)
    (n_range : PySem.W.nsIn K mainGlobals "range" = some none)
    (n_str : PySem.W.nsIn K mainGlobals "str" = some none)
    (n_tuple : PySem.W.nsIn K mainGlobals "tuple" = some none)
    (n_zip : PySem.W.nsIn K mainGlobals "zip" = some none)
    : ∃ fd : FuncData, (∀ (s : Shared) (v : Value), BindsTo s fd ⟨[v], []⟩ [("_law_script", v)]) ∧ ∀ base : Heap, K.In base → base.Ns mainGlobals mg → FnOk l.prog ww K mg base CX0 8 fa fd ["_law_script"] (pr1 (p_law K)) := by
  have e := hfa.symm.trans (PySem.W.mg_of X G a_law)
  cases e
  have T : Txt K mg C_Frame := ⟨PySem.W.mg_of X G g_Frame, ⟨pg_Frame, hd_Frame, po_Frame, sa_Frame⟩, na_Frame_sets, na_Frame_ties, PySem.W.mg_none_of X G n_abs, PySem.W.mg_none_of X G n_all, PySem.W.mg_none_of X G n_bool, PySem.W.mg_none_of X G n_enumerate, PySem.W.mg_none_of X G n_int, PySem.W.mg_none_of X G n_isinstance, PySem.W.mg_none_of X G n_len, PySem.W.mg_none_of X G n_list, PySem.W.mg_none_of X G n_max, PySem.W.mg_none_of X G n_min, PySem.W.mg_none_of X G n_range, PySem.W.mg_none_of X G n_str, PySem.W.mg_none_of X G n_tuple, PySem.W.mg_none_of X G n_zip⟩
  refine ⟨PySem.W.fnOf "law" "law" (defArgs s_law) (defBody s_law) (defScope s_law) .none kv_law dc_law pm_law an_law cd_law ct_law, fun s v => .of_eq rfl, fun base _ _ => ?_⟩
  have F_l_pool := fun_mk (st := s_l_pool) l_l_pool d_l_pool k_l_pool
  have G_l_pool := ok_l_pool (P := l.prog) (ww := ww) (base := base) F_l_pool T 
  have c_l_pool : Fnc l.prog ww K mg base CX0 1 "_law_pool" (pr2 (p_l_pool K)) := ⟨_, _, _, G_l_pool, PySem.W.mg_of X G a_l_pool, k_l_pool, F_l_pool.binds (ps := ["_law_script", "_law_k"]) fun _ _ _ _ _ _ us hl => match us, hl with | [_, _], _ => rfl⟩
  have F_l_take := fun_mk (st := s_l_take) l_l_take d_l_take k_l_take
  have G_l_take := ok_l_take (P := l.prog) (ww := ww) (base := base) F_l_take T 
  have c_l_take : Fnc l.prog ww K mg base CX0 1 "_law_take" (pr2 (p_l_take)) := ⟨_, _, _, G_l_take, PySem.W.mg_of X G a_l_take, k_l_take, F_l_take.binds (ps := ["_law_pool_here", "_law_m"]) fun _ _ _ _ _ _ us hl => match us, hl with | [_, _], _ => rfl⟩
  have F_l_same := fun_mk (st := s_l_same) l_l_same d_l_same k_l_same
  have c_l_same_0 : Fnc l.prog ww K mg base CX0 0 "_law_same" (pr2 (p_l_same 0)) := ⟨_, _, _, fn_false (pr2_false fun _ _ _ _ _ => id), PySem.W.mg_of X G a_l_same, k_l_same, F_l_same.binds (ps := ["_law_found", "_law_due"]) fun _ _ _ _ _ _ us hl => match us, hl with | [_, _], _ => rfl⟩
  have G_l_same_1 := ok_l_same (P := l.prog) (ww := ww) (base := base) F_l_same T c_l_same_0
  have c_l_same_1 : Fnc l.prog ww K mg base CX0 1 "_law_same" (pr2 (p_l_same 1)) := ⟨_, _, _, G_l_same_1, PySem.W.mg_of X G a_l_same, k_l_same, F_l_same.binds (ps := ["_law_found", "_law_due"]) fun _ _ _ _ _ _ us hl => match us, hl with | [_, _], _ => rfl⟩
  have G_l_same_2 := ok_l_same (P := l.prog) (ww := ww) (base := base) F_l_same T c_l_same_1
  have c_l_same_2 : Fnc l.prog ww K mg base CX0 2 "_law_same" (pr2 (p_l_same 2)) := ⟨_, _, _, G_l_same_2, PySem.W.mg_of X G a_l_same, k_l_same, F_l_same.binds (ps := ["_law_found", "_law_due"]) fun _ _ _ _ _ _ us hl => match us, hl with | [_, _], _ => rfl⟩
  have G_l_same_3 := ok_l_same (P := l.prog) (ww := ww) (base := base) F_l_same T c_l_same_2
  have c_l_same_3 : Fnc l.prog ww K mg base CX0 3 "_law_same" (pr2 (p_l_same 3)) := ⟨_, _, _, G_l_same_3, PySem.W.mg_of X G a_l_same, k_l_same, F_l_same.binds (ps := ["_law_found", "_law_due"]) fun _ _ _ _ _ _ us hl => match us, hl with | [_, _], _ => rfl⟩
  have G_l_same_4 := ok_l_same (P := l.prog) (ww := ww) (base := base) F_l_same T c_l_same_3
  have c_l_same_4 : Fnc l.prog ww K mg base CX0 4 "_law_same" (pr2 (p_l_same 4)) := ⟨_, _, _, G_l_same_4, PySem.W.mg_of X G a_l_same, k_l_same, F_l_same.binds (ps := ["_law_found", "_law_due"]) fun _ _ _ _ _ _ us hl => match us, hl with | [_, _], _ => rfl⟩
  have G_l_same_5 := ok_l_same (P := l.prog) (ww := ww) (base := base) F_l_same T c_l_same_4
  have c_l_same_5 : Fnc l.prog ww K mg base CX0 5 "_law_same" (pr2 (p_l_same 5)) := ⟨_, _, _, G_l_same_5, PySem.W.mg_of X G a_l_same, k_l_same, F_l_same.binds (ps := ["_law_found", "_law_due"]) fun _ _ _ _ _ _ us hl => match us, hl with | [_, _], _ => rfl⟩
  have G_l_same_6 := ok_l_same (P := l.prog) (ww := ww) (base := base) F_l_same T c_l_same_5
  have c_l_same_6 : Fnc l.prog ww K mg base CX0 6 "_law_same" (pr2 (p_l_same 6)) := ⟨_, _, _, G_l_same_6, PySem.W.mg_of X G a_l_same, k_l_same, F_l_same.binds (ps := ["_law_found", "_law_due"]) fun _ _ _ _ _ _ us hl => match us, hl with | [_, _], _ => rfl⟩
  have c_l_same := c_l_same_6
  have F_Frame_init := fun_mk (st := s_Frame_init) l_Frame_init d_Frame_init k_Frame_init
  have G_Frame_init := ok_Frame_init (P := l.prog) (ww := ww) (base := base) F_Frame_init T 
  have c_Frame_init : Mkr l.prog ww K mg base CX0 C_Frame 1 (pr3 (p_Frame_init C_Frame)) := ⟨_, _, _, G_Frame_init, ⟨mk_Frame, a_Frame_init, i_Frame_init, kc_Frame⟩, F_Frame_init.binds (ps := ["self", "spans", "bonds"]) fun _ _ _ _ _ _ us hl => match us, hl with | [_, _, _], _ => rfl⟩
  have F_Frame_spans := fun_mk (st := s_Frame_spans) l_Frame_spans d_Frame_spans k_Frame_spans
  have G_Frame_spans := ok_Frame_spans (P := l.prog) (ww := ww) (base := base) F_Frame_spans T 
  have c_Frame_spans : Mth l.prog ww K mg base CX0 C_Frame 1 "spans" (pr1 (p_Frame_spans C_Frame)) := ⟨_, _, _, G_Frame_spans, ⟨a_Frame_spans, i_Frame_spans, k_Frame_spans⟩, F_Frame_spans.binds (ps := ["self"]) fun _ _ _ _ _ _ us hl => match us, hl with | [_], _ => rfl⟩
  have F_Frame_bonds := fun_mk (st := s_Frame_bonds) l_Frame_bonds d_Frame_bonds k_Frame_bonds
  have G_Frame_bonds := ok_Frame_bonds (P := l.prog) (ww := ww) (base := base) F_Frame_bonds T 
  have c_Frame_bonds : Mth l.prog ww K mg base CX0 C_Frame 1 "bonds" (pr1 (p_Frame_bonds C_Frame)) := ⟨_, _, _, G_Frame_bonds, ⟨a_Frame_bonds, i_Frame_bonds, k_Frame_bonds⟩, F_Frame_bonds.binds (ps := ["self"]) fun _ _ _ _ _ _ us hl => match us, hl with | [_], _ => rfl⟩
  have F_first_from := fun_mk (st := s_first_from) l_first_from d_first_from k_first_from
  have G_first_from := ok_first_from (P := l.prog) (ww := ww) (base := base) F_first_from T 
  have c_first_from : Fnc l.prog ww K mg base CX0 1 "first_from" (pr2 (p_first_from)) := ⟨_, _, _, G_first_from, PySem.W.mg_of X G a_first_from, k_first_from, F_first_from.binds (ps := ["spans", "number"]) fun _ _ _ _ _ _ us hl => match us, hl with | [_, _], _ => rfl⟩
  have F_stepped := fun_mk (st := s_stepped) l_stepped d_stepped k_stepped
  have G_stepped := ok_stepped (P := l.prog) (ww := ww) (base := base) F_stepped T c_first_from
  have c_stepped : Fnc l.prog ww K mg base CX0 2 "stepped" (pr3 (p_stepped)) := ⟨_, _, _, G_stepped, PySem.W.mg_of X G a_stepped, k_stepped, F_stepped.binds (ps := ["sets", "lows", "bond"]) fun _ _ _ _ _ _ us hl => match us, hl with | [_, _, _], _ => rfl⟩
  have F_raised := fun_mk (st := s_raised) l_raised d_raised k_raised
  have G_raised := ok_raised (P := l.prog) (ww := ww) (base := base) F_raised T c_Frame_bonds c_Frame_spans c_stepped
  have c_raised : Fnc l.prog ww K mg base CX0 3 "raised" (pr2 (p_raised C_Frame)) := ⟨_, _, _, G_raised, PySem.W.mg_of X G a_raised, k_raised, F_raised.binds (ps := ["frame", "lows"]) fun _ _ _ _ _ _ us hl => match us, hl with | [_, _], _ => rfl⟩
  have F_l_first := fun_mk (st := s_l_first) l_l_first d_l_first k_l_first
  have G_l_first := ok_l_first (P := l.prog) (ww := ww) (base := base) F_l_first T 
  have c_l_first : Fnc l.prog ww K mg base CX0 1 "_law_first" (pr2 (p_l_first)) := ⟨_, _, _, G_l_first, PySem.W.mg_of X G a_l_first, k_l_first, F_l_first.binds (ps := ["_law_spans_here", "_law_number"]) fun _ _ _ _ _ _ us hl => match us, hl with | [_, _], _ => rfl⟩
  have F_l_spans := fun_mk (st := s_l_spans) l_l_spans d_l_spans k_l_spans
  have G_l_spans := ok_l_spans (P := l.prog) (ww := ww) (base := base) F_l_spans T c_l_take
  have c_l_spans : Fnc l.prog ww K mg base CX0 2 "_law_spans" (pr2 (p_l_spans)) := ⟨_, _, _, G_l_spans, PySem.W.mg_of X G a_l_spans, k_l_spans, F_l_spans.binds (ps := ["_law_pool_here", "_law_height"]) fun _ _ _ _ _ _ us hl => match us, hl with | [_, _], _ => rfl⟩
  have F_l_bond := fun_mk (st := s_l_bond) l_l_bond d_l_bond k_l_bond
  have G_l_bond := ok_l_bond (P := l.prog) (ww := ww) (base := base) F_l_bond T c_l_take
  have c_l_bond : Fnc l.prog ww K mg base CX0 2 "_law_bond" (pr2 (p_l_bond)) := ⟨_, _, _, G_l_bond, PySem.W.mg_of X G a_l_bond, k_l_bond, F_l_bond.binds (ps := ["_law_pool_here", "_law_heights"]) fun _ _ _ _ _ _ us hl => match us, hl with | [_, _], _ => rfl⟩
  have F_l_low := fun_mk (st := s_l_low) l_l_low d_l_low k_l_low
  have G_l_low := ok_l_low (P := l.prog) (ww := ww) (base := base) F_l_low T c_l_take
  have c_l_low : Fnc l.prog ww K mg base CX0 2 "_law_low" (pr2 (p_l_low)) := ⟨_, _, _, G_l_low, PySem.W.mg_of X G a_l_low, k_l_low, F_l_low.binds (ps := ["_law_pool_here", "_law_spans_here"]) fun _ _ _ _ _ _ us hl => match us, hl with | [_, _], _ => rfl⟩
  have F_l_keeps := fun_mk (st := s_l_keeps) l_l_keeps d_l_keeps k_l_keeps
  have G_l_keeps := ok_l_keeps (P := l.prog) (ww := ww) (base := base) F_l_keeps T 
  have c_l_keeps : Fnc l.prog ww K mg base CX0 1 "_law_keeps" (pr2 (p_l_keeps)) := ⟨_, _, _, G_l_keeps, PySem.W.mg_of X G a_l_keeps, k_l_keeps, F_l_keeps.binds (ps := ["_law_lows", "_law_bonds"]) fun _ _ _ _ _ _ us hl => match us, hl with | [_, _], _ => rfl⟩
  have F_l_is_row := fun_mk (st := s_l_is_row) l_l_is_row d_l_is_row k_l_is_row
  have G_l_is_row := ok_l_is_row (P := l.prog) (ww := ww) (base := base) F_l_is_row T 
  have c_l_is_row : Fnc l.prog ww K mg base CX0 1 "_law_is_row" (pr2 (p_l_is_row)) := ⟨_, _, _, G_l_is_row, PySem.W.mg_of X G a_l_is_row, k_l_is_row, F_l_is_row.binds (ps := ["_law_steps", "_law_bonds"]) fun _ _ _ _ _ _ us hl => match us, hl with | [_, _], _ => rfl⟩
  have F_l_judged := fun_mk (st := s_l_judged) l_l_judged d_l_judged k_l_judged
  have G_l_judged := ok_l_judged (P := l.prog) (ww := ww) (base := base) F_l_judged T c_l_first c_l_is_row c_l_keeps c_l_same
  have c_l_judged : Fnc l.prog ww K mg base CX0 7 "_law_judged" (pr4 (p_l_judged)) := ⟨_, _, _, G_l_judged, PySem.W.mg_of X G a_l_judged, k_l_judged, F_l_judged.binds (ps := ["_law_found", "_law_spans_here", "_law_bonds", "_law_lows"]) fun _ _ _ _ _ _ us hl => match us, hl with | [_, _, _, _], _ => rfl⟩
  have F_law := fun_mk (st := s_law) l_law d_law k_law
  have G_law := ok_law (P := l.prog) (ww := ww) (base := base) F_law T c_Frame_bonds c_Frame_init c_Frame_spans c_l_bond c_l_judged c_l_low c_l_pool c_l_same c_l_spans c_l_take c_raised
  exact G_law
theorem walk {l : PySem.W.OpenLaw} {q : Program} {loose : List Str} {XP : (Str → Option Value) → Heap → Prop} {YP : World → Heap → Prop} {d : DefRec} {K : Params → PySem.W.Frag} (hn : l.most = some 63) (hdf : d.params.defaults = [])
    (hY : ∀ (w : World) (h : Heap), YP w h → (K w.params).In h)
    (F : ∀ (w : World) (mg : Str → Option Value) (fa : Addr) (h : Heap), (K w.params).In h → h.Ns mainGlobals mg → mg d.name = some (.ref fa) →
      ∃ fd : FuncData, (∀ (s : Shared) (u : Value), BindsTo s fd ⟨[u], []⟩ [("_law_script", u)]) ∧ ∀ base : Heap, (K w.params).In base → base.Ns mainGlobals mg → FnOk l.prog w (K w.params) mg base CX0 8 fa fd ["_law_script"] (pr1 (p_law (K w.params)))) :
    PySem.W.WalkO q loose XP YP l.row.toRowW d [] (fun f vs => PySem.call f vs) :=
  L2.walk_of (n := 63) (k := 8) (x := "_law_script") (CX := fun _ => CX0) (sp := fun w => pr1 (p_law (K w.params))) hn (by decide) hdf ⟨rfl, by decide, by decide⟩ hY F (fun _ H a ns hl _ hS => ⟨⟨H, H, fun _ _ h => h⟩, _, rfl, rfl, law_in hl hS⟩) fun _ _ _ _ _ z => z
end L
open PySem PySem.W PyProof.Rows in
set_option maxRecDepth 100000 in
set_option maxHeartbeats 0 in
theorem PySem.Challenge.cw_foldlog_k45_lows_raised_holds : PySem.Challenge.rw_foldlog_k45_lows_raised.Holds := by
  w_on; o_law; k_head; (case hw => w_witness2)
  k_fill
  refine L.walk (l := PySem.Challenge.rw_foldlog_k45_lows_raised) rfl rfl (fun w h Y => PySem.W.kIn_of Y) ?F
  case F =>
    intro w mg fa h KX G hmg
    refine' L.all_mk KX G hmg ?g_Frame ?pg_Frame ?hd_Frame ?po_Frame ?sa_Frame ?mk_Frame ?kc_Frame ?na_Frame_sets ?na_Frame_ties ?a_l_pool ?l_l_pool ?d_l_pool ?k_l_pool ?a_l_take ?l_l_take ?d_l_take ?k_l_take ?a_l_same ?l_l_same ?d_l_same ?k_l_same ?a_Frame_init ?i_Frame_init ?l_Frame_init ?d_Frame_init ?k_Frame_init ?a_Frame_spans ?i_Frame_spans ?l_Frame_spans ?d_Frame_spans ?k_Frame_spans ?a_Frame_bonds ?i_Frame_bonds ?l_Frame_bonds ?d_Frame_bonds ?k_Frame_bonds ?a_first_from ?l_first_from ?d_first_from ?k_first_from ?a_stepped ?l_stepped ?d_stepped ?k_stepped ?a_raised ?l_raised ?d_raised ?k_raised ?a_l_first ?l_l_first ?d_l_first ?k_l_first ?a_l_spans ?l_l_spans ?d_l_spans ?k_l_spans ?a_l_bond ?l_l_bond ?d_l_bond ?k_l_bond ?a_l_low ?l_l_low ?d_l_low ?k_l_low ?a_l_keeps ?l_l_keeps ?d_l_keeps ?k_l_keeps ?a_l_is_row ?l_l_is_row ?d_l_is_row ?k_l_is_row ?a_l_judged ?l_l_judged ?d_l_judged ?k_l_judged ?a_law ?l_law ?d_law ?k_law ?n_abs ?n_all ?n_bool ?n_enumerate ?n_int ?n_isinstance ?n_len ?n_list ?n_max ?n_min ?n_range ?n_str ?n_tuple ?n_zip
    (case g_Frame => k_is)
    (case pg_Frame => k_is)
    (case hd_Frame => k_is)
    (case po_Frame => k_is)
    (case sa_Frame => k_is)
    (case mk_Frame => k_is)
    (case kc_Frame => k_is)
    (case na_Frame_sets => k_is)
    (case na_Frame_ties => k_is)
    (case a_l_pool => k_is)
    (case l_l_pool => k_is)
    (case d_l_pool => k_is)
    (case k_l_pool => k_is)
    (case a_l_take => k_is)
    (case l_l_take => k_is)
    (case d_l_take => k_is)
    (case k_l_take => k_is)
    (case a_l_same => k_is)
    (case l_l_same => k_is)
    (case d_l_same => k_is)
    (case k_l_same => k_is)
    (case a_Frame_init => k_is)
    (case i_Frame_init => k_is)
    (case l_Frame_init => k_is)
    (case d_Frame_init => k_is)
    (case k_Frame_init => k_is)
    (case a_Frame_spans => k_is)
    (case i_Frame_spans => k_is)
    (case l_Frame_spans => k_is)
    (case d_Frame_spans => k_is)
    (case k_Frame_spans => k_is)
    (case a_Frame_bonds => k_is)
    (case i_Frame_bonds => k_is)
    (case l_Frame_bonds => k_is)
    (case d_Frame_bonds => k_is)
    (case k_Frame_bonds => k_is)
    (case a_first_from => k_is)
    (case l_first_from => k_is)
    (case d_first_from => k_is)
    (case k_first_from => k_is)
    (case a_stepped => k_is)
    (case l_stepped => k_is)
    (case d_stepped => k_is)
    (case k_stepped => k_is)
    (case a_raised => k_is)
    (case l_raised => k_is)
    (case d_raised => k_is)
    (case k_raised => k_is)
    (case a_l_first => k_is)
    (case l_l_first => k_is)
    (case d_l_first => k_is)
    (case k_l_first => k_is)
    (case a_l_spans => k_is)
    (case l_l_spans => k_is)
    (case d_l_spans => k_is)
    (case k_l_spans => k_is)
    (case a_l_bond => k_is)
    (case l_l_bond => k_is)
    (case d_l_bond => k_is)
    (case k_l_bond => k_is)
    (case a_l_low => k_is)
    (case l_l_low => k_is)
    (case d_l_low => k_is)
    (case k_l_low => k_is)
    (case a_l_keeps => k_is)
    (case l_l_keeps => k_is)
    (case d_l_keeps => k_is)
    (case k_l_keeps => k_is)
    (case a_l_is_row => k_is)
    (case l_l_is_row => k_is)
    (case d_l_is_row => k_is)
    (case k_l_is_row => k_is)
    (case a_l_judged => k_is)
    (case l_l_judged => k_is)
    (case d_l_judged => k_is)
    (case k_l_judged => k_is)
    (case a_law => k_is)
    (case l_law => k_is)
    (case d_law => k_is)
    (case k_law => k_is)
    (case n_abs => k_is)
    (case n_all => k_is)
    (case n_bool => k_is)
    (case n_enumerate => k_is)
    (case n_int => k_is)
    (case n_isinstance => k_is)
    (case n_len => k_is)
    (case n_list => k_is)
    (case n_max => k_is)
    (case n_min => k_is)
    (case n_range => k_is)
    (case n_str => k_is)
    (case n_tuple => k_is)
    (case n_zip => k_is)
#print axioms PySem.Challenge.cw_foldlog_k45_lows_raised_holds
