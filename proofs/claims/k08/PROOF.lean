import PyProof.Rows.All
import Wide.All
import OpenK.AllK
import Wide.FinOn
import HandS.ForMost
import HandS.Exc
import HandS.TryOnly
import HandS.ExcOwn
import HandS.WordsExc
import HandS.ExcInit
import HandS.Flow
import HandS.Style
import HandS.IsInst
import HandS.StrMore
import HandS.SortRule
import HandS.SortInts
import HandS.Wide
import HandS.TupAny
import HandS.Walk
import KE.DataMinMax
import HandS.SortKw
import HandS.More
import HandS.Zip
import HandS.CallLocal
import HandS.Text
import HandS.Replace
import HandS.FStr
import KE.IntTextLaws
import HandS.ExcField
import HandS.ExcIs
import KE.KExcIs
import HandS.DictComp
import HandS.Set
import HandS.SetFor
import HandS.Strs
import PyProof.FactsAll.set_2
import PyProof.MeetsSeq2
import HandS.DeepEq
import KE.KDictSum
import HandS.ExcValue
import HandS.Finally
import PyProof.MeetsStr3
import PyProof.StrBlock2
import PyProof.ReprRoads
import PyProof.ReprBulk
import PySem.Challenge.RW_foldlog_k08_spans_as_texts
set_option Elab.async false
set_option linter.all false
set_option maxRecDepth 100000
set_option maxHeartbeats 4000000
/-! G: my layer over the hand layer: worlds (a stable part, the whole heap), data, operators whatever the kinds, steps. -/
namespace G
open PySem L2

/-! ### worlds -/
/-- S: what will never change; H: all that stands -/
structure Wd where
  S : Hp
  H : Hp
  ok : Same S H

/-- from w to v: m the cells that were touched -/
structure Ext (m : Addr → Prop) (w v : Wd) : Prop where
  st : Same w.S v.S
  hp : ∀ b o, ¬ m b → w.H b = some o → v.H b = some o
  nw : ∀ b, ¬ m b → w.S b = none → w.H b ≠ none → v.S b = none
  al : ∀ b, w.H b ≠ none → v.H b ≠ none

abbrev Non : Addr → Prop := fun _ => False
abbrev One (l : Addr) : Addr → Prop := fun b => b = l
abbrev Two (l k : Addr) : Addr → Prop := fun b => b = l ∨ b = k

theorem Ext.refl (m : Addr → Prop) (w : Wd) : Ext m w w := ⟨fun _ _ h => h, fun _ _ _ h => h, fun _ _ h _ => h, fun _ h => h⟩
theorem Ext.back {m : Addr → Prop} {w v : Wd} {l : Addr} (e : Ext m w v) (h : v.H l = none) : w.H l = none := by
  cases q : w.H l with
  | none => rfl
  | some o => exact absurd h (e.al l (by rw [q]; exact fun z => by cases z))
theorem Ext.trans {m : Addr → Prop} {u w v : Wd} (a : Ext m u w) (b : Ext m w v) : Ext m u v :=
  ⟨fun c o h => b.st c o (a.st c o h), fun c o n h => b.hp c o n (a.hp c o n h), fun c n h q => b.nw c n (a.nw c n h q) (a.al c q), fun c h => b.al c (a.al c h)⟩
/-- a step that touches cells that u does not know, or may be touched -/
theorem Ext.step {m k : Addr → Prop} {u w v : Wd} (a : Ext m u w) (b : Ext k w v) (h : ∀ l, k l → u.H l = none ∨ m l) : Ext m u v := by
  have key : ∀ c, ¬ m c → u.H c ≠ none → ¬ k c := fun c n q z => (h c z).elim q n
  refine ⟨fun c o x => b.st c o (a.st c o x), fun c o n x => b.hp c o (key c n (by rw [x]; exact fun z => by cases z)) (a.hp c o n x), fun c n x q => b.nw c (key c n q) (a.nw c n x q) (a.al c q), fun c x => b.al c (a.al c x)⟩
theorem Ext.more {m k : Addr → Prop} {w v : Wd} (a : Ext m w v) (h : ∀ l, m l → w.H l = none ∨ k l) : Ext k w v := (Ext.refl k w).step a h

/-- a cell that is one's own -/
structure Own (w : Wd) (l : Addr) (o : HO) : Prop where
  s : w.S l = none
  h : w.H l = some o
theorem Own.ext {m : Addr → Prop} {w v : Wd} {l : Addr} {o : HO} (e : Ext m w v) (n : ¬ m l) (h : Own w l o) : Own v l o :=
  ⟨e.nw l n h.s (by rw [h.h]; exact fun z => by cases z), e.hp l o n h.h⟩
theorem Own.ne {w : Wd} {l p : Addr} {o : HO} (h : Own w l o) (n : w.H p = none) : l ≠ p := ne_of_none h.h n
theorem Own.ne' {w : Wd} {l p : Addr} {o : HO} (h : Own w l o) (n : w.H p = none) : p ≠ l := (ne_of_none h.h n).symm
theorem Own.nes {w : Wd} {l p : Addr} {o u : HO} (h : Own w l o) (n : w.S p = some u) : l ≠ p := fun e => by
  rw [← e, h.s] at n
  cases n

section
variable {w : Wd} {o u : HO} {l : Addr} {Q : VK} {R : Hp → Prop}
/-- a new stable thing -/
theorem newS (k : ∀ p v, Ext Non w v → w.H p = none → v.S p = some o → Q (.ref p) v.H) : ∀ p, w.H p = none → Q (.ref p) (upd w.H p o) := fun p hp => by
  have sp : w.S p = none := w.ok.free hp
  refine k p ⟨upd w.S p o, upd w.H p o, fun b q h => ?_⟩ ⟨fun b q h => ?_, fun b q _ h => ?_, fun b _ h z => ?_, fun b h => ?_⟩ hp upd_same
  · by_cases e : b = p
    · subst e
      rw [upd_same] at h
      rw [upd_same]
      exact h
    · rw [upd_ne e] at h
      rw [upd_ne e]
      exact w.ok b q h
  · show upd w.S p o b = some q
    rw [upd_ne (ne_of_none h sp)]
    exact h
  · show upd w.H p o b = some q
    rw [upd_ne (ne_of_none h hp)]
    exact h
  · have e : b ≠ p := fun e => by rw [e, hp] at z; exact z rfl
    show upd w.S p o b = none
    rw [upd_ne e]
    exact h
  · have e : b ≠ p := fun e => by rw [e, hp] at h; exact h rfl
    show upd w.H p o b ≠ none
    rw [upd_ne e]
    exact h
/-- a new thing of one's own -/
theorem newO (k : ∀ p v, Ext Non w v → w.H p = none → Own v p o → Q (.ref p) v.H) : ∀ p, w.H p = none → Q (.ref p) (upd w.H p o) := fun p hp => by
  have sp : w.S p = none := w.ok.free hp
  refine k p ⟨w.S, upd w.H p o, fun b q h => ?_⟩ ⟨fun b q h => h, fun b q _ h => ?_, fun b _ h z => h, fun b h => ?_⟩ hp ⟨sp, upd_same⟩
  · rw [upd_ne (ne_of_none h sp)]
    exact w.ok b q h
  · show upd w.H p o b = some q
    rw [upd_ne (ne_of_none h hp)]
    exact h
  · have e : b ≠ p := fun e => by rw [e, hp] at h; exact h rfl
    show upd w.H p o b ≠ none
    rw [upd_ne e]
    exact h
/-- a store into a cell of one's own -/
theorem put (h : Own w l o) (k : ∀ v, Ext (One l) w v → Own v l u → R v.H) : R (upd w.H l u) := by
  refine k ⟨w.S, upd w.H l u, fun b q x => ?_⟩ ⟨fun b q x => x, fun b q n x => ?_, fun b n x z => x, fun b x => ?_⟩ ⟨h.s, upd_same⟩
  · have e : b ≠ l := fun e => by rw [e, h.s] at x; cases x
    rw [upd_ne e]
    exact w.ok b q x
  · show upd w.H l u b = some q
    rw [upd_ne n]
    exact x
  · show upd w.H l u b ≠ none
    by_cases e : b = l
    · rw [e, upd_same]
      exact fun z => by cases z
    · rw [upd_ne e]
      exact x
/-- what one owns is laid among what never changes -/
theorem lay (h : Own w l o) (k : ∀ v, Ext (One l) w v → v.S l = some o → R v.H) : R w.H := by
  refine k ⟨upd w.S l o, w.H, fun b q x => ?_⟩ ⟨fun b q x => ?_, fun b q _ x => x, fun b n x z => ?_, fun b x => x⟩ upd_same
  · by_cases e : b = l
    · subst e
      rw [upd_same] at x
      exact (Option.some.inj x) ▸ h.h
    · rw [upd_ne e] at x
      exact w.ok b q x
  · show upd w.S l o b = some q
    rw [upd_ne (fun e => by rw [e, h.s] at x; cases x)]
    exact x
  · show upd w.S l o b = none
    rw [upd_ne n]
    exact x
end

/-! ### data that never changes -/
mutual
inductive Rp (S : Hp) : V → PyData → Prop
  | non : Rp S .non .none
  | bl (b : Bool) : Rp S (.bl b) (.bool b)
  | int (i : Int) : Rp S (.int i) (.int i)
  | str (x : Str) : Rp S (.str x) (.str x)
  | lst {a : Addr} {xs : List V} {ds : List PyData} : S a = some (.lst xs) → RpA S xs ds → Rp S (.ref a) (.list ds)
  | tup {a : Addr} {xs : List V} {ds : List PyData} : S a = some (.tup xs) → RpA S xs ds → Rp S (.ref a) (.tuple ds)
  | dct {a : Addr} {kvs : List (Key × V)} : S a = some (.dK kvs) → Rp S (.ref a) (.dict [])
inductive RpA (S : Hp) : List V → List PyData → Prop
  | nil : RpA S [] []
  | cons {v : V} {vs : List V} {d : PyData} {ds : List PyData} : Rp S v d → RpA S vs ds → RpA S (v :: vs) (d :: ds)
end
mutual
theorem Rp.mono {S T : Hp} (e : Same S T) : ∀ (d : PyData) (v : V), Rp S v d → Rp T v d
  | .none, _, h => by cases h; exact .non
  | .bool b, _, h => by cases h; exact .bl b
  | .int i, _, h => by cases h; exact .int i
  | .str x, _, h => by cases h; exact .str x
  | .list ds, _, h => by
    cases h with
    | lst h1 h2 => exact .lst (e _ _ h1) (RpA.mono e ds _ h2)
  | .tuple ds, _, h => by
    cases h with
    | tup h1 h2 => exact .tup (e _ _ h1) (RpA.mono e ds _ h2)
  | .dict _, _, h => by
    cases h with
    | dct h1 => exact .dct (e _ _ h1)
theorem RpA.mono {S T : Hp} (e : Same S T) : ∀ (ds : List PyData) (vs : List V), RpA S vs ds → RpA T vs ds
  | [], _, h => by cases h; exact .nil
  | d :: ds, _, h => by
    cases h with
    | cons h1 h2 => exact .cons (Rp.mono e d _ h1) (RpA.mono e ds _ h2)
end
theorem Rp.go {m : Addr → Prop} {w v : Wd} {x : V} {d : PyData} (e : Ext m w v) (h : Rp w.S x d) : Rp v.S x d := Rp.mono e.st d x h
theorem RpA.go {m : Addr → Prop} {w v : Wd} {x : List V} {d : List PyData} (e : Ext m w v) (h : RpA w.S x d) : RpA v.S x d := RpA.mono e.st d x h
theorem st_go {m : Addr → Prop} {w v : Wd} {a : Addr} {o : HO} (e : Ext m w v) (h : w.S a = some o) : v.S a = some o := e.st _ _ h
section
variable {S : Hp} {v : V} {vs us : List V} {ds es : List PyData} {d : PyData}
theorem Rp.list_inv (h : Rp S v (.list ds)) : ∃ a vs, v = .ref a ∧ S a = some (.lst vs) ∧ RpA S vs ds := by
  cases h with
  | lst h1 h2 => exact ⟨_, _, rfl, h1, h2⟩
theorem Rp.tuple_inv (h : Rp S v (.tuple ds)) : ∃ a vs, v = .ref a ∧ S a = some (.tup vs) ∧ RpA S vs ds := by
  cases h with
  | tup h1 h2 => exact ⟨_, _, rfl, h1, h2⟩
theorem Rp.int_inv {i : Int} (h : Rp S v (.int i)) : v = .int i := by cases h; rfl
theorem Rp.str_inv {i : Str} (h : Rp S v (.str i)) : v = .str i := by cases h; rfl
theorem Rp.bool_inv {i : Bool} (h : Rp S v (.bool i)) : v = .bl i := by cases h; rfl
theorem Rp.none_inv (h : Rp S v .none) : v = .non := by cases h; rfl
theorem RpA.length : ∀ {vs : List V} {ds : List PyData}, RpA S vs ds → vs.length = ds.length
  | _, _, .nil => rfl
  | _, _, .cons _ t => by rw [List.length_cons, List.length_cons, RpA.length t]
theorem RpA.get : ∀ {vs : List V} {ds : List PyData} {i : Nat} {v : V}, RpA S vs ds → vs[i]? = some v → ∃ d, ds[i]? = some d ∧ Rp S v d
  | _, _, i, _, .nil, h => by simp at h
  | _, _, 0, _, .cons r _, h => by simp at h; subst h; exact ⟨_, rfl, r⟩
  | _, _, i + 1, _, .cons _ t, h => by
    obtain ⟨d, h1, h2⟩ := RpA.get (i := i) t (by simpa using h)
    exact ⟨d, by simpa using h1, h2⟩
theorem RpA.get' : ∀ {vs : List V} {ds : List PyData} {i : Nat} {d : PyData}, RpA S vs ds → ds[i]? = some d → ∃ v, vs[i]? = some v ∧ Rp S v d
  | _, _, i, _, .nil, h => by simp at h
  | _, _, 0, _, .cons r _, h => by simp at h; subst h; exact ⟨_, rfl, r⟩
  | _, _, i + 1, _, .cons _ t, h => by
    obtain ⟨d, h1, h2⟩ := RpA.get' (i := i) t (by simpa using h)
    exact ⟨d, by simpa using h1, h2⟩
theorem RpA.append : ∀ {vs us : List V} {ds es : List PyData}, RpA S vs ds → RpA S us es → RpA S (vs ++ us) (ds ++ es)
  | _, _, _, _, .nil, h => h
  | _, _, _, _, .cons r t, h => .cons r (RpA.append t h)
theorem RpA.take : ∀ {vs : List V} {ds : List PyData} (n : Nat), RpA S vs ds → RpA S (vs.take n) (ds.take n)
  | _, _, 0, _ => .nil
  | _, _, _ + 1, .nil => .nil
  | _, _, n + 1, .cons r t => .cons r (RpA.take n t)
theorem RpA.drop : ∀ {vs : List V} {ds : List PyData} (n : Nat), RpA S vs ds → RpA S (vs.drop n) (ds.drop n)
  | _, _, 0, h => h
  | _, _, _ + 1, .nil => .nil
  | _, _, n + 1, .cons _ t => RpA.drop n t
theorem RpA.one (h : Rp S v d) : RpA S [v] [d] := .cons h .nil
theorem RpA.snoc (h : RpA S vs ds) (k : Rp S v d) : RpA S (vs ++ [v]) (ds ++ [d]) := h.append (.one k)
theorem RpA.reverse : ∀ {vs : List V} {ds : List PyData}, RpA S vs ds → RpA S vs.reverse ds.reverse
  | _, _, .nil => .nil
  | _, _, .cons r t => by
    rw [List.reverse_cons, List.reverse_cons]
    exact t.reverse.snoc r
theorem RpA.set : ∀ {vs : List V} {ds : List PyData} (i : Nat) {v : V} {d : PyData}, RpA S vs ds → Rp S v d → RpA S (vs.set i v) (ds.set i d)
  | _, _, _, _, _, .nil, _ => .nil
  | _, _, 0, _, _, .cons _ t, h => .cons h t
  | _, _, i + 1, _, _, .cons r t, h => .cons r (RpA.set i t h)
theorem RpA.ints : ∀ {ns : List Int}, RpA S (ns.map V.int) (ns.map PyData.int)
  | [] => .nil
  | n :: ns => .cons (.int n) RpA.ints
theorem RpA.ints_inv : ∀ {vs : List V} {ns : List Int}, RpA S vs (ns.map PyData.int) → vs = ns.map V.int
  | _, [], h => by cases h; rfl
  | _, n :: ns, h => by
    cases h with
    | cons h1 h2 =>
      rw [h1.int_inv, RpA.ints_inv h2]
      rfl
theorem RpA.strs_inv : ∀ {vs : List V} {ns : List Str}, RpA S vs (ns.map PyData.str) → vs = ns.map V.str
  | _, [], h => by cases h; rfl
  | _, n :: ns, h => by
    cases h with
    | cons h1 h2 =>
      rw [h1.str_inv, RpA.strs_inv h2]
      rfl
end
/-- no dict within -/
def nd : PyData → Bool
  | .dict _ => false
  | .list ds => ds.attach.all fun ⟨d, _⟩ => nd d
  | .tuple ds => ds.attach.all fun ⟨d, _⟩ => nd d
  | _ => true
mutual
theorem Rp.dp {K : PySem.W.Frag} {S : Hp} : ∀ (d : PyData) (v : V), Rp S v d → nd d = true → Dp K S v d
  | .none, _, h, _ => by cases h; exact .non
  | .bool b, _, h, _ => by cases h; exact .bl b
  | .int i, _, h, _ => by cases h; exact .int i
  | .str x, _, h, _ => by cases h; exact .str x
  | .list ds, _, h, n => by
    cases h with
    | lst h1 h2 =>
      unfold nd at n
      rw [List.all_eq_true] at n
      exact .lst (SqL.of h1) (RpA.dp ds _ h2 fun d hd => n ⟨d, hd⟩ (List.mem_attach ..))
  | .tuple ds, _, h, n => by
    cases h with
    | tup h1 h2 =>
      unfold nd at n
      rw [List.all_eq_true] at n
      exact .tup (SqT.of h1) (RpA.dp ds _ h2 fun d hd => n ⟨d, hd⟩ (List.mem_attach ..))
  | .dict _, _, h, n => by unfold nd at n; cases n
theorem RpA.dp {K : PySem.W.Frag} {S : Hp} : ∀ (ds : List PyData) (vs : List V), RpA S vs ds → (∀ d ∈ ds, nd d = true) → DpAll K S vs ds
  | [], _, h, _ => by cases h; exact .nil
  | d :: ds, _, h, n => by
    cases h with
    | cons h1 h2 => exact .cons (Rp.dp d _ h1 (n d List.mem_cons_self)) (RpA.dp ds _ h2 fun e he => n e (List.mem_cons_of_mem _ he))
end
mutual
theorem dp_mono {K : PySem.W.Frag} {S T : Hp} (e : Same S T) : ∀ (d : PyData) (v : V), Dp K S v d → Dp K T v d
  | .none, _, h => by cases h; exact .non
  | .bool b, _, h => by cases h; exact .bl b
  | .int i, _, h => by cases h; exact .int i
  | .str x, _, h => by cases h; exact .str x
  | .list ds, _, h => by
    cases h with
    | lst h1 h2 => exact .lst (e.seq h1) (dp_monoA e ds _ h2)
  | .tuple ds, _, h => by
    cases h with
    | tup h1 h2 => exact .tup (h1.elim (fun q => q.elim (fun z => SqT.of (e _ _ z)) fun ⟨o, z⟩ => .inl (.inr ⟨o, e _ _ z⟩)) .inr) (dp_monoA e ds _ h2)
  | .dict _, _, h => by cases h
theorem dp_monoA {K : PySem.W.Frag} {S T : Hp} (e : Same S T) : ∀ (ds : List PyData) (vs : List V), DpAll K S vs ds → DpAll K T vs ds
  | [], _, h => by cases h; exact .nil
  | d :: ds, _, h => by
    cases h with
    | cons h1 h2 => exact .cons (dp_mono e d _ h1) (dp_monoA e ds _ h2)
end
theorem sqt_mono {K : PySem.W.Frag} {S T : Hp} (e : Same S T) {a : Addr} {xs : List V} (h : SqT K S a xs) : SqT K T a xs :=
  h.elim (fun q => q.elim (fun z => SqT.of (e _ _ z)) fun ⟨o, z⟩ => .inl (.inr ⟨o, e _ _ z⟩)) .inr
end G

set_option Elab.async false
set_option linter.all false
set_option maxRecDepth 100000
set_option maxHeartbeats 4000000
/-! G2: operators whatever the kinds; steps through readings. -/
namespace G
open PySem L2
section
variable {X : Cx}
/-! ### operators whatever the kinds -/
def gAdd (K : PySem.W.Frag) : R2 := fun x y H Q => match x, y with
  | .int i, .int j => Q (.int (i + j)) H
  | .str i, .str j => i.length + j.length ≤ sizeLine ∧ Q (.str (i ++ j)) H
  | .ref a, .ref b => (∃ xs zs, H a = some (.lst xs) ∧ H b = some (.lst zs) ∧ xs.length + zs.length ≤ sizeLine ∧ ∀ p, H p = none → Q (.ref p) (upd H p (.lst (xs ++ zs)))) ∨ rCatA K (.ref a) (.ref b) H Q
  | _, _ => False
theorem g_add : OpR X (binaryOp .Add) (gAdd X.K) := by
  intro pins s σ H x y v u Q I rx ry h
  cases x <;> cases y <;> first | exact h.elim | skip
  case int.int i j => exact op_add pins s σ H _ _ v u Q I rx ry ⟨i, j, rfl, rfl, h⟩
  case str.str i j => exact op_add_str pins s σ H _ _ v u Q I rx ry ⟨i, j, rfl, rfl, h.1, h.2⟩
  case ref.ref a b =>
    rcases h with ⟨xs, zs, h1, h2, h3, h4⟩ | h
    · exact op_cat pins s σ H _ _ v u Q I rx ry ⟨a, b, xs, zs, rfl, rfl, h1, h2, h3, h4⟩
    · exact op_catA pins s σ H _ _ v u Q I rx ry h
def gMul (K : PySem.W.Frag) : R2 := fun x y H Q => match x, y with
  | .int i, .int j => (CMul i j ∨ CMulW i j) ∧ Q (.int (i * j)) H
  | .ref a, .int k => ∃ xs, H a = some (.lst xs) ∧ -(2 ^ 63) ≤ k ∧ k < 2 ^ 63 ∧ xs.length * k.toNat ≤ sizeLine ∧ ∀ p, H p = none → Q (.ref p) (upd H p (.lst (List.replicate k.toNat xs).flatten))
  | _, _ => False
def gSub : R2 := fun x y H Q => match x, y with
  | .int i, .int j => Q (.int (i - j)) H
  | _, _ => False
theorem g_sub : OpR X (binaryOp .Sub) gSub := by
  intro pins s σ H x y v u Q I rx ry h
  cases x <;> cases y <;> first | exact h.elim | skip
  case int.int i j => exact op_sub pins s σ H _ _ v u Q I rx ry ⟨i, j, rfl, rfl, h⟩
/-- any divisor above nought, of fewer than 9,000 bits -/
def gDiv : R2 := fun x y H Q => match x, y with
  | .int i, .int j => CDivW i j ∧ Q (.int (i / j)) H
  | _, _ => False
theorem g_div : OpR X (binaryOp .FloorDiv) gDiv := by
  intro pins s σ H x y v u Q I rx ry h
  cases x <;> cases y <;> first | exact h.elim | skip
  case int.int i j => exact op_fdivW pins s σ H _ _ v u Q I rx ry ⟨i, j, rfl, rfl, h.1, h.2⟩
def gMod : R2 := fun x y H Q => match x, y with
  | .int i, .int j => 0 < j ∧ Q (.int (i % j)) H
  | _, _ => False
theorem g_mod : OpR X (binaryOp .Mod) gMod := by
  intro pins s σ H x y v u Q I rx ry h
  cases x <;> cases y <;> first | exact h.elim | skip
  case int.int i j => exact op_mod pins s σ H _ _ v u Q I rx ry ⟨i, j, rfl, rfl, h.1, h.2⟩
def gPow : R2 := fun x y H Q => match x, y with
  | .int i, .int j => CPow i j ∧ Q (.int (i ^ j.toNat)) H
  | _, _ => False
theorem g_pow : OpR X (binaryOp .Pow) gPow := by
  intro pins s σ H x y v u Q I rx ry h
  cases x <;> cases y <;> first | exact h.elim | skip
  case int.int i j => exact op_pow pins s σ H _ _ v u Q I rx ry ⟨i, j, rfl, rfl, h.1, h.2⟩
def gLt : R2 := fun x y H Q => match x, y with
  | .int i, .int j => Q (.bl (decide (i < j))) H
  | .str i, .str j => Q (.bl (decide (i.cps.toList < j.cps.toList))) H
  | _, _ => False
theorem g_lt : OpR X (compareOp .Lt) gLt := by
  intro pins s σ H x y v u Q I rx ry h
  cases x <;> cases y <;> first | exact h.elim | skip
  case int.int i j => exact op_lt pins s σ H _ _ v u Q I rx ry ⟨i, j, rfl, rfl, h⟩
  case str.str i j => exact op_lt_str pins s σ H _ _ v u Q I rx ry ⟨i, j, rfl, rfl, h⟩
def gLe : R2 := fun x y H Q => match x, y with
  | .int i, .int j => Q (.bl (decide (i ≤ j))) H
  | .str i, .str j => Q (.bl (!decide (j.cps.toList < i.cps.toList))) H
  | _, _ => False
theorem g_le : OpR X (compareOp .LtE) gLe := by
  intro pins s σ H x y v u Q I rx ry h
  cases x <;> cases y <;> first | exact h.elim | skip
  case int.int i j => exact op_le pins s σ H _ _ v u Q I rx ry ⟨i, j, rfl, rfl, h⟩
  case str.str i j => exact op_le_str pins s σ H _ _ v u Q I rx ry ⟨i, j, rfl, rfl, h⟩
def gGt : R2 := fun x y H Q => match x, y with
  | .int i, .int j => Q (.bl (decide (j < i))) H
  | _, _ => False
theorem g_gt : OpR X (compareOp .Gt) gGt := by
  intro pins s σ H x y v u Q I rx ry h
  cases x <;> cases y <;> first | exact h.elim | skip
  case int.int i j => exact op_gt pins s σ H _ _ v u Q I rx ry ⟨i, j, rfl, rfl, h⟩
def gGe : R2 := fun x y H Q => match x, y with
  | .int i, .int j => Q (.bl (decide (j ≤ i))) H
  | _, _ => False
theorem g_ge : OpR X (compareOp .GtE) gGe := by
  intro pins s σ H x y v u Q I rx ry h
  cases x <;> cases y <;> first | exact h.elim | skip
  case int.int i j => exact op_ge pins s σ H _ _ v u Q I rx ry ⟨i, j, rfl, rfl, h⟩
/-- ==: two plain values, or data -/
def gEq (K : PySem.W.Frag) : R2 := fun x y H Q => rEq x y H Q ∨ rEqD K x y H Q
theorem g_eq (hu : X.A.units + 64 < cLine) : OpR X (compareOp .Eq) (gEq X.K) := op_eq.or (op_eqD hu)
def gNe (K : PySem.W.Frag) : R2 := fun x y H Q => rNe x y H Q ∨ rNeD K x y H Q
theorem g_ne (hu : X.A.units + 64 < cLine) : OpR X (compareOp .NotEq) (gNe X.K) := op_ne.or (op_neD hu)
def gIs : R2 := fun x y H Q => match y with
  | .non => Q (.bl (decide (x = .non))) H
  | .bl b => ∃ a, x = .bl a ∧ Q (.bl (decide (a = b))) H
  | _ => False
theorem g_is : OpR X (compareOp .Is) gIs := by
  intro pins s σ H x y v u Q I rx ry h
  cases y <;> first | exact h.elim | skip
  case non => exact op_isN pins s σ H _ _ v u Q I rx ry ⟨rfl, h⟩
  case bl b =>
    obtain ⟨a, rfl, h⟩ := h
    exact op_isBl pins s σ H _ _ v u Q I rx ry ⟨a, b, rfl, rfl, h⟩
def gIsNot : R2 := fun x y H Q => match y with
  | .non => Q (.bl (!decide (x = .non))) H
  | .bl b => ∃ a, x = .bl a ∧ Q (.bl (!decide (a = b))) H
  | _ => False
theorem g_isnot : OpR X (compareOp .IsNot) gIsNot := by
  intro pins s σ H x y v u Q I rx ry h
  cases y <;> first | exact h.elim | skip
  case non => exact op_notN pins s σ H _ _ v u Q I rx ry ⟨rfl, h⟩
  case bl b =>
    obtain ⟨a, rfl, h⟩ := h
    exact op_notBl pins s σ H _ _ v u Q I rx ry ⟨a, b, rfl, rfl, h⟩
/-- in: a sign in a text; a flat thing in a list or tuple of flat things -/
def gIn (K : PySem.W.Frag) : R2 := fun x y H Q => match x, y with
  | .str a, .str z => ∃ c, a = ⟨#[c]⟩ ∧ Q (.bl (decide (c ∈ z.cps.toList))) H
  | x, y => rIn K false x y H Q
theorem g_in : OpR X (compareOp .In) (gIn X.K) := by
  intro pins s σ H x y v u Q I rx ry h
  have two : (∃ a z, x = .str a ∧ y = .str z) ∨ rIn X.K false x y H Q := by
    cases x <;> cases y <;> first | exact .inl ⟨_, _, rfl, rfl⟩ | exact .inr h
  rcases two with ⟨a, z, rfl, rfl⟩ | h
  · obtain ⟨c, rfl, h⟩ := h
    exact op_in_sign pins s σ H _ _ v u Q I rx ry ⟨c, z, rfl, rfl, h⟩
  · exact op_in_seq pins s σ H _ _ v u Q I rx ry h
def gNotIn (K : PySem.W.Frag) : R2 := fun x y H Q => match x, y with
  | .str a, .str z => ∃ c, a = ⟨#[c]⟩ ∧ Q (.bl (!decide (c ∈ z.cps.toList))) H
  | x, y => rIn K true x y H Q
theorem g_notin : OpR X (compareOp .NotIn) (gNotIn X.K) := by
  intro pins s σ H x y v u Q I rx ry h
  have two : (∃ a z, x = .str a ∧ y = .str z) ∨ rIn X.K true x y H Q := by
    cases x <;> cases y <;> first | exact .inl ⟨_, _, rfl, rfl⟩ | exact .inr h
  rcases two with ⟨a, z, rfl, rfl⟩ | h
  · obtain ⟨c, rfl, h⟩ := h
    exact op_notIn_sign pins s σ H _ _ v u Q I rx ry ⟨c, z, rfl, rfl, h⟩
  · exact op_notIn_seq pins s σ H _ _ v u Q I rx ry h
/-- x[i] of a list, a tuple, a text -/
def gIx (K : PySem.W.Frag) : R2 := fun x y H Q => match x, y with
  | .ref p, .int i => ∃ xs v, (SqL K H p xs ∨ SqT K H p xs) ∧ atI xs i = some v ∧ Q v H
  | .str z, .int i => ∃ c, z.length ≤ sizeLine ∧ atI z.cps.toList i = some c ∧ Q (.str ⟨#[c]⟩) H
  | _, _ => False
theorem g_ix : IxR X (gIx X.K) := by
  intro value slice pins s σ H x y v u Q I rx ry h hs
  cases x <;> cases y <;> first | exact h.elim | skip
  case ref.int p i =>
    obtain ⟨xs, z, h1 | h1, h2, h3⟩ := h
    · exact ix_list value slice pins s σ H _ _ v u Q I rx ry ⟨p, xs, i, z, rfl, rfl, h1, h2, h3⟩ hs
    · exact ix_tup value slice pins s σ H _ _ v u Q I rx ry ⟨p, xs, i, z, rfl, rfl, h1, h2, h3⟩ hs
  case str.int z i =>
    obtain ⟨c, h1, h2, h3⟩ := h
    exact ix_str value slice pins s σ H _ _ v u Q I rx ry ⟨z, i, c, rfl, rfl, h1, h2, h3⟩ hs
/-- x[lo:hi] -/
def gSl (K : PySem.W.Frag) : V → Option Int → Option Int → Hp → VK → Prop := fun x lo hi H Q => match x with
  | .str z => z.length ≤ sizeLine ∧ Q (.str (cutS z lo hi)) H
  | .ref a => (∃ xs, SqL K H a xs ∧ ∀ p, H p = none → Q (.ref p) (upd H p (.lst (cutV xs lo hi)))) ∨ rSlA K (.ref a) lo hi H Q
  | _ => False
theorem g_sl : SlR X (gSl X.K) := by
  intro pins s σ H x v vl vu lo hi sl Q I rx hs pl pu h
  cases x <;> first | exact h.elim | skip
  case str z => exact sl_str pins s σ H _ v vl vu lo hi sl Q I rx hs pl pu ⟨z, rfl, h.1, h.2⟩
  case ref a =>
    rcases h with ⟨xs, h1, h2⟩ | h
    · exact sl_list pins s σ H _ v vl vu lo hi sl Q I rx hs pl pu ⟨a, xs, rfl, h1, h2⟩
    · exact sl_tupA pins s σ H _ v vl vu lo hi sl Q I rx hs pl pu h
/-- len -/
def gLen (K : PySem.W.Frag) : List V → Hp → VK → Prop := fun vs H Q => match vs with
  | [.ref p] => ∃ n : Nat, ((∃ ys, (SqL K H p ys ∨ SqT K H p ys) ∧ n = ys.length) ∨ ∃ kvs, H p = some (.dK kvs) ∧ n = kvs.length) ∧ Q (.int n) H
  | [.str z] => z.length ≤ sizeLine ∧ Q (.int z.length) H
  | _ => False
theorem g_len : CallR X (.builtin "len") (gLen X.K) := by
  intro pins s σ H xs us Q I r h
  match xs, h with
  | [.ref p], h =>
    obtain ⟨n, ⟨ys, h1, rfl⟩ | ⟨kvs, h1, rfl⟩, h2⟩ := h
    · exact call_len_seq pins s σ H _ us Q I r ⟨p, ys, rfl, h1, h2⟩
    · exact call_lenD pins s σ H _ us Q I r ⟨p, kvs, rfl, h1, h2⟩
  | [.str z], h => exact call_len_str pins s σ H _ us Q I r ⟨z, rfl, h.1, h.2⟩
/-- max of two numbers, or of a list of them -/
def gMax (K : PySem.W.Frag) : List V → Hp → VK → Prop := fun vs H Q => match vs with
  | [.int i, .int j] => Q (.int (max i j)) H
  | vs => rMax K vs H Q
theorem max_if (i j : Int) : (if j > i then j else i) = max i j := by omega
theorem min_if (i j : Int) : (if j < i then j else i) = min i j := by omega
theorem g_max (hc : X.calm = true) : CallR X (.builtin "max") (gMax X.K) := by
  intro pins s σ H xs us Q I r h
  have two : (∃ i j, xs = [.int i, .int j]) ∨ rMax X.K xs H Q := by
    unfold gMax at h
    split at h
    · exact .inl ⟨_, _, rfl⟩
    · exact .inr h
  rcases two with ⟨i, j, rfl⟩ | h
  · exact call_max2 hc pins s σ H _ us Q I r ⟨i, j, rfl, by rw [max_if]; exact h⟩
  · exact cr_max hc pins s σ H _ us Q I r h
def gMin (K : PySem.W.Frag) : List V → Hp → VK → Prop := fun vs H Q => match vs with
  | [.int i, .int j] => Q (.int (min i j)) H
  | vs => rMin K vs H Q
theorem g_min (hc : X.calm = true) : CallR X (.builtin "min") (gMin X.K) := by
  intro pins s σ H xs us Q I r h
  have two : (∃ i j, xs = [.int i, .int j]) ∨ rMin X.K xs H Q := by
    unfold gMin at h
    split at h
    · exact .inl ⟨_, _, rfl⟩
    · exact .inr h
  rcases two with ⟨i, j, rfl⟩ | h
  · exact call_min2 hc pins s σ H _ us Q I r ⟨i, j, rfl, by rw [min_if]; exact h⟩
  · exact cr_min hc pins s σ H _ us Q I r h
def gAbs : List V → Hp → VK → Prop := fun vs H Q => match vs with
  | [.int i] => Q (.int i.natAbs) H
  | _ => False
theorem g_abs : CallR X (.builtin "abs") gAbs := by
  intro pins s σ H xs us Q I r h
  match xs, h with
  | [.int i], h => exact call_abs pins s σ H _ us Q I r ⟨i, rfl, by
      have e : (if i < 0 then -i else i) = (i.natAbs : Int) := by omega
      rw [e]; exact h⟩
def gInt : List V → Hp → VK → Prop := fun vs H Q => match vs with
  | [.int i] => Q (.int i) H
  | [.bl b] => Q (.int (if b then 1 else 0)) H
  | [.str a] => ∃ n, PySem.intText? a = some n ∧ a.length ≤ 640 ∧ Q (.int n) H
  | _ => False
theorem g_int : CallR X (.type "int") gInt := by
  intro pins s σ H xs us Q I r h
  match xs, h with
  | [.int i], h => exact call_int1 pins s σ H _ us Q I r (.inl ⟨i, rfl, h⟩)
  | [.bl i], h => exact call_int1 pins s σ H _ us Q I r (.inr ⟨i, rfl, h⟩)
  | [.str a], h =>
    obtain ⟨n, h1, h2, h3⟩ := h
    exact call_int_str pins s σ H _ us Q I r ⟨a, n, rfl, h1, h2, h3⟩
def gStr : List V → Hp → VK → Prop := fun vs H Q => match vs with
  | [.int i] => i.natAbs.log2 < 1920 ∧ Q (.str (toString i)) H
  | _ => False
theorem g_str : CallR X (.type "str") gStr := by
  intro pins s σ H xs us Q I r h
  match xs, h with
  | [.int i], h => exact call_str_int pins s σ H _ us Q I r ⟨i, rfl, h.1, h.2⟩
/-- list(x): of a list, a tuple -/
def gList (K : PySem.W.Frag) : List V → Hp → VK → Prop := fun vs H Q => match vs with
  | [.ref p] => ∃ ys, (SqL K H p ys ∨ SqT K H p ys) ∧ ∀ l, H l = none → Q (.ref l) (upd H l (.lst ys))
  | _ => False
theorem g_list : CallR X (.type "list") (gList X.K) := by
  intro pins s σ H xs us Q I r h
  match xs, h with
  | [.ref p], h =>
    obtain ⟨ys, h1, h2⟩ := h
    exact call_list_of pins s σ H _ us Q I r ⟨p, ys, rfl, h1, h2⟩
def gTuple (K : PySem.W.Frag) : List V → Hp → VK → Prop := fun vs H Q => match vs with
  | [.ref p] => ∃ ys, ((SqL K H p ys ∧ ∀ l, H l = none → Q (.ref l) (upd H l (.tup ys))) ∨ (SqT K H p ys ∧ Q (.ref p) H))
  | _ => False
theorem g_tuple : CallR X (.type "tuple") (gTuple X.K) := by
  intro pins s σ H xs us Q I r h
  match xs, h with
  | [.ref p], h =>
    obtain ⟨ys, h1⟩ := h
    exact call_tuple_of pins s σ H _ us Q I r ⟨p, ys, rfl, h1⟩
def gDivmod : List V → Hp → VK → Prop := fun vs H Q => match vs with
  | [.int i, .int j] => CDiv i j ∧ ∀ p, H p = none → Q (.ref p) (upd H p (.tup [.int (i / j), .int (i % j)]))
  | _ => False
theorem g_divmod : CallR X (.builtin "divmod") gDivmod := by
  intro pins s σ H xs us Q I r h
  match xs, h with
  | [.int i, .int j], h => exact call_divmod pins s σ H _ us Q I r ⟨i, j, rfl, h.1, h.2⟩
end
end G

set_option Elab.async false
set_option linter.all false
set_option maxRecDepth 100000
set_option maxHeartbeats 4000000
/-! G3: steps through readings, loops over worlds, the tactics. -/
namespace G
open PySem L2
section
variable {X : Cx} {K : PySem.W.Frag}
theorem g_mul : OpR X (binaryOp .Mult) (gMul X.K) := by
  intro pins s σ H x y v u Q I rx ry h
  cases x <;> cases y <;> first | exact h.elim | skip
  case int.int i j =>
    rcases h with ⟨h | h, q⟩
    · exact op_mul pins s σ H _ _ v u Q I rx ry ⟨i, j, rfl, rfl, h, q⟩
    · exact op_mulW pins s σ H _ _ v u Q I rx ry ⟨i, j, rfl, rfl, h, q⟩
  case ref.int a k =>
    obtain ⟨xs, h1, h2, h3, h4, h5⟩ := h
    exact op_rep pins s σ H _ _ v u Q I rx ry ⟨a, k, xs, rfl, rfl, h1, h2, h3, h4, h5⟩
end

/-! ### kinds -/
def isInt : PyData → Bool | .int _ => true | .bool _ => true | _ => false
def isBool : PyData → Bool | .bool _ => true | _ => false
def isStr : PyData → Bool | .str _ => true | _ => false
def isList : PyData → Bool | .list _ => true | _ => false
def isTup : PyData → Bool | .tuple _ => true | _ => false
def isDict : PyData → Bool | .dict _ => true | _ => false
def tyN : PyData → String | .none => "NoneType" | .bool _ => "bool" | .int _ => "int" | .str _ => "str" | .list _ => "list" | .tuple _ => "tuple" | .dict _ => "dict"
theorem Rp.ty {K : PySem.W.Frag} {w : Wd} {x : V} {d : PyData} (h : Rp w.S x d) : TyX K w.H x (.type (tyN d)) := by
  cases h with
  | non => exact .base .non
  | bl b => exact .base (.bl b)
  | int i => exact .base (.int i)
  | str s => exact .base (.str s)
  | lst h1 _ => exact .base (.lst (w.ok _ _ h1))
  | tup h1 _ => exact .base (.tup (w.ok _ _ h1))
  | dct h1 => exact .base (.dK (w.ok _ _ h1))
def isT (T : String) (d : PyData) : Option Bool := kitB (tyN d) T
theorem s_isi {K : PySem.W.Frag} {w : Wd} {x : V} {d : PyData} {T : String} {b : Bool} {Q : VK} (h : Rp w.S x d) (e : isT T d = some b) (k : Q (.bl b) w.H) : rIsi K [x, .ty T] w.H Q :=
  ⟨x, .ty T, _, _, b, rfl, .ty T, h.ty, kit_ty e, k⟩
theorem isT_int : ∀ d : PyData, isT "int" d = some (isInt d)
  | .none => (by decide +kernel : kitB "NoneType" "int" = some false)
  | .bool _ => (by decide +kernel : kitB "bool" "int" = some true)
  | .int _ => (by decide +kernel : kitB "int" "int" = some true)
  | .str _ => (by decide +kernel : kitB "str" "int" = some false)
  | .list _ => (by decide +kernel : kitB "list" "int" = some false)
  | .tuple _ => (by decide +kernel : kitB "tuple" "int" = some false)
  | .dict _ => (by decide +kernel : kitB "dict" "int" = some false)
theorem isT_bool : ∀ d : PyData, isT "bool" d = some (isBool d)
  | .none => (by decide +kernel : kitB "NoneType" "bool" = some false)
  | .bool _ => (by decide +kernel : kitB "bool" "bool" = some true)
  | .int _ => (by decide +kernel : kitB "int" "bool" = some false)
  | .str _ => (by decide +kernel : kitB "str" "bool" = some false)
  | .list _ => (by decide +kernel : kitB "list" "bool" = some false)
  | .tuple _ => (by decide +kernel : kitB "tuple" "bool" = some false)
  | .dict _ => (by decide +kernel : kitB "dict" "bool" = some false)
theorem isT_str : ∀ d : PyData, isT "str" d = some (isStr d)
  | .none => (by decide +kernel : kitB "NoneType" "str" = some false)
  | .bool _ => (by decide +kernel : kitB "bool" "str" = some false)
  | .int _ => (by decide +kernel : kitB "int" "str" = some false)
  | .str _ => (by decide +kernel : kitB "str" "str" = some true)
  | .list _ => (by decide +kernel : kitB "list" "str" = some false)
  | .tuple _ => (by decide +kernel : kitB "tuple" "str" = some false)
  | .dict _ => (by decide +kernel : kitB "dict" "str" = some false)
theorem isT_list : ∀ d : PyData, isT "list" d = some (isList d)
  | .none => (by decide +kernel : kitB "NoneType" "list" = some false)
  | .bool _ => (by decide +kernel : kitB "bool" "list" = some false)
  | .int _ => (by decide +kernel : kitB "int" "list" = some false)
  | .str _ => (by decide +kernel : kitB "str" "list" = some false)
  | .list _ => (by decide +kernel : kitB "list" "list" = some true)
  | .tuple _ => (by decide +kernel : kitB "tuple" "list" = some false)
  | .dict _ => (by decide +kernel : kitB "dict" "list" = some false)
theorem isT_tup : ∀ d : PyData, isT "tuple" d = some (isTup d)
  | .none => (by decide +kernel : kitB "NoneType" "tuple" = some false)
  | .bool _ => (by decide +kernel : kitB "bool" "tuple" = some false)
  | .int _ => (by decide +kernel : kitB "int" "tuple" = some false)
  | .str _ => (by decide +kernel : kitB "str" "tuple" = some false)
  | .list _ => (by decide +kernel : kitB "list" "tuple" = some false)
  | .tuple _ => (by decide +kernel : kitB "tuple" "tuple" = some true)
  | .dict _ => (by decide +kernel : kitB "dict" "tuple" = some false)
theorem isT_dict : ∀ d : PyData, isT "dict" d = some (isDict d)
  | .none => (by decide +kernel : kitB "NoneType" "dict" = some false)
  | .bool _ => (by decide +kernel : kitB "bool" "dict" = some false)
  | .int _ => (by decide +kernel : kitB "int" "dict" = some false)
  | .str _ => (by decide +kernel : kitB "str" "dict" = some false)
  | .list _ => (by decide +kernel : kitB "list" "dict" = some false)
  | .tuple _ => (by decide +kernel : kitB "tuple" "dict" = some false)
  | .dict _ => (by decide +kernel : kitB "dict" "dict" = some true)

/-! ### steps -/
section
variable {X : Cx} {K : PySem.W.Frag} {σ σ' : L2.St} {H : Hp} {Q : VK} {v x y : V} {i n : Nat} {ta tb tc te : TE} {t u : TT} {r r' : R2} {D : Ends} {A : TA} {w : Wd} {vs : List V}
theorem s_seq {t u : TS} (k : t { D with nx := u D } σ H) : tSeq t u D σ H := k
theorem s_next (k : D.nx σ H) : tNext D σ H := k
theorem s_asg {g : TG} (k : te σ H fun x H1 => g x σ H1 D.nx) : tAsg te g D σ H := k
theorem s_gname {R : L2.St → Hp → Prop} (e : σ.set i (some v) = σ') (k : R σ' H) : gName i v σ H R := by subst e; exact k
theorem s_drop (k : te σ H fun _ H1 => D.nx σ H1) : tDrop te D σ H := k
theorem s_ret (k : te σ H D.rt) : tRet te D σ H := k
theorem s_retN (k : D.rt .non H) : tRetN D σ H := k
theorem s_break (k : D.bk σ H) : tBreak D σ H := k
theorem s_cont (k : D.ct σ H) : tCont D σ H := k
theorem s_ifS {c : TT} {t u : TS} (k : c σ H fun b H1 => if b = true then t D σ H1 else u D σ H1) : tIfS c t u D σ H := k
theorem s_aug {ti : TIp} (e : σ[i]? = some (some x)) (k : te σ H fun y H1 => ti x y H1 fun z H2 => D.nx (σ.set i (some z)) H2) : tAug i te ti D σ H := ⟨x, e, k⟩
theorem s_var (e : σ[i]? = some (some v)) (k : Q v H) : tVar i σ H Q := ⟨v, e, k⟩
theorem s_c (k : Q v H) : tC v σ H Q := k
theorem s_op (k : ta σ H fun x H1 => tb σ H1 fun y H2 => r x y H2 Q) : tOp r ta tb σ H Q := k
theorem s_un {r : V → Hp → VK → Prop} (k : ta σ H fun x H1 => r x H1 Q) : tUn r ta σ H Q := k
theorem s_neg {j : Int} (k : Q (.int (-j)) H) : (rU fun i => .int (-i)) (.int j) H Q := ⟨j, rfl, k⟩
theorem s_test {R : Bool → Hp → Prop} (k : te σ H fun x H' => ∃ k, x = .bl k ∧ R k H') : tTest te σ H R := k
theorem s_B {R : Bool → Hp → Prop} (k : te σ H fun x H1 => ∃ c, x = .bl c ∧ R c H1) : tB te σ H R := k
theorem s_bl {b : Bool} {P : Bool → Prop} (k : P b) : ∃ c, V.bl b = V.bl c ∧ P c := ⟨b, rfl, k⟩
theorem s_and {R : Bool → Hp → Prop} (k : t σ H fun c H1 => if c = true then u σ H1 R else R false H1) : tAnd t u σ H R := k
theorem s_or {R : Bool → Hp → Prop} (k : t σ H fun c H1 => if c = true then R true H1 else u σ H1 R) : tOr t u σ H R := k
theorem s_not {R : Bool → Hp → Prop} (k : t σ H fun c H1 => R (!c) H1) : tNot t σ H R := k
theorem s_andV (k : ta σ H fun x H1 => ∃ c, x = .bl c ∧ if c = true then tb σ H1 Q else Q (.bl false) H1) : tAndV ta tb σ H Q := k
theorem s_orV (k : ta σ H fun x H1 => ∃ c, x = .bl c ∧ if c = true then Q (.bl true) H1 else tb σ H1 Q) : tOrV ta tb σ H Q := k
theorem s_notV (k : ta σ H fun x H1 => ∃ c, x = .bl c ∧ Q (.bl (!c)) H1) : tNotV ta σ H Q := k
theorem s_ifE (k : t σ H fun c H1 => if c = true then ta σ H1 Q else tb σ H1 Q) : tIf t ta tb σ H Q := k
theorem s_chain (k : ta σ H fun x H1 => tb σ H1 fun y H2 => r x y H2 fun z H3 => ∃ k, z = .bl k ∧ (if k = true then tc σ H3 fun w' H4 => r' y w' H4 Q else Q (.bl false) H3)) : tChain r r' ta tb tc σ H Q := k
theorem s_nil {R : List V → Hp → Prop} (k : R [] H) : tNil σ H R := k
theorem s_cons {tr : TA} {R : List V → Hp → Prop} (k : ta σ H fun x H1 => tr σ H1 fun xs H2 => R (x :: xs) H2) : tCons ta tr σ H R := k
theorem s_CB {r : List V → Hp → VK → Prop} (k : A σ H fun vs H1 => r vs H1 Q) : tCB r A σ H Q := k
theorem s_call {sp : Sp} {dvs : List V} {E : XK} (k : A σ H fun vs H1 => sp (vs ++ dvs) H1 Q E) : tCall sp dvs E A σ H Q := k
theorem s_BM {T : String} {r : V → List V → Hp → VK → Prop} {to : TE} (k : to σ H fun x H1 => tyV K T x H1 ∧ A σ H1 fun xs H2 => r x xs H2 Q) : tBM K T r to A σ H Q := k
theorem s_BM0 {T : String} {r : V → List V → Hp → VK → Prop} {to : TE} (k : to σ H fun x H1 => tyV K T x H1 ∧ r x [] H1 Q) : tBM0 K T r to σ H Q := k
theorem s_sl {r : V → Option Int → Option Int → Hp → VK → Prop} {tl th : TO} (k : te σ H fun x H1 => tl σ H1 fun l H2 => th σ H2 fun u H3 => r x l u H3 Q) : tSl r te tl th σ H Q := k
theorem s_nopart {R : Option Int → Hp → Prop} (k : R none H) : tNoPart σ H R := k
theorem s_part {R : Option Int → Hp → Prop} (k : te σ H fun x H1 => ∃ i, x = .int i ∧ R (some i) H1) : tPart te σ H R := k
theorem s_int {j : Int} {P : Int → Prop} (k : P j) : ∃ i, V.int j = V.int i ∧ P i := ⟨j, rfl, k⟩
-- ints
theorem s_add {a b : Int} (k : Q (.int (a + b)) H) : gAdd K (.int a) (.int b) H Q := k
theorem s_adds {a b : Str} (h : a.length + b.length ≤ sizeLine) (k : Q (.str (a ++ b)) H) : gAdd K (.str a) (.str b) H Q := ⟨h, k⟩
theorem s_sub {a b : Int} (k : Q (.int (a - b)) H) : gSub (.int a) (.int b) H Q := k
theorem s_mul {a b : Int} (h : CMul a b ∨ CMulW a b) (k : Q (.int (a * b)) H) : gMul K (.int a) (.int b) H Q := ⟨h, k⟩
theorem s_div {a b : Int} (h : CDivW a b) (k : Q (.int (a / b)) H) : gDiv (.int a) (.int b) H Q := ⟨h, k⟩
theorem s_mod {a b : Int} (h : 0 < b) (k : Q (.int (a % b)) H) : gMod (.int a) (.int b) H Q := ⟨h, k⟩
theorem s_pow {a b : Int} (h : CPow a b) (k : Q (.int (a ^ b.toNat)) H) : gPow (.int a) (.int b) H Q := ⟨h, k⟩
theorem s_lt {a b : Int} (k : Q (.bl (decide (a < b))) H) : gLt (.int a) (.int b) H Q := k
theorem s_le {a b : Int} (k : Q (.bl (decide (a ≤ b))) H) : gLe (.int a) (.int b) H Q := k
theorem s_gt {a b : Int} (k : Q (.bl (decide (b < a))) H) : gGt (.int a) (.int b) H Q := k
theorem s_ge {a b : Int} (k : Q (.bl (decide (b ≤ a))) H) : gGe (.int a) (.int b) H Q := k
theorem s_eqI {a b : Int} (k : Q (.bl (decide (a = b))) H) : gEq K (.int a) (.int b) H Q := .inl ⟨rfl, by
  have e : decide (V.int a = V.int b) = decide (a = b) := by by_cases h : a = b <;> simp [h]
  rw [e]; exact k⟩
theorem s_eqS {a b : Str} (k : Q (.bl (decide (a = b))) H) : gEq K (.str a) (.str b) H Q := .inl ⟨rfl, by
  have e : decide (V.str a = V.str b) = decide (a = b) := by by_cases h : a = b <;> simp [h]
  rw [e]; exact k⟩
theorem s_eqB {a b : Bool} (k : Q (.bl (decide (a = b))) H) : gEq K (.bl a) (.bl b) H Q := .inl ⟨rfl, by
  have e : decide (V.bl a = V.bl b) = decide (a = b) := by by_cases h : a = b <;> simp [h]
  rw [e]; exact k⟩
theorem s_neI {a b : Int} (k : Q (.bl (decide (a ≠ b))) H) : gNe K (.int a) (.int b) H Q := .inl ⟨rfl, by
  have e : (!decide (V.int a = V.int b)) = decide (a ≠ b) := by by_cases h : a = b <;> simp [h]
  rw [e]; exact k⟩
theorem s_neS {a b : Str} (k : Q (.bl (decide (a ≠ b))) H) : gNe K (.str a) (.str b) H Q := .inl ⟨rfl, by
  have e : (!decide (V.str a = V.str b)) = decide (a ≠ b) := by by_cases h : a = b <;> simp [h]
  rw [e]; exact k⟩
theorem s_isN (k : Q (.bl (decide (x = .non))) H) : gIs x .non H Q := k
theorem s_isB {a b : Bool} (k : Q (.bl (decide (a = b))) H) : gIs (.bl a) (.bl b) H Q := ⟨a, rfl, k⟩
theorem s_notN (k : Q (.bl (!decide (x = .non))) H) : gIsNot x .non H Q := k
theorem s_notB {a b : Bool} (k : Q (.bl (!decide (a = b))) H) : gIsNot (.bl a) (.bl b) H Q := ⟨a, rfl, k⟩
theorem s_max {a b : Int} (k : Q (.int (max a b)) H) : gMax K [.int a, .int b] H Q := k
theorem s_min {a b : Int} (k : Q (.int (min a b)) H) : gMin K [.int a, .int b] H Q := k
theorem s_abs {a : Int} (k : Q (.int a.natAbs) H) : gAbs [.int a] H Q := k
theorem s_inti {a : Int} (k : Q (.int a) H) : gInt [.int a] H Q := k
theorem s_intb {a : Bool} (k : Q (.int (if a then 1 else 0)) H) : gInt [.bl a] H Q := k
theorem s_str {a : Int} (h : a.natAbs.log2 < 1920) (k : Q (.str (toString a)) H) : gStr [.int a] H Q := ⟨h, k⟩
theorem s_ip {a b : Int} (k : Q (.int (a + b)) H) : (fun x y H Q => ∃ i j, x = V.int i ∧ y = V.int j ∧ Q (V.int (i + j)) H) (V.int a) (V.int b) H Q := ⟨a, b, rfl, rfl, k⟩
-- tuples, lists
theorem s_tup (k : A σ H fun xs H1 => xs.length ≤ sizeLine ∧ ∀ p, H1 p = none → Q (.ref p) (upd H1 p (.tup xs))) : tTup A σ H Q := k
theorem s_lst (k : A σ H fun xs H1 => xs.length ≤ sizeLine ∧ ∀ p, H1 p = none → Q (.ref p) (upd H1 p (.lst xs))) : tLst A σ H Q := k
/-- a tuple stands for good -/
theorem s_newT (h : vs.length ≤ sizeLine) (k : ∀ p v, Ext Non w v → w.H p = none → v.S p = some (.tup vs) → Q (.ref p) v.H) : vs.length ≤ sizeLine ∧ ∀ p, w.H p = none → Q (.ref p) (upd w.H p (.tup vs)) := ⟨h, newS k⟩
theorem s_newL (h : vs.length ≤ sizeLine) (k : ∀ p v, Ext Non w v → w.H p = none → Own v p (.lst vs) → Q (.ref p) v.H) : vs.length ≤ sizeLine ∧ ∀ p, w.H p = none → Q (.ref p) (upd w.H p (.lst vs)) := ⟨h, newO k⟩
theorem s_ixT {p : Addr} {j : Int} (h : w.S p = some (.tup vs)) (e : atI vs j = some v) (k : Q v w.H) : gIx K (.ref p) (.int j) w.H Q := ⟨vs, v, .inr (SqT.of (w.ok _ _ h)), e, k⟩
theorem s_ixL {p : Addr} {j : Int} (h : w.S p = some (.lst vs)) (e : atI vs j = some v) (k : Q v w.H) : gIx K (.ref p) (.int j) w.H Q := ⟨vs, v, .inl (SqL.of (w.ok _ _ h)), e, k⟩
theorem s_ixO {p : Addr} {j : Int} (h : Own w p (.lst vs)) (e : atI vs j = some v) (k : Q v w.H) : gIx K (.ref p) (.int j) w.H Q := ⟨vs, v, .inl (SqL.of h.h), e, k⟩
theorem s_lenT {p : Addr} (h : w.S p = some (.tup vs)) (k : Q (.int vs.length) w.H) : gLen K [.ref p] w.H Q := ⟨_, .inl ⟨vs, .inr (SqT.of (w.ok _ _ h)), rfl⟩, k⟩
theorem s_lenL {p : Addr} (h : w.S p = some (.lst vs)) (k : Q (.int vs.length) w.H) : gLen K [.ref p] w.H Q := ⟨_, .inl ⟨vs, .inl (SqL.of (w.ok _ _ h)), rfl⟩, k⟩
theorem s_lenO {p : Addr} (h : Own w p (.lst vs)) (k : Q (.int vs.length) w.H) : gLen K [.ref p] w.H Q := ⟨_, .inl ⟨vs, .inl (SqL.of h.h), rfl⟩, k⟩
theorem s_lenK {p : Addr} (h : SqL K w.H p vs) (k : Q (.int vs.length) w.H) : gLen K [.ref p] w.H Q := ⟨_, .inl ⟨vs, .inl h, rfl⟩, k⟩
/-- xs.append(y), xs one's own -/
theorem s_append {l : Addr} (h : Own w l (.lst vs)) (z : vs.length < sizeLine) (k : ∀ v, Ext (One l) w v → Own v l (.lst (vs ++ [y])) → Q .non v.H) : tyV K "list" (.ref l) w.H → rAppend (.ref l) [y] w.H Q :=
  fun _ => ⟨l, vs, y, rfl, rfl, h.h, z, put (R := Q .non) h k⟩
theorem s_setL {l : Addr} {j : Int} {m : Nat} {R : Hp → Prop} (h : Own w l (.lst vs)) (e : ixN vs.length j = some m) (k : ∀ u, Ext (One l) w u → Own u l (.lst (vs.set m v)) → R u.H) : rSetL (.ref l) (.int j) v w.H R :=
  ⟨l, vs, j, m, rfl, rfl, h.h, e, put (R := R) h k⟩
theorem ty_own {l : Addr} (h : Own w l (.lst vs)) : tyV K "list" (.ref l) w.H := .inl ⟨rfl, vs, SqL.of h.h⟩
-- dicts
theorem s_dget {td ty : TE} (k : td σ H fun x H1 => ty σ H1 fun y H2 => ∃ a v, x = .ref a ∧ DGet H2 a y (some v) ∧ Q v H2) : tDGet td ty σ H Q := k
theorem s_dgetO {a : Addr} {kvs : List (Key × V)} {k : Key} {P : V → Hp → Prop} (h : Own w a (.dK kvs)) (e : valV kvs k = some v) (q : P v w.H) : ∃ b z, V.ref a = V.ref b ∧ DGet w.H b (kV k) (some z) ∧ P z w.H := ⟨a, v, rfl, by rw [← e]; exact DGet.k h.h, q⟩
theorem s_dput {td ty tv : TE} (k : tv σ H fun v H1 => td σ H1 fun x H2 => ty σ H2 fun y H3 => ∃ a H4, x = .ref a ∧ DPut H3 a y v H4 ∧ D.nx σ H4) : sDPut td ty tv D σ H := k
theorem s_dputO {a : Addr} {kvs : List (Key × V)} {k : Key} {R : Hp → Prop} (h : Own w a (.dK kvs)) (z : kvs.length < sizeLine) (q : ∀ u, Ext (One a) w u → Own u a (.dK (putK kvs k v)) → R u.H) : ∃ b H4, V.ref a = V.ref b ∧ DPut w.H b (kV k) v H4 ∧ R H4 :=
  ⟨a, _, rfl, DPut.k h.h z, put (R := R) h q⟩
theorem ite_t {A B : Prop} {c : Bool} (h : c = true) (k : A) : if c = true then A else B := by rw [if_pos h]; exact k
theorem ite_f {A B : Prop} {c : Bool} (h : c = false) (k : B) : if c = true then A else B := by rw [h]; exact k
theorem ite_b {A B : Prop} {c : Bool} (k1 : c = true → A) (k2 : c = false → B) : if c = true then A else B := by
  cases c with
  | true => exact k1 rfl
  | false => exact k2 rfl
theorem ite_d {A B p : Prop} [Decidable p] (k1 : p → A) (k2 : ¬ p → B) : if decide p = true then A else B := by
  by_cases h : p
  · rw [decide_eq_true h]; exact k1 h
  · rw [decide_eq_false h]; exact k2 h
theorem ite_nd {A B p : Prop} [Decidable p] (k1 : ¬ p → A) (k2 : p → B) : if (!decide p) = true then A else B := by
  by_cases h : p
  · rw [decide_eq_true h]; exact k2 h
  · rw [decide_eq_false h]; exact k1 h
theorem ite_n {A B : Prop} {c : Bool} (k1 : c = false → A) (k2 : c = true → B) : if (!c) = true then A else B := by
  cases c with
  | true => exact k2 rfl
  | false => exact k1 rfl
end

/-! ### loops over worlds -/
/-- an iterator by worlds -/
structure WWalk (J : It) (n : Nat) (G : Wd → Prop) (Y : Nat → Wd → V → Wd → Prop) : Prop where
  goes : ∀ i w, i < n → G w → J.go i w.H
  stops : ∀ w, G w → J.stop n w.H
  yields : ∀ i w x H', i < n → G w → J.yld i w.H x H' → ∃ v : Wd, v.H = H' ∧ Y i w x v
def wds (P : L2.St → Wd → Prop) : L2.St → Hp → Prop := fun σ H => ∃ u : Wd, u.H = H ∧ P σ u
theorem wds_i {P : L2.St → Wd → Prop} {σ : L2.St} {w : Wd} (h : P σ w) : wds P σ w.H := ⟨w, rfl, h⟩
section
variable {J : It} {n : Nat} {G : Wd → Prop} {Y : Nat → Wd → V → Wd → Prop} {K : PySem.W.Frag}
theorem forW (k : WWalk J n G Y) {g : TG} {tb : TS} {D : Ends} {σ : L2.St} {w : Wd} (Pv : Nat → L2.St → Wd → Prop) (h0 : Pv 0 σ w) (hG : ∀ i σ w, i ≤ n → Pv i σ w → G w)
    (hs : ∀ i x σ w v, i < n → Pv i σ w → Y i w x v → g x σ v.H fun σ2 H2 => tb { D with nx := wds (Pv (i + 1)), ct := wds (Pv (i + 1)), bk := D.nx } σ2 H2) (hd : ∀ σ w, Pv n σ w → D.nx σ w.H) :
    ∃ W : Nat → Nat → L2.St → Hp → Prop, (∃ m, W 0 m σ w.H) ∧ ∀ i m σ H, W i m σ H →
      (J.stop i H ∧ D.nx σ H) ∨ (J.go i H ∧ ∃ N : L2.St → Hp → Prop, (∀ σ' H', N σ' H' → ∃ m', m' < m ∧ W (i + 1) m' σ' H') ∧ ∀ x H', J.yld i H x H' → g x σ H' fun σ2 H2 => tb { D with nx := N, ct := N, bk := D.nx } σ2 H2) := by
  refine ⟨fun i m σ H => m = n - i ∧ i ≤ n ∧ wds (Pv i) σ H, ⟨n, by simp, Nat.zero_le _, w, rfl, h0⟩, ?_⟩
  rintro i m σ H ⟨rfl, hi, u, rfl, p⟩
  have q := hG i σ u hi p
  by_cases hlt : i < n
  · refine .inr ⟨k.goes i u hlt q, wds (Pv (i + 1)), fun σ' H' p' => ⟨n - (i + 1), by omega, rfl, hlt, p'⟩, fun x H' y => ?_⟩
    obtain ⟨v, rfl, yv⟩ := k.yields i u x H' hlt q y
    exact hs i x σ u v hlt p yv
  · have e : i = n := by omega
    subst e
    exact .inl ⟨k.stops u q, hd σ u p⟩
/-- a comprehension: the new list at D holds acc -/
def lcN (D : Addr) (P : Wd → List V → Prop) : Hp → Prop := fun H => ∃ (u : Wd) (acc : List V), u.H = H ∧ Own u D (.lst acc) ∧ P u acc
theorem lcN_i {D : Addr} {P : Wd → List V → Prop} {u : Wd} {acc : List V} (o : Own u D (.lst acc)) (h : P u acc) : lcN D P u.H := ⟨u, acc, rfl, o, h⟩
theorem lc_put {D : Addr} {P : Wd → List V → Prop} {u : Wd} {acc : List V} {y : V} (o : Own u D (.lst acc)) (z : acc.length < sizeLine) (k : ∀ v, Ext (One D) u v → Own v D (.lst (acc ++ [y])) → P v (acc ++ [y])) :
    ∃ acc, u.H D = some (.lst acc) ∧ acc.length < sizeLine ∧ lcN D P (upd u.H D (.lst (acc ++ [y]))) :=
  ⟨acc, o.h, z, put (R := lcN D P) o fun v e ov => ⟨v, _, rfl, ov, k v e ov⟩⟩
theorem lcW (k : WWalk J n G Y) {g : TG} {tt : TT} {te : TE} {vs : List Nat} {σ : L2.St} {w : Wd} {D : Addr} {Qd : Hp → Prop} (Pv : Nat → Wd → List V → Prop) (hD : w.H D = none)
    (h0 : ∀ u, Ext Non w u → Own u D (.lst []) → Pv 0 u []) (hG : ∀ i u acc, i ≤ n → Pv i u acc → G u)
    (hs : ∀ i x u v acc, i < n → Own u D (.lst acc) → Pv i u acc → Y i u x v → g x (wipe σ vs) v.H fun σ2 H2 => wipe σ2 vs = wipe σ vs ∧ tt σ2 H2 fun b H3 =>
      if b = true then te σ2 H3 fun y H4 => ∃ acc, H4 D = some (.lst acc) ∧ acc.length < sizeLine ∧ lcN D (Pv (i + 1)) (upd H4 D (.lst (acc ++ [y]))) else lcN D (Pv (i + 1)) H3)
    (hd : ∀ u acc, Pv n u acc → Own u D (.lst acc) → Qd u.H) :
    ∃ W : Nat → Nat → Hp → Prop, (∃ m, W 0 m (upd w.H D (.lst []))) ∧ ∀ i m H, W i m H →
      (J.stop i H ∧ Qd H) ∨ (J.go i H ∧ ∃ Nx : Hp → Prop, (∀ H', Nx H' → ∃ m', m' < m ∧ W (i + 1) m' H') ∧ ∀ x H', J.yld i H x H' → g x (wipe σ vs) H' fun σ2 H2 => wipe σ2 vs = wipe σ vs ∧ tt σ2 H2 fun b H3 =>
        if b = true then te σ2 H3 fun y H4 => ∃ acc, H4 D = some (.lst acc) ∧ acc.length < sizeLine ∧ Nx (upd H4 D (.lst (acc ++ [y]))) else Nx H3) := by
  refine ⟨fun i m H => m = n - i ∧ i ≤ n ∧ lcN D (Pv i) H, ⟨n, by simp, Nat.zero_le _, ?_⟩, ?_⟩
  · have z := newO (w := w) (o := .lst []) (Q := fun _ H => H = upd w.H D (.lst []) → lcN D (Pv 0) (upd w.H D (.lst []))) (fun p v e hp o hq => ?_) D hD rfl
    · exact z
    · have ep : p = D := by
        by_cases ep : p = D
        · exact ep
        · have h1 : v.H p = some (.lst []) := o.h
          rw [hq, upd_ne ep, hp] at h1
          cases h1
      subst ep
      exact ⟨v, [], hq, o, h0 v e o⟩
  rintro i m H ⟨rfl, hi, u, acc, rfl, o, p⟩
  have q := hG i u acc hi p
  by_cases hlt : i < n
  · refine .inr ⟨k.goes i u hlt q, lcN D (Pv (i + 1)), fun H' p' => ⟨n - (i + 1), by omega, rfl, hlt, p'⟩, fun x H' y => ?_⟩
    obtain ⟨v, rfl, yv⟩ := k.yields i u x H' hlt q y
    exact hs i x u v acc hlt o p yv
  · have e : i = n := by omega
    subst e
    exact .inl ⟨k.stops u q, hd u acc p o⟩
theorem s_Lc {wi : TI} {g : TG} {tt : TT} {te : TE} {vs : List Nat} {σ : L2.St} {H : Hp} {Q : VK} (k : wi σ H fun J H1 => ∀ D, H1 D = none → ∃ W : Nat → Nat → Hp → Prop, (∃ m, W 0 m (upd H1 D (.lst []))) ∧ ∀ i m H, W i m H →
  (J.stop i H ∧ Q (.ref D) H) ∨ (J.go i H ∧ ∃ Nx : Hp → Prop, (∀ H', Nx H' → ∃ m', m' < m ∧ W (i + 1) m' H') ∧ ∀ x H', J.yld i H x H' → g x (wipe σ vs) H' fun σ2 H2 => wipe σ2 vs = wipe σ vs ∧ tt σ2 H2 fun b H3 =>
    if b = true then te σ2 H3 fun y H4 => ∃ acc, H4 D = some (.lst acc) ∧ acc.length < sizeLine ∧ Nx (upd H4 D (.lst (acc ++ [y]))) else Nx H3)) : tLc wi g tt te vs σ H Q := k
def YI (xs : List V) : Nat → Wd → V → Wd → Prop := fun i w x v => v = w ∧ xs[i]? = some x
theorem ww_list {a : Addr} {xs : List V} : WWalk (Itl K a) xs.length (fun w => SqL K w.H a xs) (YI xs) :=
  ⟨fun i w h q => (walk_list (K := K)).goes i w.H h q, fun w q => (walk_list (K := K)).stops w.H q, fun i w x H' h q y => by
    obtain ⟨e, h2⟩ := (walk_list (K := K)).yields i w.H x H' h q y
    exact ⟨w, e.symm, rfl, h2⟩⟩
theorem ww_tup {a : Addr} {xs : List V} : WWalk (Itt K a) xs.length (fun w => SqT K w.H a xs) (YI xs) :=
  ⟨fun i w h q => (walk_tup (K := K)).goes i w.H h q, fun w q => (walk_tup (K := K)).stops w.H q, fun i w x H' h q y => by
    obtain ⟨e, h2⟩ := (walk_tup (K := K)).yields i w.H x H' h q y
    exact ⟨w, e.symm, rfl, h2⟩⟩
theorem ww_range {lo : Int} {m : Nat} : WWalk (Itr lo m) m (fun _ => True) (fun i w x v => v = w ∧ x = .int (lo + i)) :=
  ⟨fun i w h q => walk_range.goes i w.H h q, fun w q => walk_range.stops w.H q, fun i w x H' h q y => by
    obtain ⟨e, h2⟩ := walk_range.yields i w.H x H' h q y
    exact ⟨w, e.symm, rfl, h2⟩⟩
theorem ww_str {z : Str} : WWalk (Its z) z.cps.size (fun _ => True) (fun i w x v => v = w ∧ ∃ c, z.cps[i]? = some c ∧ x = .str ⟨#[c]⟩) :=
  ⟨fun i w h q => walk_str.goes i w.H h q, fun w q => walk_str.stops w.H q, fun i w x H' h q y => by
    obtain ⟨e, h2⟩ := walk_str.yields i w.H x H' h q y
    exact ⟨w, e.symm, rfl, h2⟩⟩
theorem s_for {wi : TI} {g : TG} {tb : TS} {D : Ends} {σ : L2.St} {H : Hp} (k : wi σ H fun J H1 => ∃ W : Nat → Nat → L2.St → Hp → Prop, (∃ m, W 0 m σ H1) ∧ ∀ i m σ H, W i m σ H →
  (J.stop i H ∧ D.nx σ H) ∨ (J.go i H ∧ ∃ N : L2.St → Hp → Prop, (∀ σ' H', N σ' H' → ∃ m', m' < m ∧ W (i + 1) m' σ' H') ∧ ∀ x H', J.yld i H x H' → g x σ H' fun σ2 H2 => tb { D with nx := N, ct := N, bk := D.nx } σ2 H2)) : tFor wi g tb D σ H := k
theorem s_iList {te : TE} {σ : L2.St} {H : Hp} {R : It → Hp → Prop} (k : te σ H fun x H1 => ∃ a, x = .ref a ∧ (∃ xs, SqL K H1 a xs) ∧ R (Itl K a) H1) : iList K te σ H R := k
theorem s_iListK {a : Addr} {xs : List V} {H1 : Hp} {R : It → Hp → Prop} (h : SqL K H1 a xs) (k : R (Itl K a) H1) : ∃ b, V.ref a = V.ref b ∧ (∃ xs, SqL K H1 b xs) ∧ R (Itl K b) H1 := ⟨a, rfl, ⟨xs, h⟩, k⟩
theorem s_iTup {te : TE} {σ : L2.St} {H : Hp} {R : It → Hp → Prop} (k : te σ H fun x H1 => ∃ a, x = .ref a ∧ (∃ xs, SqT K H1 a xs) ∧ R (Itt K a) H1) : iTup K te σ H R := k
theorem s_iTupK {a : Addr} {xs : List V} {H1 : Hp} {R : It → Hp → Prop} (h : SqT K H1 a xs) (k : R (Itt K a) H1) : ∃ b, V.ref a = V.ref b ∧ (∃ xs, SqT K H1 b xs) ∧ R (Itt K b) H1 := ⟨a, rfl, ⟨xs, h⟩, k⟩
theorem s_iRng1 {ta : TA} {σ : L2.St} {H : Hp} {R : It → Hp → Prop} (k : ta σ H fun vs H1 => ∃ j : Int, vs = [.int j] ∧ -(2 ^ 62) ≤ j ∧ j < 2 ^ 62 ∧ R (Itr 0 j.toNat) H1) : iRng1 ta σ H R := k
theorem s_iRng1K {j : Int} {H1 : Hp} {R : It → Hp → Prop} (h1 : -(2 ^ 62) ≤ j) (h2 : j < 2 ^ 62) (k : R (Itr 0 j.toNat) H1) : ∃ i : Int, [V.int j] = [V.int i] ∧ -(2 ^ 62) ≤ i ∧ i < 2 ^ 62 ∧ R (Itr 0 i.toNat) H1 := ⟨j, rfl, h1, h2, k⟩
theorem s_iStr {te : TE} {σ : L2.St} {H : Hp} {R : It → Hp → Prop} (k : te σ H fun v H1 => ∃ x, v = .str x ∧ R (Its x) H1) : iStr te σ H R := k
end
end G
namespace G
open PySem L2
theorem nm_one {l k : Addr} (h : l ≠ k) : ¬ One k l := h
theorem nm_two {l a b : Addr} (h : l ≠ a) (h2 : l ≠ b) : ¬ Two a b l := fun z => z.elim h h2
theorem own_ne {w : Wd} {l k : Addr} {o u : HO} (h : Own w l o) (h' : Own w k u) (d : o ≠ u) : l ≠ k := ne_of h.h h'.h d
theorem sq_go {K : PySem.W.Frag} {w v : Wd} {a : Addr} {xs : List V} {m : Addr → Prop} (e : Ext m w v) (h : SqL K w.S a xs) : SqL K v.S a xs := e.st.seq h
theorem tch_one {u : Wd} {m : Addr → Prop} {k : Addr} (h : u.H k = none ∨ m k) : ∀ l, One k l → u.H l = none ∨ m l := fun l e => by
  have e : l = k := e
  rw [e]; exact h
theorem tch_two {u : Wd} {m : Addr → Prop} {k j : Addr} (h : u.H k = none ∨ m k) (h2 : u.H j = none ∨ m j) : ∀ l, Two k j l → u.H l = none ∨ m l := fun l e => by
  rcases e with e | e <;> rw [e] <;> assumption
theorem ite_tt {A B : Prop} (k : A) : if true = true then A else B := by rw [if_pos rfl]; exact k
theorem ite_ff {A B : Prop} (k : B) : if false = true then A else B := by rw [if_neg (by decide)]; exact k
/-! promises by arity -/
def pr0 (P : Wd → VK → XK → Prop) : Sp := fun vs H Q E => ∃ w : Wd, w.H = H ∧ vs = [] ∧ P w Q E
def pr1 (P : Wd → V → VK → XK → Prop) : Sp := fun vs H Q E => ∃ (w : Wd) (a : V), w.H = H ∧ vs = [a] ∧ P w a Q E
def pr2 (P : Wd → V → V → VK → XK → Prop) : Sp := fun vs H Q E => ∃ (w : Wd) (a b : V), w.H = H ∧ vs = [a, b] ∧ P w a b Q E
def pr3 (P : Wd → V → V → V → VK → XK → Prop) : Sp := fun vs H Q E => ∃ (w : Wd) (a b c : V), w.H = H ∧ vs = [a, b, c] ∧ P w a b c Q E
def pr4 (P : Wd → V → V → V → V → VK → XK → Prop) : Sp := fun vs H Q E => ∃ (w : Wd) (a b c d : V), w.H = H ∧ vs = [a, b, c, d] ∧ P w a b c d Q E
section
variable {vs : List V} {H : Hp} {Q : VK} {E : XK} {w : Wd} {a b c d : V}
theorem len0 {P} (h : pr0 P vs H Q E) : vs.length = 0 := by obtain ⟨_, _, rfl, _⟩ := h; rfl
theorem len1 {P} (h : pr1 P vs H Q E) : vs.length = 1 := by obtain ⟨_, _, _, rfl, _⟩ := h; rfl
theorem len2 {P} (h : pr2 P vs H Q E) : vs.length = 2 := by obtain ⟨_, _, _, _, rfl, _⟩ := h; rfl
theorem len3 {P} (h : pr3 P vs H Q E) : vs.length = 3 := by obtain ⟨_, _, _, _, _, rfl, _⟩ := h; rfl
theorem len4 {P} (h : pr4 P vs H Q E) : vs.length = 4 := by obtain ⟨_, _, _, _, _, _, rfl, _⟩ := h; rfl
theorem s_pr0 {P} (h : P w Q E) : pr0 P ([] ++ []) w.H Q E := ⟨w, rfl, rfl, h⟩
theorem s_pr1 {P} (h : P w a Q E) : pr1 P ([a] ++ []) w.H Q E := ⟨w, a, rfl, rfl, h⟩
theorem s_pr2 {P} (h : P w a b Q E) : pr2 P ([a, b] ++ []) w.H Q E := ⟨w, a, b, rfl, rfl, h⟩
theorem s_pr3 {P} (h : P w a b c Q E) : pr3 P ([a, b, c] ++ []) w.H Q E := ⟨w, a, b, c, rfl, rfl, h⟩
theorem s_pr4 {P} (h : P w a b c d Q E) : pr4 P ([a, b, c, d] ++ []) w.H Q E := ⟨w, a, b, c, d, rfl, rfl, h⟩
end
/-! a def by its name -/
structure Fnc (P : Program) (w : World) (K : PySem.W.Frag) (mg : Str → Option Value) (base : Heap) (CX : CXT) (k : Nat) (x : Str) (sp : Sp) : Prop where
  ex : ∃ (f : Addr) (fd : FuncData) (ps : List Str), FnOk P w K mg base CX k f fd ps sp ∧ mg x = some (.ref f) ∧ PySem.W.keepIn K (.ref f) = true ∧ Binds K fd ps []
section
variable {X : Cx} {k j : Nat} {x : Str} {sp : Sp} {p pos : Pos} {e : Expr} {es : List Expr} {t : TA} {CX : CXT} {E : XK}
theorem pe_fn (c : Fnc X.prog X.w X.K X.mg X.base CX k x sp) (hr : Room j X.A) (hk : k ≤ j) (hx : Passes CX X E) (ha : PA X (e :: es) t) (hg : Gl X x := by rfl)
    (he : starEach (e :: es) X.env = (false, eval e X.env) :: starEach es X.env := by rfl) (hpl : (backTo pos (starEach es X.env)).any (·.1) = false := by rfl) (hd : (x == ("__debug__" : Str)) = false := by decide) :
    PE X (.Call (.Name x p) (e :: es) [] pos) (tCall sp [] E t) := by
  obtain ⟨f, fd, ps, F, hm, hkp, hb⟩ := c.ex
  exact pe_call F (hr.mono hk) hg hm hkp hb .nil hx ha hd he hpl
theorem pe_fn0 (c : Fnc X.prog X.w X.K X.mg X.base CX k x sp) (hr : Room j X.A) (hk : k ≤ j) (hx : Passes CX X E) (hg : Gl X x := by rfl) (hd : (x == ("__debug__" : Str)) = false := by decide) :
    PE X (.Call (.Name x p) [] [] pos) (tCall sp [] E tNil) := by
  obtain ⟨f, fd, ps, F, hm, hkp, hb⟩ := c.ex
  exact pe_call0 F (hr.mono hk) hg hm hkp hb .nil hx hd
end
end G
namespace G
open PySem L2
section
variable {X : Cx}
theorem kAdd (K : PySem.W.Frag) (e : X.K = K := by rfl) : OpR X (binaryOp .Add) (gAdd K) := e ▸ g_add
theorem kMul (K : PySem.W.Frag) (e : X.K = K := by rfl) : OpR X (binaryOp .Mult) (gMul K) := e ▸ g_mul
theorem kEq (K : PySem.W.Frag) (hu : X.A.units + 64 < cLine) (e : X.K = K := by rfl) : OpR X (compareOp .Eq) (gEq K) := e ▸ g_eq hu
theorem kNe (K : PySem.W.Frag) (hu : X.A.units + 64 < cLine) (e : X.K = K := by rfl) : OpR X (compareOp .NotEq) (gNe K) := e ▸ g_ne hu
theorem kIn (K : PySem.W.Frag) (e : X.K = K := by rfl) : OpR X (compareOp .In) (gIn K) := e ▸ g_in
theorem kNotIn (K : PySem.W.Frag) (e : X.K = K := by rfl) : OpR X (compareOp .NotIn) (gNotIn K) := e ▸ g_notin
theorem kIx (K : PySem.W.Frag) (e : X.K = K := by rfl) : IxR X (gIx K) := e ▸ g_ix
theorem kSl (K : PySem.W.Frag) (e : X.K = K := by rfl) : SlR X (gSl K) := e ▸ g_sl
theorem kLen (K : PySem.W.Frag) (e : X.K = K := by rfl) : CallR X (.builtin "len") (gLen K) := e ▸ g_len
theorem kMax (K : PySem.W.Frag) (hc : X.calm = true) (e : X.K = K := by rfl) : CallR X (.builtin "max") (gMax K) := e ▸ g_max hc
theorem kMin (K : PySem.W.Frag) (hc : X.calm = true) (e : X.K = K := by rfl) : CallR X (.builtin "min") (gMin K) := e ▸ g_min hc
theorem kAll (K : PySem.W.Frag) (hc : X.calm = true) (e : X.K = K := by rfl) : CallR X (.builtin "all") (rAll K) := e ▸ cr_all hc
theorem kAny (K : PySem.W.Frag) (hc : X.calm = true) (e : X.K = K := by rfl) : CallR X (.builtin "any") (rAny K) := e ▸ cr_any hc
theorem kSum (K : PySem.W.Frag) (hc : X.calm = true) (e : X.K = K := by rfl) : CallR X (.builtin "sum") (rSum K) := e ▸ cr_sum hc
theorem kSortedI (K : PySem.W.Frag) (e : X.K = K := by rfl) : CallR X (.builtin "sorted") (rSortedI K) := e ▸ cr_sortedI
theorem kSortedP (K : PySem.W.Frag) (e : X.K = K := by rfl) : CallR X (.builtin "sorted") (rSortedPO K) := e ▸ cr_sortedPO
theorem kList (K : PySem.W.Frag) (e : X.K = K := by rfl) : CallR X (.type "list") (gList K) := e ▸ g_list
theorem kTuple (K : PySem.W.Frag) (e : X.K = K := by rfl) : CallR X (.type "tuple") (gTuple K) := e ▸ g_tuple
theorem kIsi (K : PySem.W.Frag) (e : X.K = K := by rfl) : CallR X (.builtin "isinstance") (rIsi K) := e ▸ call_isi
theorem kIsiT (K : PySem.W.Frag) (e : X.K = K := by rfl) : CallR X (.builtin "isinstance") (rIsiT K) := e ▸ call_isiT
theorem kpList (K : PySem.W.Frag) {tg l : Expr} {tl : TE} (hl : PE X l tl) (e : X.K = K := by rfl) : PI X tg l (iList K tl) := e ▸ pi_list hl
theorem kpTup (K : PySem.W.Frag) {tg l : Expr} {tl : TE} (hl : PE X l tl) (e : X.K = K := by rfl) : PI X tg l (iTup K tl) := e ▸ pi_tup hl
theorem kgTup (K : PySem.W.Frag) {es : List Expr} {k : Nat} {t : TGs} {n : Nat} {pos : Pos} (hc : X.calm = true) (h : PGs X es t) (e : X.K = K := by rfl) (hn : (assignEach es X.env).length = n := by rfl)
    (hst : (assignEach es X.env).findIdx? (·.1) = none := by rfl) : PG X (.Tuple es k pos) (gTup K n t) := e ▸ pg_tup hc h hn hst
end
end G

set_option Elab.async false
set_option linter.all false
set_option maxRecDepth 100000
set_option maxHeartbeats 4000000
/-! G4: kinds of plain values; comprehensions; small laws of lists. -/
namespace G
open PySem L2
theorem kb_NoneType_int : kitB "NoneType" "int" = some false := by decide +kernel
theorem kb_NoneType_bool : kitB "NoneType" "bool" = some false := by decide +kernel
theorem kb_NoneType_str : kitB "NoneType" "str" = some false := by decide +kernel
theorem kb_NoneType_list : kitB "NoneType" "list" = some false := by decide +kernel
theorem kb_NoneType_tuple : kitB "NoneType" "tuple" = some false := by decide +kernel
theorem kb_NoneType_dict : kitB "NoneType" "dict" = some false := by decide +kernel
theorem kb_bool_int : kitB "bool" "int" = some true := by decide +kernel
theorem kb_bool_bool : kitB "bool" "bool" = some true := by decide +kernel
theorem kb_bool_str : kitB "bool" "str" = some false := by decide +kernel
theorem kb_bool_list : kitB "bool" "list" = some false := by decide +kernel
theorem kb_bool_tuple : kitB "bool" "tuple" = some false := by decide +kernel
theorem kb_bool_dict : kitB "bool" "dict" = some false := by decide +kernel
theorem kb_int_int : kitB "int" "int" = some true := by decide +kernel
theorem kb_int_bool : kitB "int" "bool" = some false := by decide +kernel
theorem kb_int_str : kitB "int" "str" = some false := by decide +kernel
theorem kb_int_list : kitB "int" "list" = some false := by decide +kernel
theorem kb_int_tuple : kitB "int" "tuple" = some false := by decide +kernel
theorem kb_int_dict : kitB "int" "dict" = some false := by decide +kernel
theorem kb_str_int : kitB "str" "int" = some false := by decide +kernel
theorem kb_str_bool : kitB "str" "bool" = some false := by decide +kernel
theorem kb_str_str : kitB "str" "str" = some true := by decide +kernel
theorem kb_str_list : kitB "str" "list" = some false := by decide +kernel
theorem kb_str_tuple : kitB "str" "tuple" = some false := by decide +kernel
theorem kb_str_dict : kitB "str" "dict" = some false := by decide +kernel
theorem kb_list_int : kitB "list" "int" = some false := by decide +kernel
theorem kb_list_bool : kitB "list" "bool" = some false := by decide +kernel
theorem kb_list_str : kitB "list" "str" = some false := by decide +kernel
theorem kb_list_list : kitB "list" "list" = some true := by decide +kernel
theorem kb_list_tuple : kitB "list" "tuple" = some false := by decide +kernel
theorem kb_list_dict : kitB "list" "dict" = some false := by decide +kernel
theorem kb_tuple_int : kitB "tuple" "int" = some false := by decide +kernel
theorem kb_tuple_bool : kitB "tuple" "bool" = some false := by decide +kernel
theorem kb_tuple_str : kitB "tuple" "str" = some false := by decide +kernel
theorem kb_tuple_list : kitB "tuple" "list" = some false := by decide +kernel
theorem kb_tuple_tuple : kitB "tuple" "tuple" = some true := by decide +kernel
theorem kb_tuple_dict : kitB "tuple" "dict" = some false := by decide +kernel
theorem kb_dict_int : kitB "dict" "int" = some false := by decide +kernel
theorem kb_dict_bool : kitB "dict" "bool" = some false := by decide +kernel
theorem kb_dict_str : kitB "dict" "str" = some false := by decide +kernel
theorem kb_dict_list : kitB "dict" "list" = some false := by decide +kernel
theorem kb_dict_tuple : kitB "dict" "tuple" = some false := by decide +kernel
theorem kb_dict_dict : kitB "dict" "dict" = some true := by decide +kernel
section
variable {K : PySem.W.Frag} {w : Wd} {H : Hp} {Q : VK} {T : String} {b : Bool} {x : V} {d : PyData}
theorem si_non (e : kitB "NoneType" T = some b) (k : Q (.bl b) H) : rIsi K [.non, .ty T] H Q := ⟨.non, .ty T, _, _, b, rfl, .ty T, .base .non, kit_ty e, k⟩
theorem si_bl {z : Bool} (e : kitB "bool" T = some b) (k : Q (.bl b) H) : rIsi K [.bl z, .ty T] H Q := ⟨(.bl z), .ty T, _, _, b, rfl, .ty T, .base (.bl _), kit_ty e, k⟩
theorem si_int {z : Int} (e : kitB "int" T = some b) (k : Q (.bl b) H) : rIsi K [.int z, .ty T] H Q := ⟨(.int z), .ty T, _, _, b, rfl, .ty T, .base (.int _), kit_ty e, k⟩
theorem si_str {z : Str} (e : kitB "str" T = some b) (k : Q (.bl b) H) : rIsi K [.str z, .ty T] H Q := ⟨(.str z), .ty T, _, _, b, rfl, .ty T, .base (.str _), kit_ty e, k⟩
theorem sd_int (h : Rp w.S x d) (k : Q (.bl (isInt d)) w.H) : rIsi K [x, .ty "int"] w.H Q := s_isi h (isT_int d) k
theorem sd_bool (h : Rp w.S x d) (k : Q (.bl (isBool d)) w.H) : rIsi K [x, .ty "bool"] w.H Q := s_isi h (isT_bool d) k
theorem sd_str (h : Rp w.S x d) (k : Q (.bl (isStr d)) w.H) : rIsi K [x, .ty "str"] w.H Q := s_isi h (isT_str d) k
theorem sd_list (h : Rp w.S x d) (k : Q (.bl (isList d)) w.H) : rIsi K [x, .ty "list"] w.H Q := s_isi h (isT_list d) k
theorem sd_tuple (h : Rp w.S x d) (k : Q (.bl (isTup d)) w.H) : rIsi K [x, .ty "tuple"] w.H Q := s_isi h (isT_tup d) k
theorem sd_dict (h : Rp w.S x d) (k : Q (.bl (isDict d)) w.H) : rIsi K [x, .ty "dict"] w.H Q := s_isi h (isT_dict d) k
theorem si_lst {p : Addr} {vs : List V} (h : w.S p = some (.lst vs)) (e : kitB "list" T = some b) (k : Q (.bl b) w.H) : rIsi K [.ref p, .ty T] w.H Q := ⟨_, .ty T, _, _, b, rfl, .ty T, .base (.lst (w.ok _ _ h)), kit_ty e, k⟩
theorem si_own {p : Addr} {vs : List V} (h : Own w p (.lst vs)) (e : kitB "list" T = some b) (k : Q (.bl b) w.H) : rIsi K [.ref p, .ty T] w.H Q := ⟨_, .ty T, _, _, b, rfl, .ty T, .base (.lst h.h), kit_ty e, k⟩
theorem si_tup {p : Addr} {vs : List V} (h : w.S p = some (.tup vs)) (e : kitB "tuple" T = some b) (k : Q (.bl b) w.H) : rIsi K [.ref p, .ty T] w.H Q := ⟨_, .ty T, _, _, b, rfl, .ty T, .base (.tup (w.ok _ _ h)), kit_ty e, k⟩
end
theorem isTup_inv {d : PyData} (h : isTup d = true) : ∃ ds, d = .tuple ds := by cases d <;> first | exact ⟨_, rfl⟩ | cases h
theorem isList_inv {d : PyData} (h : isList d = true) : ∃ ds, d = .list ds := by cases d <;> first | exact ⟨_, rfl⟩ | cases h
theorem isStr_inv {d : PyData} (h : isStr d = true) : ∃ ds, d = .str ds := by cases d <;> first | exact ⟨_, rfl⟩ | cases h
def isNum (d : PyData) : Bool := isInt d && !isBool d
theorem isNum_inv {d : PyData} (h : isNum d = true) : ∃ i, d = .int i := by cases d <;> first | exact ⟨_, rfl⟩ | cases h
theorem isInt_inv : ∀ {d : PyData}, isInt d = true → isBool d = false → ∃ i, d = .int i
  | .int i, _, _ => ⟨i, rfl⟩
  | .bool _, _, h => by cases h
theorem sqt_of {K : PySem.W.Frag} {w : Wd} {p : Addr} {vs : List V} (h : w.S p = some (.tup vs)) : SqT K w.H p vs := SqT.of (w.ok _ _ h)
theorem sql_of {K : PySem.W.Frag} {w : Wd} {p : Addr} {vs : List V} (h : w.S p = some (.lst vs)) : SqL K w.H p vs := SqL.of (w.ok _ _ h)
theorem sqo_of {K : PySem.W.Frag} {w : Wd} {p : Addr} {vs : List V} (h : Own w p (.lst vs)) : SqL K w.H p vs := SqL.of h.h
theorem sqt_ext {K : PySem.W.Frag} {w v : Wd} {p : Addr} {vs : List V} {m : Addr → Prop} (e : Ext m w v) (h : w.S p = some (.tup vs)) : SqT K v.H p vs := SqT.of (v.ok _ _ (e.st _ _ h))

theorem s_yes {σ : L2.St} {H : Hp} {R : Bool → Hp → Prop} (k : R true H) : tYes σ H R := k
/-! comprehensions -/
def rgL (lo : Int) (n : Nat) : List V := (List.range n).map fun i => V.int (lo + (i : Nat))
theorem rgL_length (lo : Int) (n : Nat) : (rgL lo n).length = n := by simp [rgL]
theorem rgL_get {lo : Int} {n i : Nat} (h : i < n) : (rgL lo n)[i]? = some (.int (lo + (i : Nat))) := by simp [rgL, h]
theorem ww_rangeI {lo : Int} {m : Nat} : WWalk (Itr lo m) m (fun _ => True) (YI (rgL lo m)) :=
  ⟨fun i w h q => ww_range.goes i w h q, fun w q => ww_range.stops w q, fun i w x H' h q y => by
    obtain ⟨v, e, e1, e2⟩ := ww_range.yields i w x H' h q y
    exact ⟨v, e, e1, by rw [e2]; exact rgL_get h⟩⟩
/-- each item's plain value is told: ys -/
theorem lc_pure {J : It} {n : Nat} {G : Wd → Prop} {xs : List V} (k : WWalk J n G (YI xs)) {te : TE} {j : Nat} {σ : L2.St} {w : Wd} {D : Addr} {Qd : Hp → Prop} (ys : List V) (hD : w.H D = none) (hG : ∀ u, Ext (One D) w u → G u) (hn : ys.length = n) (hz : n < sizeLine)
    (hw : ∀ x, wipe ((wipe σ [j]).set j (some x)) [j] = wipe σ [j])
    (hs : ∀ i x y u, i < n → xs[i]? = some x → ys[i]? = some y → Ext (One D) w u → ∀ R : VK, (∀ v, Ext Non u v → R y v.H) → te ((wipe σ [j]).set j (some x)) u.H R)
    (hd : ∀ u, Ext Non w u → w.H D = none → Own u D (.lst ys) → Qd u.H) :
    ∃ W : Nat → Nat → Hp → Prop, (∃ m, W 0 m (upd w.H D (.lst []))) ∧ ∀ i m H, W i m H →
      (J.stop i H ∧ Qd H) ∨ (J.go i H ∧ ∃ Nx : Hp → Prop, (∀ H', Nx H' → ∃ m', m' < m ∧ W (i + 1) m' H') ∧ ∀ x H', J.yld i H x H' → gName j x (wipe σ [j]) H' fun σ2 H2 => wipe σ2 [j] = wipe σ [j] ∧ tYes σ2 H2 fun b H3 =>
        if b = true then te σ2 H3 fun y H4 => ∃ acc, H4 D = some (.lst acc) ∧ acc.length < sizeLine ∧ Nx (upd H4 D (.lst (acc ++ [y]))) else Nx H3) := by
  refine lcW k (fun i u acc => Ext (One D) w u ∧ acc = ys.take i) hD (fun u e o => ⟨e.more fun _ z => z.elim, by simp⟩) (fun i u acc _ p => hG u p.1) ?_ ?_
  · rintro i x u v acc hi o ⟨e, ha⟩ ⟨rfl, hx⟩
    refine ⟨hw x, s_yes (ite_tt ?_)⟩
    have hy : i < ys.length := by omega
    refine hs i x ys[i] v hi hx (by simp [hy]) e _ fun t et => ?_
    have ha2 : acc.length < sizeLine := by rw [ha, List.length_take]; omega
    refine lc_put (o.ext et fun z => z) ha2 fun z ez oz => ⟨(e.step et fun _ z => z.elim).step ez fun l hl => .inr hl, ?_⟩
    rw [ha, List.take_succ]
    simp [hy]
  · rintro u acc ⟨e, ha⟩ o
    refine hd u (e.more fun l hl => .inl (by rw [show l = D from hl]; exact hD)) hD ?_
    rw [ha, ← hn, List.take_length] at o
    exact o
end G

set_option Elab.async false
set_option linter.all false
set_option maxRecDepth 100000
set_option maxHeartbeats 4000000
/-! G5: dicts by text keys, displays, all and any, the numbers' sizes. -/
namespace G
open PySem L2
section
variable {K : PySem.W.Frag} {w : Wd} {H : Hp} {Q : VK} {σ : L2.St} {v x y : V} {vs : List V} {D : Ends}
theorem s_allO {p : Addr} {bs : List Bool} (h : Own w p (.lst (bs.map V.bl))) (k : Q (.bl (bs.all id)) w.H) : rAll K [.ref p] w.H Q := ⟨p, bs, rfl, SqL.of h.h, k⟩
theorem s_anyO {p : Addr} {bs : List Bool} (h : Own w p (.lst (bs.map V.bl))) (k : Q (.bl (bs.any id)) w.H) : rAny K [.ref p] w.H Q := ⟨p, bs, rfl, SqL.of h.h, k⟩
theorem s_sumO {p : Addr} {ns : List Int} (h : Own w p (.lst (ns.map V.int))) (k : Q (.int ns.sum) w.H) : rSum K [.ref p] w.H Q := ⟨p, ns, rfl, SqL.of h.h, k⟩
-- dicts by texts
theorem s_dgetS {p : Addr} {kvs : List (Key × V)} {z : Str} {P : V → Hp → Prop} (h : Own w p (.dK kvs)) (e : valV kvs (.inr z) = some v) (q : P v w.H) : ∃ b u, V.ref p = V.ref b ∧ DGet w.H b (.str z) (some u) ∧ P u w.H :=
  ⟨p, v, rfl, by rw [← e]; exact DGet.k (k := .inr z) h.h, q⟩
theorem dgetS {p : Addr} {kvs : List (Key × V)} {z : Str} (h : Own w p (.dK kvs)) (e : valV kvs (.inr z) = some v) : DGet w.H p (.str z) (some v) := by rw [← e]; exact DGet.k (k := .inr z) h.h
theorem s_dputS {p : Addr} {kvs kvs' : List (Key × V)} {z : Str} {R : Hp → Prop} (h : Own w p (.dK kvs)) (e : putK kvs (.inr z) v = kvs') (hz : kvs.length < sizeLine) (q : ∀ u, Ext (One p) w u → Own u p (.dK kvs') → R u.H) :
    ∃ b H4, V.ref p = V.ref b ∧ DPut w.H b (.str z) v H4 ∧ R H4 := by
  subst e
  exact ⟨p, _, rfl, DPut.k (k := .inr z) h.h hz, put (R := R) h q⟩
theorem s_disp {trs : List (TE × TE)} (k : ∀ p u, Ext Non w u → w.H p = none → Own u p (.dK []) → tPairs trs σ u.H fun ps H2 => H2 p = some (.dK []) ∧ ∃ kvs : List (Key × V), ps = kvs.map (fun kv => (kV kv.1, kv.2)) ∧ kvs.length ≤ 15 ∧ Q (.ref p) (upd H2 p (.dK (mergeK [] kvs)))) : tDisp trs σ w.H Q :=
  fun p hp => newO (Q := fun r H => ∀ p', r = .ref p' → tPairs trs σ H fun ps H2 => H2 p' = some (.dK []) ∧ ∃ kvs : List (Key × V), ps = kvs.map (fun kv => (kV kv.1, kv.2)) ∧ kvs.length ≤ 15 ∧ Q (.ref p') (upd H2 p' (.dK (mergeK [] kvs)))) (fun p v e n o p' hp' => by cases hp'; exact k p v e n o) p hp p rfl
theorem s_pnil {R : List (V × V) → Hp → Prop} (k : R [] H) : tPairs [] σ H R := k
theorem s_pcons {tk tv : TE} {r : List (TE × TE)} {R : List (V × V) → Hp → Prop} (k : tk σ H fun x H1 => tv σ H1 fun y H2 => tPairs r σ H2 fun ps H3 => R ((x, y) :: ps) H3) : tPairs ((tk, tv) :: r) σ H R := k
theorem s_dispE {p : Addr} {ps : List (V × V)} (o : Own w p (.dK [])) (kvs kvs' : List (Key × V)) (e : ps = kvs.map (fun kv => (kV kv.1, kv.2))) (e2 : mergeK [] kvs = kvs') (hz : kvs.length ≤ 15) (k : ∀ u, Ext (One p) w u → Own u p (.dK kvs') → Q (.ref p) u.H) :
    w.H p = some (.dK []) ∧ ∃ kvs : List (Key × V), ps = kvs.map (fun kv => (kV kv.1, kv.2)) ∧ kvs.length ≤ 15 ∧ Q (.ref p) (upd w.H p (.dK (mergeK [] kvs))) := by
  subst e2
  exact ⟨o.h, kvs, e, hz, put (R := Q (.ref p)) o k⟩
theorem s_dnew (k : ∀ p u, Ext Non w u → w.H p = none → Own u p (.dK []) → Q (.ref p) u.H) : tDNewK σ w.H Q := newO k
end
/-- of numbers below 2 ^ 200 -/
theorem divW {i j : Int} (h : 0 < j) (h2 : j < 2 ^ 200) : CDivW i j := ⟨h, by
  have : j.natAbs < 2 ^ 200 := by omega
  exact Nat.lt_of_lt_of_le (PySem.Flt.log2_lt_of (by decide) this) (by decide)⟩
theorem mulL {i j : Int} (h : -(2 ^ 64) < i) (h2 : i < 2 ^ 64) : CMul i j ∨ CMulW i j := .inl (.inl ⟨h, h2⟩)
theorem mulR {i j : Int} (h : -(2 ^ 64) < j) (h2 : j < 2 ^ 64) : CMul i j ∨ CMulW i j := .inl (.inr ⟨h, h2⟩)
/-! dicts by written texts -/
section
variable {a b : Str} {u v : V} {r r' : List (Key × V)}
theorem valS_pos : valV ((.inr a, u) :: r) (.inr a) = some u := valV_pos rfl
theorem valS_neg {o : Option V} (h : decide (a = b) = false) (t : valV r (.inr b) = o) : valV ((.inr a, u) :: r) (.inr b) = o := by
  rw [valV_neg (fun z => of_decide_eq_false h (Sum.inr.inj z))]
  exact t
theorem valS_nil : valV ([] : List (Key × V)) (.inr b) = none := rfl
theorem putK_nil {k : Key} : putK ([] : List (Key × V)) k v = [(k, v)] := rfl
theorem map_same {k : Key} (h : valV r k = none) : r.map (fun kv => if kv.1 = k then (kv.1, v) else kv) = r := by
  induction r with
  | nil => rfl
  | cons p r ih =>
    by_cases e : p.1 = k
    · rw [valV_pos e] at h; cases h
    · rw [valV_neg e] at h
      rw [List.map_cons, if_neg e, ih h]
theorem any_none {k : Key} (h : valV r k = none) : (r.any fun kv => decide (kv.1 = k)) = false := by rw [valV_any, h]; rfl
theorem putS_pos (h : valV r (.inr a) = none) : putK ((.inr a, u) :: r) (.inr a) v = (.inr a, v) :: r := by
  unfold putK
  rw [if_pos (by simp), List.map_cons, if_pos rfl, map_same h]
theorem putS_neg (h : decide (a = b) = false) (t : putK r (.inr b) v = r') : putK ((.inr a, u) :: r) (.inr b) v = (.inr a, u) :: r' := by
  have hn : ¬ (Sum.inr a : Key) = Sum.inr b := fun z => of_decide_eq_false h (Sum.inr.inj z)
  subst t
  unfold putK
  rw [List.any_cons, decide_eq_false hn, Bool.false_or, List.map_cons, if_neg hn]
  split <;> rfl
theorem merge_go : ∀ (r acc : List (Key × V)), ((acc ++ r).map (·.1)).Nodup → mergeK acc r = acc ++ r
  | [], acc, _ => by simp [mergeK]
  | p :: r, acc, h => by
    have hn : valV acc p.1 = none := by
      cases e : valV acc p.1 with
      | none => rfl
      | some z =>
        exfalso
        have h1 : (acc.any fun kv => decide (kv.1 = p.1)) = true := by rw [valV_any, e]; rfl
        rw [List.any_eq_true] at h1
        obtain ⟨q, hq, hqe⟩ := h1
        rw [List.map_append, List.nodup_append] at h
        exact h.2.2 q.1 (List.mem_map_of_mem hq) p.1 (by simp) (of_decide_eq_true hqe)
    have e1 : putK acc p.1 p.2 = acc ++ [p] := by
      unfold putK
      rw [if_neg (by rw [any_none hn]; decide)]
    show List.foldl _ (putK acc p.1 p.2) r = _
    rw [e1]
    have ih := merge_go r (acc ++ [p]) (by simpa using h)
    unfold mergeK at ih
    rw [ih]
    simp
theorem mergeK_nd {r : List (Key × V)} (h : (r.map (·.1)).Nodup) : mergeK [] r = r := merge_go r [] h
end
theorem atI_nn {α : Type} {xs : List α} {i : Int} (h : 0 ≤ i) (h2 : i < xs.length) : atI xs i = xs[i.toNat]? := by
  unfold atI ixN
  rw [if_pos h, if_pos h2]
  rfl
theorem atI_of {α : Type} {xs : List α} {i : Int} {v : α} (h : 0 ≤ i) (h2 : xs[i.toNat]? = some v) : atI xs i = some v := by
  have h3 := (List.getElem?_eq_some_iff.mp h2).1
  rw [atI_nn h (by omega), h2]
theorem atI_back {α : Type} {xs : List α} {v : α} (h : xs.getLast? = some v) : atI xs (-1) = some v := by
  have hne : xs ≠ [] := by intro z; rw [z] at h; cases h
  have hl : 0 < xs.length := List.length_pos_iff.mpr hne
  unfold atI ixN
  rw [if_neg (by decide), if_pos (by omega)]
  show xs[((-1 : Int) + xs.length).toNat]? = _
  rw [List.getLast?_eq_getElem?] at h
  rw [← h]
  congr 1
  omega
theorem ixN_nn {n : Nat} {i : Int} (h : 0 ≤ i) (h2 : i < n) : ixN n i = some i.toNat := by
  unfold ixN
  rw [if_pos h, if_pos h2]
/-- a pair of numbers -/
abbrev prD (p : Int × Int) : PyData := .tuple [.int p.1, .int p.2]
abbrev spD (xs : List (Int × Int)) : PyData := .list (xs.map prD)
theorem pr_inv {S : Hp} {v : V} {a b : Int} (h : Rp S v (.tuple [.int a, .int b])) : ∃ t, v = .ref t ∧ S t = some (.tup [.int a, .int b]) := by
  obtain ⟨t, vs, rfl, h1, h2⟩ := h.tuple_inv
  cases h2 with
  | cons a1 a2 => cases a2 with
    | cons b1 b2 =>
      cases b2
      rw [a1.int_inv, b1.int_inv] at h1
      exact ⟨t, rfl, h1⟩
theorem pr_rp {S : Hp} {t : Addr} {a b : Int} (h : S t = some (.tup [.int a, .int b])) : Rp S (.ref t) (.tuple [.int a, .int b]) := .tup h (.cons (.int a) (.cons (.int b) .nil))
theorem rp_tup {S : Hp} {t : Addr} {vs : List V} {ds : List PyData} (h : S t = some (.tup vs)) (k : RpA S vs ds) : Rp S (.ref t) (.tuple ds) := .tup h k
theorem rp_lst {S : Hp} {t : Addr} {vs : List V} {ds : List PyData} (h : S t = some (.lst vs)) (k : RpA S vs ds) : Rp S (.ref t) (.list ds) := .lst h k
end G

set_option Elab.async false
set_option linter.all false
set_option maxRecDepth 100000
set_option maxHeartbeats 4000000
/-! G6: more steps: sums and slices of lists, list(x), tuple(x), items by places that are not written. -/
namespace G
open PySem L2
section
variable {K : PySem.W.Frag} {w : Wd} {H : Hp} {Q : VK} {σ : L2.St} {v x y : V} {d1 d2 : PyData} {vs xs ys : List V} {a b : Addr} {lo hi : Option Int}
theorem s_newLS (h : vs.length ≤ sizeLine) (k : ∀ p v, Ext Non w v → w.H p = none → v.S p = some (.lst vs) → Q (.ref p) v.H) : vs.length ≤ sizeLine ∧ ∀ p, w.H p = none → Q (.ref p) (upd w.H p (.lst vs)) := ⟨h, newS k⟩
theorem s_catS (h1 : w.H a = some (.lst xs)) (h2 : w.H b = some (.lst ys)) (z : xs.length + ys.length ≤ sizeLine) (k : ∀ p v, Ext Non w v → w.H p = none → v.S p = some (.lst (xs ++ ys)) → Q (.ref p) v.H) : gAdd K (.ref a) (.ref b) w.H Q :=
  .inl ⟨xs, ys, h1, h2, z, newS k⟩
theorem s_catO (h1 : w.H a = some (.lst xs)) (h2 : w.H b = some (.lst ys)) (z : xs.length + ys.length ≤ sizeLine) (k : ∀ p v, Ext Non w v → w.H p = none → Own v p (.lst (xs ++ ys)) → Q (.ref p) v.H) : gAdd K (.ref a) (.ref b) w.H Q :=
  .inl ⟨xs, ys, h1, h2, z, newO k⟩
theorem s_slS (h : SqL K w.H a xs) (k : ∀ p v, Ext Non w v → w.H p = none → v.S p = some (.lst (cutV xs lo hi)) → Q (.ref p) v.H) : gSl K (.ref a) lo hi w.H Q := .inl ⟨xs, h, newS k⟩
theorem s_slO (h : SqL K w.H a xs) (k : ∀ p v, Ext Non w v → w.H p = none → Own v p (.lst (cutV xs lo hi)) → Q (.ref p) v.H) : gSl K (.ref a) lo hi w.H Q := .inl ⟨xs, h, newO k⟩
theorem s_slT {z : Str} (h : z.length ≤ sizeLine) (k : Q (.str (cutS z lo hi)) H) : gSl K (.str z) lo hi H Q := ⟨h, k⟩
theorem s_listS (h : SqL K w.H a xs ∨ SqT K w.H a xs) (k : ∀ p v, Ext Non w v → w.H p = none → v.S p = some (.lst xs) → Q (.ref p) v.H) : gList K [.ref a] w.H Q := ⟨xs, h, newS k⟩
theorem s_listO (h : SqL K w.H a xs ∨ SqT K w.H a xs) (k : ∀ p v, Ext Non w v → w.H p = none → Own v p (.lst xs) → Q (.ref p) v.H) : gList K [.ref a] w.H Q := ⟨xs, h, newO k⟩
theorem s_tupleS (h : SqL K w.H a xs) (k : ∀ p v, Ext Non w v → w.H p = none → v.S p = some (.tup xs) → Q (.ref p) v.H) : gTuple K [.ref a] w.H Q := ⟨xs, .inl ⟨h, newS k⟩⟩
theorem s_rev {te : TE} (k : te σ H fun x H1 => ∃ a xs, x = .ref a ∧ SqL K H1 a xs ∧ ∀ p, H1 p = none → Q (.ref p) (upd H1 p (.lst xs.reverse))) : tRevL K te σ H Q := k
theorem s_revS (h : SqL K w.H a xs) (k : ∀ p v, Ext Non w v → w.H p = none → v.S p = some (.lst xs.reverse) → Q (.ref p) v.H) : ∃ b ys, V.ref a = .ref b ∧ SqL K w.H b ys ∧ ∀ p, w.H p = none → Q (.ref p) (upd w.H p (.lst ys.reverse)) := ⟨a, xs, rfl, h, newS k⟩
theorem s_revO (h : SqL K w.H a xs) (k : ∀ p v, Ext Non w v → w.H p = none → Own v p (.lst xs.reverse) → Q (.ref p) v.H) : ∃ b ys, V.ref a = .ref b ∧ SqL K w.H b ys ∧ ∀ p, w.H p = none → Q (.ref p) (upd w.H p (.lst ys.reverse)) := ⟨a, xs, rfl, h, newO k⟩
theorem s_divmod {i j : Int} (h : CDiv i j) (k : ∀ p v, Ext Non w v → w.H p = none → v.S p = some (.tup [.int (i / j), .int (i % j)]) → Q (.ref p) v.H) : gDivmod [.int i, .int j] w.H Q := ⟨h, newS k⟩
theorem s_eqD (h1 : Dp K w.H x d1) (h2 : Dp K w.H y d2) (s1 : SeqAt.shaped d1 = true) (s2 : SeqAt.shaped d2 = true) (k : Q (.bl (PyData.eqv d1 d2)) w.H) : gEq K x y w.H Q := .inr ⟨d1, d2, h1, h2, s1, s2, k⟩
theorem s_neD (h1 : Dp K w.H x d1) (h2 : Dp K w.H y d2) (s1 : SeqAt.shaped d1 = true) (s2 : SeqAt.shaped d2 = true) (k : Q (.bl (!PyData.eqv d1 d2)) w.H) : gNe K x y w.H Q := .inr ⟨d1, d2, h1, h2, s1, s2, k⟩
/-- a tuple as a target -/
theorem s_gtup {n : Nat} {t : TGs} {R : L2.St → Hp → Prop} (h : w.S a = some (.tup vs)) (e : vs.length = n) (k : t vs σ w.H R) : gTup K n t (.ref a) σ w.H R := ⟨a, vs, rfl, sqt_of h, e, k⟩
theorem s_gcons {t : TG} {u : TGs} {R : L2.St → Hp → Prop} (k : t v σ H fun σ' H' => u vs σ' H' R) : gCons t u (v :: vs) σ H R := ⟨v, vs, rfl, k⟩
theorem s_gnil {R : L2.St → Hp → Prop} (k : R σ H) : gNil [] σ H R := ⟨rfl, k⟩
theorem s_gsub {to ti : TE} {t : TSet} {R : L2.St → Hp → Prop} (k : to σ H fun o H1 => ti σ H1 fun i H2 => t o i v H2 fun H3 => R σ H3) : L2.gSub to ti t v σ H R := k
end
theorem Rp.dpH {K : PySem.W.Frag} {w : Wd} {v : V} {d : PyData} (h : Rp w.S v d) (n : nd d = true) : Dp K w.H v d := dp_mono w.ok d v (Rp.dp d v h n)
theorem own_dp {K : PySem.W.Frag} {w : Wd} {a : Addr} {vs : List V} {ds : List PyData} (o : Own w a (.lst vs)) (h : RpA w.S vs ds) (n : nd (.list ds) = true) : Dp K w.H (.ref a) (.list ds) := by
  unfold nd at n
  rw [List.all_eq_true] at n
  exact .lst (SqL.of o.h) (dp_monoA w.ok ds vs (RpA.dp ds vs h fun d hd => n ⟨d, hd⟩ (List.mem_attach ..)))
theorem nd_list {ds : List PyData} (h : ∀ d ∈ ds, nd d = true) : nd (.list ds) = true := by
  unfold nd
  rw [List.all_eq_true]
  exact fun ⟨d, hd⟩ _ => h d hd
theorem nd_tuple {ds : List PyData} (h : ∀ d ∈ ds, nd d = true) : nd (.tuple ds) = true := by
  unfold nd
  rw [List.all_eq_true]
  exact fun ⟨d, hd⟩ _ => h d hd
theorem nd_pr (p : Int × Int) : nd (prD p) = true := nd_tuple (by intro d hd; simp at hd; rcases hd with rfl | rfl <;> simp [nd])
theorem nd_sp (xs : List (Int × Int)) : nd (spD xs) = true := nd_list (by intro d hd; simp at hd; obtain ⟨a, b, _, rfl⟩ := hd; exact nd_pr (a, b))
theorem rpa_at {S : Hp} {vs : List V} {ds : List PyData} {i : Int} (h : RpA S vs ds) (h0 : 0 ≤ i) (h1 : i < ds.length) : ∃ v d, atI vs i = some v ∧ ds[i.toNat]? = some d ∧ Rp S v d := by
  have hd : ds[i.toNat]? = some ds[i.toNat] := List.getElem?_eq_getElem (by omega)
  obtain ⟨v, h2, h3⟩ := h.get' hd
  exact ⟨v, _, atI_of h0 h2, hd, h3⟩
theorem rpa_pr {S : Hp} {vs : List V} {ps : List (Int × Int)} {i : Nat} {v : V} (h : RpA S vs (ps.map prD)) (e : vs[i]? = some v) : ∃ p t, ps[i]? = some p ∧ v = .ref t ∧ S t = some (.tup [.int p.1, .int p.2]) := by
  obtain ⟨d, h1, h2⟩ := h.get e
  rw [List.getElem?_map] at h1
  cases hp : ps[i]? with
  | none => rw [hp] at h1; cases h1
  | some p =>
    rw [hp] at h1
    obtain rfl := Option.some.inj h1
    obtain ⟨t, rfl, h3⟩ := pr_inv h2
    exact ⟨p, t, rfl, rfl, h3⟩
theorem rpa_cut {S : Hp} {vs : List V} {ds : List PyData} (lo hi : Option Int) (h : RpA S vs ds) : ∃ es, RpA S (cutV vs lo hi) es := ⟨_, (h.drop _).take _⟩
theorem rpa_len_cut {vs : List V} {lo hi : Option Int} : (cutV vs lo hi).length ≤ vs.length := cutV_length vs lo hi
section
variable {K : PySem.W.Frag} {w : Wd} {H : Hp} {Q : VK} {σ : L2.St} {v x y : V} {vs xs ys : List V} {l : Addr} {P : Prop}
theorem s_ty (h : Own w l (.lst vs)) (k : P) : tyV K "list" (.ref l) w.H ∧ P := ⟨ty_own h, k⟩
theorem s_tyS {z : Str} (k : P) : tyV K "str" (.str z) H ∧ P := ⟨rfl, k⟩
theorem s_app (h : Own w l (.lst vs)) (z : vs.length < sizeLine) (k : ∀ v, Ext (One l) w v → Own v l (.lst (vs ++ [y])) → Q .non v.H) : rAppend (.ref l) [y] w.H Q := ⟨l, vs, y, rfl, rfl, h.h, z, put (R := Q .non) h k⟩
theorem s_clear (h : Own w l (.lst vs)) (k : ∀ v, Ext (One l) w v → Own v l (.lst []) → Q .non v.H) : rClear (.ref l) [] w.H Q := ⟨l, vs, rfl, rfl, h.h, put (R := Q .non) h k⟩
theorem s_reverse (h : Own w l (.lst vs)) (k : ∀ v, Ext (One l) w v → Own v l (.lst vs.reverse) → Q .non v.H) : rReverse (.ref l) [] w.H Q := ⟨l, vs, rfl, rfl, h.h, put (R := Q .non) h k⟩
theorem s_m1 {r : V → List V → Hp → VK → Prop} {to te : TE} (k : to σ H fun x H1 => (∃ a, x = .str a) ∧ te σ H1 fun y H2 => r x [y] H2 Q) : tM1 r to te σ H Q := k
theorem s_isS {z : Str} (k : P) : (∃ a, V.str z = .str a) ∧ P := ⟨⟨z, rfl⟩, k⟩
end
section
variable {K : PySem.W.Frag} {w : Wd} {H : Hp} {Q : VK} {vs : List V} {p : Addr} {a b c j : Int}
theorem s_powN (h : CPow a b) (e : a ^ b.toNat = c) (k : Q (.int c) H) : gPow (.int a) (.int b) H Q := ⟨h, by rw [e]; exact k⟩
theorem at_mem {α : Type} {xs : List α} (h0 : 0 ≤ j) (h1 : j < xs.length) : ∃ v, xs[j.toNat]? = some v ∧ atI xs j = some v ∧ v ∈ xs := by
  have hd : xs[j.toNat]? = some xs[j.toNat] := List.getElem?_eq_getElem (by omega)
  exact ⟨_, hd, atI_of h0 hd, List.getElem_mem _⟩
theorem s_ixOm (h : Own w p (.lst vs)) (h0 : 0 ≤ j) (h1 : j < vs.length) (k : ∀ v, vs[j.toNat]? = some v → v ∈ vs → Q v w.H) : gIx K (.ref p) (.int j) w.H Q := by
  obtain ⟨v, h2, h3, h4⟩ := at_mem h0 h1
  exact s_ixO h h3 (k v h2 h4)
theorem s_ixSm (h : w.S p = some (.lst vs)) (h0 : 0 ≤ j) (h1 : j < vs.length) (k : ∀ v, vs[j.toNat]? = some v → v ∈ vs → Q v w.H) : gIx K (.ref p) (.int j) w.H Q := by
  obtain ⟨v, h2, h3, h4⟩ := at_mem h0 h1
  exact s_ixL h h3 (k v h2 h4)
theorem s_ixTm (h : w.S p = some (.tup vs)) (h0 : 0 ≤ j) (h1 : j < vs.length) (k : ∀ v, vs[j.toNat]? = some v → v ∈ vs → Q v w.H) : gIx K (.ref p) (.int j) w.H Q := by
  obtain ⟨v, h2, h3, h4⟩ := at_mem h0 h1
  exact s_ixT h h3 (k v h2 h4)
end
theorem p10_1 : (10 : Int) ^ (1 : Int).toNat = 10 := by decide
theorem p10_2 : (10 : Int) ^ (2 : Int).toNat = 100 := by decide
theorem p10_3 : (10 : Int) ^ (3 : Int).toNat = 1000 := by decide
theorem p10_4 : (10 : Int) ^ (4 : Int).toNat = 10000 := by decide
theorem p10_5 : (10 : Int) ^ (5 : Int).toNat = 100000 := by decide
theorem p10_6 : (10 : Int) ^ (6 : Int).toNat = 1000000 := by decide
theorem p10_7 : (10 : Int) ^ (7 : Int).toNat = 10000000 := by decide
theorem p10_8 : (10 : Int) ^ (8 : Int).toNat = 100000000 := by decide
theorem p10_9 : (10 : Int) ^ (9 : Int).toNat = 1000000000 := by decide
theorem p10_10 : (10 : Int) ^ (10 : Int).toNat = 10000000000 := by decide
theorem p10_11 : (10 : Int) ^ (11 : Int).toNat = 100000000000 := by decide
theorem p10_12 : (10 : Int) ^ (12 : Int).toNat = 1000000000000 := by decide
theorem p10_13 : (10 : Int) ^ (13 : Int).toNat = 10000000000000 := by decide
theorem p10_14 : (10 : Int) ^ (14 : Int).toNat = 100000000000000 := by decide
theorem p10_15 : (10 : Int) ^ (15 : Int).toNat = 1000000000000000 := by decide
theorem p10_16 : (10 : Int) ^ (16 : Int).toNat = 10000000000000000 := by decide
theorem p10_17 : (10 : Int) ^ (17 : Int).toNat = 100000000000000000 := by decide
theorem p10_18 : (10 : Int) ^ (18 : Int).toNat = 1000000000000000000 := by decide
theorem p10_19 : (10 : Int) ^ (19 : Int).toNat = 10000000000000000000 := by decide
theorem p10_20 : (10 : Int) ^ (20 : Int).toNat = 100000000000000000000 := by decide
theorem p10_21 : (10 : Int) ^ (21 : Int).toNat = 1000000000000000000000 := by decide
theorem p10_22 : (10 : Int) ^ (22 : Int).toNat = 10000000000000000000000 := by decide
theorem p10_23 : (10 : Int) ^ (23 : Int).toNat = 100000000000000000000000 := by decide
theorem p10_24 : (10 : Int) ^ (24 : Int).toNat = 1000000000000000000000000 := by decide
theorem p10_25 : (10 : Int) ^ (25 : Int).toNat = 10000000000000000000000000 := by decide
theorem p10_26 : (10 : Int) ^ (26 : Int).toNat = 100000000000000000000000000 := by decide
theorem p10_27 : (10 : Int) ^ (27 : Int).toNat = 1000000000000000000000000000 := by decide
theorem p10_28 : (10 : Int) ^ (28 : Int).toNat = 10000000000000000000000000000 := by decide
theorem p10_29 : (10 : Int) ^ (29 : Int).toNat = 100000000000000000000000000000 := by decide
theorem p10_30 : (10 : Int) ^ (30 : Int).toNat = 1000000000000000000000000000000 := by decide
theorem p10_31 : (10 : Int) ^ (31 : Int).toNat = 10000000000000000000000000000000 := by decide
theorem p2_63 : (2 : Int) ^ (63 : Int).toNat = 9223372036854775808 := by decide
section
variable {K : PySem.W.Frag} {w : Wd} {H : Hp} {Q : VK} {vs xs : List V} {p a : Addr} {σ : L2.St} {A : TA}
/-- a new tuple, a new list: what is wanted of it -/
def mkT (Q : VK) (xs : List V) (H : Hp) : Prop := xs.length ≤ sizeLine ∧ ∀ p, H p = none → Q (.ref p) (upd H p (.tup xs))
def mkL (Q : VK) (xs : List V) (H : Hp) : Prop := xs.length ≤ sizeLine ∧ ∀ p, H p = none → Q (.ref p) (upd H p (.lst xs))
def mkR (K : PySem.W.Frag) (Q : VK) (x : V) (H : Hp) : Prop := ∃ a xs, x = .ref a ∧ SqL K H a xs ∧ ∀ p, H p = none → Q (.ref p) (upd H p (.lst xs.reverse))
def mkD (Q : VK) (p : Addr) (ps : List (V × V)) (H2 : Hp) : Prop := H2 p = some (.dK []) ∧ ∃ kvs : List (Key × V), ps = kvs.map (fun kv => (kV kv.1, kv.2)) ∧ kvs.length ≤ 15 ∧ Q (.ref p) (upd H2 p (.dK (mergeK [] kvs)))
theorem t_tup (k : A σ H (mkT Q)) : tTup A σ H Q := k
theorem t_lst (k : A σ H (mkL Q)) : tLst A σ H Q := k
theorem t_rev {te : TE} (k : te σ H (mkR K Q)) : tRevL K te σ H Q := k
theorem t_newT (h : vs.length ≤ sizeLine) (k : ∀ p v, Ext Non w v → w.H p = none → v.S p = some (.tup vs) → Q (.ref p) v.H) : mkT Q vs w.H := ⟨h, newS k⟩
theorem t_newL (h : vs.length ≤ sizeLine) (k : ∀ p v, Ext Non w v → w.H p = none → Own v p (.lst vs) → Q (.ref p) v.H) : mkL Q vs w.H := ⟨h, newO k⟩
theorem t_newLS (h : vs.length ≤ sizeLine) (k : ∀ p v, Ext Non w v → w.H p = none → v.S p = some (.lst vs) → Q (.ref p) v.H) : mkL Q vs w.H := ⟨h, newS k⟩
theorem t_revS (h : SqL K w.H a xs) (k : ∀ p v, Ext Non w v → w.H p = none → v.S p = some (.lst xs.reverse) → Q (.ref p) v.H) : mkR K Q (.ref a) w.H := ⟨a, xs, rfl, h, newS k⟩
theorem t_revO (h : SqL K w.H a xs) (k : ∀ p v, Ext Non w v → w.H p = none → Own v p (.lst xs.reverse) → Q (.ref p) v.H) : mkR K Q (.ref a) w.H := ⟨a, xs, rfl, h, newO k⟩
theorem t_disp {trs : List (TE × TE)} (k : ∀ p u, Ext Non w u → w.H p = none → Own u p (.dK []) → tPairs trs σ u.H (mkD Q p)) : tDisp trs σ w.H Q := s_disp k
theorem t_dispE {ps : List (V × V)} (o : Own w p (.dK [])) (kvs kvs' : List (Key × V)) (e : ps = kvs.map (fun kv => (kV kv.1, kv.2))) (e2 : mergeK [] kvs = kvs') (hz : kvs.length ≤ 15) (k : ∀ u, Ext (One p) w u → Own u p (.dK kvs') → Q (.ref p) u.H) : mkD Q p ps w.H :=
  s_dispE o kvs kvs' e e2 hz k
end
theorem log_small {i : Int} (h : -(10 ^ 60) < i) (h2 : i < 10 ^ 60) : i.natAbs.log2 < 1920 := by
  have h3 : i.natAbs < 2 ^ 200 := by omega
  exact Nat.lt_trans (PySem.Flt.log2_lt_of (by decide) h3) (by decide)
theorem RpA.cut {S : Hp} {vs : List V} {ds : List PyData} (h : RpA S vs ds) (lo hi : Option Int) : RpA S (cutV vs lo hi) ((ds.drop (HT.sIx vs.length 0 lo)).take (HT.sIx vs.length vs.length hi - HT.sIx vs.length 0 lo)) := (h.drop _).take _
section
variable {xs ys : List V} {n m : Nat} {lo hi : Option Int}
theorem len_app (h : xs.length ≤ n) (h2 : ys.length ≤ m) : (xs ++ ys).length ≤ n + m := by rw [List.length_append]; omega
theorem len_cut (h : xs.length ≤ n) : (cutV xs lo hi).length ≤ n := Nat.le_trans (cutV_length _ _ _) h
theorem len_rev (h : xs.length ≤ n) : xs.reverse.length ≤ n := by rw [List.length_reverse]; exact h
theorem z_cat (h1 : xs.length ≤ n) (h2 : ys.length ≤ m) (k : n + m ≤ sizeLine) : xs.length + ys.length ≤ sizeLine := by omega
end
theorem t_disp0 {w : Wd} {Q : VK} {σ : L2.St} (k : ∀ p v, Ext Non w v → w.H p = none → v.S p = some (.dK []) → Q (.ref p) v.H) : tDisp [] σ w.H Q :=
  s_disp fun p u e n o => t_dispE o [] [] rfl rfl (by simp) fun v e2 o2 => lay (R := Q (.ref p)) o2 fun x e3 s => k p x (e.step (e2.trans e3) fun l hl => .inl (hl ▸ n)) n s
end G

namespace G
open PySem L2
mutual
theorem nd_can : ∀ d : PyData, d.canLay0 = true → nd d = true
  | .none, _ => by unfold nd; rfl
  | .bool _, _ => by unfold nd; rfl
  | .int _, _ => by unfold nd; rfl
  | .str _, _ => by unfold nd; rfl
  | .list ds, h => by
    unfold nd
    rw [List.all_eq_true]
    rintro ⟨d, hd⟩ _
    exact nd_canA ds (by simpa [PyData.canLay0] using h) d hd
  | .tuple ds, h => by
    unfold nd
    rw [List.all_eq_true]
    rintro ⟨d, hd⟩ _
    exact nd_canA ds (by simpa [PyData.canLay0] using h) d hd
  | .dict _, h => by simp [PyData.canLay0] at h
theorem nd_canA : ∀ ds : List PyData, PyData.canLayAll0 ds = true → ∀ d ∈ ds, nd d = true
  | [], _, d, h => by cases h
  | x :: xs, h, d, hd => by
    have h' : x.canLay0 = true ∧ PyData.canLayAll0 xs = true := by simpa [PyData.canLayAll0] using h
    cases hd with
    | head => exact nd_can x h'.1
    | tail _ hd => exact nd_canA xs h'.2 d hd
end
theorem can_prs : ∀ rows : List (Int × Int), PyData.canLayAll0 (rows.map prD) = true
  | [] => by simp [PyData.canLayAll0]
  | q :: r => by simp [PyData.canLayAll0, PyData.canLay0, can_prs r]
theorem dep_prs : ∀ rows : List (Int × Int), PyData.depthAll (rows.map prD) ≤ 2
  | [] => by simp [PyData.depthAll]
  | q :: r => by
    have := dep_prs r
    simp only [List.map_cons, PyData.depthAll, PyData.depth]
    omega
theorem shaped_spD (rows : List (Int × Int)) : SeqAt.shaped (spD rows) = true := by
  have h1 := dep_prs rows
  have h2 : PyData.depth (spD rows) ≤ 64 := by simp only [PyData.depth]; omega
  show (PyData.canLay0 (spD rows) && decide (PyData.depth (spD rows) ≤ 64)) = true
  rw [Bool.and_eq_true]
  exact ⟨by simp only [PyData.canLay0]; exact can_prs rows, decide_eq_true h2⟩
theorem s_dnewS {w : Wd} {Q : VK} {σ : L2.St} (k : ∀ p v, Ext Non w v → w.H p = none → v.S p = some (.dK []) → Q (.ref p) v.H) : tDNewK σ w.H Q := newS k
theorem rp_some {S : Hp} {xs : List V} {a : Addr} (_ : S a = some (.lst xs)) (h : ∃ ds, RpA S xs ds) : ∃ ds, RpA S xs ds := h
theorem ite_nr {α : Type} {A B : Prop} {x : α} [DecidableEq α] (k : B) : if (!decide (x = x)) = true then A else B := by
  rw [decide_eq_true rfl]
  exact k
theorem ite_nt {A B : Prop} (k : B) : if (!true) = true then A else B := k
theorem ite_nf {A B : Prop} (k : A) : if (!false) = true then A else B := k
theorem nd_shaped {d : PyData} (h : SeqAt.shaped d = true) : nd d = true := nd_can d (SeqAt.canLay_of_shaped h)
section
variable {K : PySem.W.Frag} {w : Wd} {x y : V} {d1 d2 : PyData} {Q : VK}
theorem s_eqR (h1 : Rp w.S x d1) (h2 : Rp w.S y d2) (s1 : SeqAt.shaped d1 = true) (s2 : SeqAt.shaped d2 = true) (k : Q (.bl (PyData.eqv d1 d2)) w.H) : gEq K x y w.H Q := s_eqD (h1.dpH (nd_shaped s1)) (h2.dpH (nd_shaped s2)) s1 s2 k
theorem s_neR (h1 : Rp w.S x d1) (h2 : Rp w.S y d2) (s1 : SeqAt.shaped d1 = true) (s2 : SeqAt.shaped d2 = true) (k : Q (.bl (!PyData.eqv d1 d2)) w.H) : gNe K x y w.H Q := s_neD (h1.dpH (nd_shaped s1)) (h2.dpH (nd_shaped s2)) s1 s2 k
theorem eqv_self {d : PyData} (h : SeqAt.shaped d = true) : PyData.eqv d d = true := SeqAt.eqv_refl d (SeqAt.canLay_of_shaped h)
end
end G

namespace G
open PySem L2
section
variable {K : PySem.W.Frag} {w u v : Wd} {a p : Addr} {o : HO} {m : Addr → Prop} {vs : List V} {Q : VK} {x y : V}
/-- what stands at a, for good or owned: may be read -/
def Rd (w : Wd) (a : Addr) (o : HO) : Prop := w.S a = some o ∨ Own w a o
theorem Rd.h (r : Rd w a o) : w.H a = some o := r.elim (fun s => w.ok _ _ s) Own.h
theorem Rd.go (e : Ext m w v) (n : ¬ m a) (r : Rd w a o) : Rd v a o := r.elim (fun s => .inl (st_go e s)) fun s => .inr (s.ext e n)
theorem Rd.ne (r : Rd w a o) (n : w.H p = none) : a ≠ p := ne_of_none r.h n
theorem Rd.ne' (r : Rd w a o) (n : w.H p = none) : p ≠ a := (ne_of_none r.h n).symm
theorem Rd.own (r : Rd w a o) {q : HO} (s : Own w p q) (d : o ≠ q) : a ≠ p := fun e => d (by subst e; exact Option.some.inj (r.h.symm.trans s.h))
theorem s_ixA {i : Nat} (r : Rd w a (.lst vs)) (e : vs[i]? = some y) (k : Q y w.H) : gIx K (.ref a) (.int (i : Int)) w.H Q :=
  have hi : i < vs.length := (List.getElem?_eq_some_iff.mp e).1
  ⟨_, y, .inl (SqL.of r.h), by rw [atI_nn (Int.natCast_nonneg i) (by omega)]; simpa using e, k⟩
theorem nil_or_snoc {α : Type} (l : List α) : l = [] ∨ ∃ r x, l = r ++ [x] := by
  by_cases h : l = []
  · exact .inl h
  · exact .inr ⟨l.dropLast, l.getLast h, (List.dropLast_concat_getLast h).symm⟩
theorem atI_snoc {α : Type} {xs : List α} {v : α} : atI (xs ++ [v]) (-1) = some v := atI_back (by simp)
theorem get3 {α β : Type} {i : Nat} {a b c x : α} {d e f q : β} (h1 : [a, b, c][i]? = some x) (h2 : [d, e, f][i]? = some q) : (x = a ∧ q = d) ∨ (x = b ∧ q = e) ∨ (x = c ∧ q = f) := by
  match i, h1, h2 with
  | 0, h1, h2 => simp at h1 h2; exact .inl ⟨h1.symm, h2.symm⟩
  | 1, h1, h2 => simp at h1 h2; exact .inr (.inl ⟨h1.symm, h2.symm⟩)
  | 2, h1, h2 => simp at h1 h2; exact .inr (.inr ⟨h1.symm, h2.symm⟩)
  | n + 3, h1, _ => simp at h1
theorem s_lenR (r : Rd w a (.lst vs)) (k : Q (.int vs.length) w.H) : gLen K [.ref a] w.H Q := s_lenK (SqL.of r.h) k
theorem rd_dp {ds : List PyData} (r : Rd w a (.lst vs)) (h : RpA w.S vs ds) (n : nd (.list ds) = true) : Dp K w.H (.ref a) (.list ds) := by
  unfold nd at n
  rw [List.all_eq_true] at n
  exact .lst (SqL.of r.h) (dp_monoA w.ok ds vs (RpA.dp ds vs h fun d hd => n ⟨d, hd⟩ (List.mem_attach ..)))
/-- == and != of two lists that may be read -/
theorem s_eqL {b : Addr} {us : List V} {ds es : List PyData} (r1 : Rd w a (.lst vs)) (h1 : RpA w.S vs ds) (r2 : Rd w b (.lst us)) (h2 : RpA w.S us es) (s1 : SeqAt.shaped (.list ds) = true) (s2 : SeqAt.shaped (.list es) = true)
    (k : Q (.bl (PyData.eqv (.list ds) (.list es))) w.H) : gEq K (.ref a) (.ref b) w.H Q := s_eqD (rd_dp r1 h1 (nd_shaped s1)) (rd_dp r2 h2 (nd_shaped s2)) s1 s2 k
theorem s_neL {b : Addr} {us : List V} {ds es : List PyData} (r1 : Rd w a (.lst vs)) (h1 : RpA w.S vs ds) (r2 : Rd w b (.lst us)) (h2 : RpA w.S us es) (s1 : SeqAt.shaped (.list ds) = true) (s2 : SeqAt.shaped (.list es) = true)
    (k : Q (.bl (!PyData.eqv (.list ds) (.list es))) w.H) : gNe K (.ref a) (.ref b) w.H Q := s_neD (rd_dp r1 h1 (nd_shaped s1)) (rd_dp r2 h2 (nd_shaped s2)) s1 s2 k
theorem si_rd {T : String} {b : Bool} (h : Rd w a (.lst vs)) (e : kitB "list" T = some b) (k : Q (.bl b) w.H) : rIsi K [.ref a, .ty T] w.H Q := ⟨_, .ty T, _, _, b, rfl, .ty T, .base (.lst h.h), kit_ty e, k⟩
theorem any_filter {α : Type} (f : α → Bool) (l : List α) : (!(l.filter f).isEmpty) = l.any f := by
  rw [Bool.eq_iff_iff]
  simp [List.any_eq_true, List.isEmpty_iff, List.filter_eq_nil_iff]
theorem filter_all {α : Type} (l : List α) : l.filter (fun _ => true) = l := by
  induction l with
  | nil => rfl
  | cons x r ih => rw [List.filter_cons_of_pos rfl, ih]
theorem eqv_nil (ds : List PyData) : PyData.eqv (.list ds) (.list []) = ds.isEmpty := by
  cases ds <;> simp [PyData.eqv, PyData.eqvAll]
theorem shaped_nil : SeqAt.shaped (.list []) = true := shaped_spD []
/-- xs != [] -/
theorem s_neN {b : Addr} {rows : List (Int × Int)} (r : Rd w a (.lst vs)) (h : RpA w.S vs (rows.map prD)) (s : w.S b = some (.lst [])) (k : Q (.bl (!rows.isEmpty)) w.H) : gNe K (.ref a) (.ref b) w.H Q :=
  s_neL r h (.inl s) .nil (shaped_spD rows) shaped_nil (by rw [eqv_nil, List.isEmpty_map]; exact k)
theorem s_eqN {b : Addr} {rows : List (Int × Int)} (r : Rd w a (.lst vs)) (h : RpA w.S vs (rows.map prD)) (s : w.S b = some (.lst [])) (k : Q (.bl rows.isEmpty) w.H) : gEq K (.ref a) (.ref b) w.H Q :=
  s_eqL r h (.inl s) .nil (shaped_spD rows) shaped_nil (by rw [eqv_nil, List.isEmpty_map]; exact k)
/-- pop and a store at the end -/
theorem s_pop (h : Own w a (.lst (vs ++ [y]))) (k : ∀ v, Ext (One a) w v → Own v a (.lst vs) → Q y v.H) : rPop (.ref a) [] w.H Q :=
  ⟨a, vs ++ [y], y, rfl, rfl, h.h, by simp, put (R := Q y) h fun v e o => k v e (by rw [List.dropLast_concat] at o; exact o)⟩
theorem s_setB {R : Hp → Prop} (h : Own w a (.lst (vs ++ [y]))) (k : ∀ u, Ext (One a) w u → Own u a (.lst (vs ++ [x])) → R u.H) : rSetL (.ref a) (.int (-1)) x w.H R :=
  s_setL h (m := vs.length) (by simp [ixN]; omega) fun u e o => k u e (by
    have := o
    rw [List.set_append] at this
    simpa using this)
end
section
variable {K : PySem.W.Frag} {w : Wd} {a : Addr} {vs : List V} {Q : VK} {rows : List (Int × Int)}
theorem RpA.snoc_inv {S : Hp} {d : PyData} : ∀ {ds : List PyData} {vs : List V}, RpA S vs (ds ++ [d]) → ∃ us y, vs = us ++ [y] ∧ RpA S us ds ∧ Rp S y d
  | [], _, h => by
    cases h with
    | cons h1 h2 =>
      cases h2
      exact ⟨[], _, rfl, .nil, h1⟩
  | e :: ds, _, h => by
    cases h with
    | cons h1 h2 =>
      obtain ⟨us, y, rfl, h3, h4⟩ := RpA.snoc_inv h2
      exact ⟨_ :: us, y, rfl, .cons h1 h3, h4⟩
/-- a pair at an address -/
def kP (S : Hp) : V → Int × Int
  | .ref t => match S t with
    | some (.tup [.int a, .int b]) => (a, b)
    | _ => (0, 0)
  | _ => (0, 0)
theorem kP_of {S : Hp} {x : V} {q : Int × Int} (h : Rp S x (prD q)) : kP S x = q ∧ ∃ t, x = .ref t ∧ S t = some (.tup [.int q.1, .int q.2]) := by
  obtain ⟨t, rfl, ht⟩ := pr_inv h
  exact ⟨by simp [kP, ht], t, rfl, ht⟩
theorem kP_map {S : Hp} : ∀ {vs : List V} {rows : List (Int × Int)}, RpA S vs (rows.map prD) → vs.map (kP S) = rows
  | _, [], h => by cases h; rfl
  | _, q :: r, h => by
    cases h with
    | cons h1 h2 => rw [List.map_cons, (kP_of h1).1, kP_map h2]
theorem kP_back {S : Hp} : ∀ {ys : List V}, (∀ x ∈ ys, Rp S x (prD (kP S x))) → RpA S ys ((ys.map (kP S)).map prD)
  | [], _ => .nil
  | y :: ys, h => .cons (h y List.mem_cons_self) (kP_back fun x hx => h x (List.mem_cons_of_mem _ hx))
theorem kP_all {S : Hp} : ∀ {vs : List V} {rows : List (Int × Int)}, RpA S vs (rows.map prD) → ∀ x ∈ vs, Rp S x (prD (kP S x))
  | _, [], h, x, hx => by cases h; cases hx
  | _, q :: r, h, x, hx => by
    cases h with
    | cons h1 h2 =>
      cases hx with
      | head => rw [(kP_of h1).1]; exact h1
      | tail _ hx => exact kP_all h2 x hx
def leP (p q : Int × Int) : Prop := p.1 < q.1 ∨ (p.1 = q.1 ∧ p.2 ≤ q.2)
/-- sorted of pairs -/
theorem s_sortP (h : SqL K w.H a vs) (r : RpA w.S vs (rows.map prD)) (k : ∀ p v (rows' : List (Int × Int)) vs', Ext Non w v → w.H p = none → v.S p = some (.lst vs') → RpA v.S vs' (rows'.map prD) → rows'.Perm rows → rows'.Pairwise leP → Q (.ref p) v.H) :
    rSortedPO K [.ref a] w.H Q := by
  refine ⟨a, vs, kP w.S, rfl, h, fun x hx => ?_, fun ys p hs hp hn => ?_⟩
  · obtain ⟨t, e, ht⟩ := (kP_of (kP_all r x hx)).2
    exact ⟨t, e, w.ok _ _ ht⟩
  · refine newS (Q := Q) (fun p v e n s => ?_) p hn
    have hall : ∀ x ∈ ys, Rp w.S x (prD (kP w.S x)) := fun x hx => kP_all r x (hp.perm.mem_iff.mp hx)
    refine k p v (ys.map (kP w.S)) ys e n s ((kP_back hall).go e) ?_ ?_
    · rw [← kP_map r]
      exact hp.perm.map _
    · rw [List.pairwise_map]
      refine List.Pairwise.imp (fun {x y} hxy => ?_) hs
      have := SrtO.lexB_no.mp hxy
      unfold leP
      omega
/-- a comprehension over items told by rows -/
theorem lc_gen {α : Type} {rows : List α} {J : It} {n : Nat} {G : Wd → Prop} {xs : List V} (k : WWalk J n G (YI xs)) {g : TG} {tt : TT} {te : TE} {js : List Nat} {σ : L2.St} {D : Addr} {Qd : Hp → Prop} (f : α → Bool) (gd : α → PyData) (hD : w.H D = none)
    (hlen : rows.length = n) (hz : n < sizeLine) (hG : ∀ u, Ext (One D) w u → G u)
    (hs : ∀ i x q u, i < n → xs[i]? = some x → rows[i]? = some q → Ext (One D) w u → ∀ (R : VK) (Z : Hp → Prop), (∀ v y, Ext Non u v → f q = true → Rp v.S y (gd q) → R y v.H) → (∀ v, Ext Non u v → f q = false → Z v.H) →
      g x (wipe σ js) u.H fun σ2 H2 => wipe σ2 js = wipe σ js ∧ tt σ2 H2 fun b H3 => if b = true then te σ2 H3 R else Z H3)
    (hd : ∀ u acc, Ext Non w u → w.H D = none → Own u D (.lst acc) → RpA u.S acc ((rows.filter f).map gd) → Qd u.H) :
    ∃ W : Nat → Nat → Hp → Prop, (∃ m, W 0 m (upd w.H D (.lst []))) ∧ ∀ i m H, W i m H →
      (J.stop i H ∧ Qd H) ∨ (J.go i H ∧ ∃ Nx : Hp → Prop, (∀ H', Nx H' → ∃ m', m' < m ∧ W (i + 1) m' H') ∧ ∀ x H', J.yld i H x H' → g x (wipe σ js) H' fun σ2 H2 => wipe σ2 js = wipe σ js ∧ tt σ2 H2 fun b H3 =>
        if b = true then te σ2 H3 fun y H4 => ∃ acc, H4 D = some (.lst acc) ∧ acc.length < sizeLine ∧ Nx (upd H4 D (.lst (acc ++ [y]))) else Nx H3) := by
  refine lcW k (fun i u acc => Ext (One D) w u ∧ RpA u.S acc (((rows.take i).filter f).map gd)) hD (fun u e o => ⟨e.more fun _ z => z.elim, .nil⟩) (fun i u acc _ p => hG u p.1) ?_ ?_
  · rintro i x u0 u acc hi o ⟨e, ha2⟩ ⟨rfl, hx⟩
    have hi' : i < rows.length := by omega
    have ht : rows.take (i + 1) = rows.take i ++ [rows[i]] := by rw [List.take_add_one, List.getElem?_eq_getElem hi']; rfl
    have hal : acc.length < sizeLine := by
      have h1 := ha2.length
      rw [List.length_map] at h1
      have h2 := List.length_filter_le f (rows.take i)
      rw [List.length_take] at h2
      omega
    refine hs i x rows[i] u hi hx (List.getElem?_eq_getElem hi') e _ _ (fun t y et hf hy => ?_) (fun t et hf => ?_)
    · refine lc_put (o.ext et fun z => z) hal fun z ez oz => ⟨(e.step et fun _ z => z.elim).step ez fun l hl => .inr hl, ?_⟩
      rw [ht, List.filter_append, List.filter_cons_of_pos hf, List.filter_nil, List.map_append]
      exact RpA.append ((ha2.go et).go ez) (.one (hy.go ez))
    · refine lcN_i (o.ext et fun z => z) ⟨e.step et fun _ z => z.elim, ?_⟩
      rw [ht, List.filter_append, List.filter_cons_of_neg (by rw [hf]; decide), List.filter_nil, List.append_nil]
      exact ha2.go et
  · rintro u acc ⟨e, ha2⟩ o
    refine hd u acc (e.more fun l hl => .inl (by rw [show l = D from hl]; exact hD)) hD o ?_
    rw [← hlen, List.take_length] at ha2
    exact ha2
/-- a comprehension over pairs -/
theorem lc_rows {J : It} {n : Nat} {G : Wd → Prop} {xs : List V} (k : WWalk J n G (YI xs)) {g : TG} {tt : TT} {te : TE} {js : List Nat} {σ : L2.St} {D : Addr} {Qd : Hp → Prop} (f : Int × Int → Bool) (gd : Int × Int → PyData) (hD : w.H D = none)
    (ha : RpA w.S xs (rows.map prD)) (hn : xs.length = n) (hz : n < sizeLine) (hG : ∀ u, Ext (One D) w u → G u)
    (hs : ∀ i x q u, i < n → xs[i]? = some x → rows[i]? = some q → Rp u.S x (prD q) → Ext (One D) w u → ∀ (R : VK) (Z : Hp → Prop), (∀ v y, Ext Non u v → f q = true → Rp v.S y (gd q) → R y v.H) → (∀ v, Ext Non u v → f q = false → Z v.H) →
      g x (wipe σ js) u.H fun σ2 H2 => wipe σ2 js = wipe σ js ∧ tt σ2 H2 fun b H3 => if b = true then te σ2 H3 R else Z H3)
    (hd : ∀ u acc, Ext Non w u → w.H D = none → Own u D (.lst acc) → RpA u.S acc ((rows.filter f).map gd) → Qd u.H) :
    ∃ W : Nat → Nat → Hp → Prop, (∃ m, W 0 m (upd w.H D (.lst []))) ∧ ∀ i m H, W i m H →
      (J.stop i H ∧ Qd H) ∨ (J.go i H ∧ ∃ Nx : Hp → Prop, (∀ H', Nx H' → ∃ m', m' < m ∧ W (i + 1) m' H') ∧ ∀ x H', J.yld i H x H' → g x (wipe σ js) H' fun σ2 H2 => wipe σ2 js = wipe σ js ∧ tt σ2 H2 fun b H3 =>
        if b = true then te σ2 H3 fun y H4 => ∃ acc, H4 D = some (.lst acc) ∧ acc.length < sizeLine ∧ Nx (upd H4 D (.lst (acc ++ [y]))) else Nx H3) := by
  have hlen : rows.length = n := by have := ha.length; rw [List.length_map] at this; omega
  refine lc_gen k f gd hD hlen hz hG (fun i x q u hi hx hq e R Z h1 h2 => ?_) hd
  obtain ⟨d, h3, h4⟩ := ha.get hx
  have h3' : d = prD q := by rw [List.getElem?_map, hq] at h3; exact (Option.some.inj h3).symm
  subst h3'
  exact hs i x q u hi hx hq (h4.go e) e R Z h1 h2
/-- while -/
def whN (Pv : Nat → L2.St → Wd → Prop) (m : Nat) (tb : TS) (D : Ends) (σ : L2.St) (H1 : Hp) : Prop :=
  ∃ N : L2.St → Hp → Prop, (∀ σ' H', N σ' H' → ∃ m', m' < m ∧ ∃ u : Wd, u.H = H' ∧ Pv m' σ' u) ∧ tb { D with nx := N, ct := N, bk := D.nx } σ H1
theorem s_whN {Pv : Nat → L2.St → Wd → Prop} {m : Nat} {tb : TS} {D : Ends} {σ : L2.St} {H1 : Hp} (k : tb { D with nx := wds (fun σ u => ∃ m', m' < m ∧ Pv m' σ u), ct := wds (fun σ u => ∃ m', m' < m ∧ Pv m' σ u), bk := D.nx } σ H1) : whN Pv m tb D σ H1 :=
  ⟨_, fun _ _ ⟨u, e, m', h, p⟩ => ⟨m', h, u, e, p⟩, k⟩
theorem whW {c : TT} {tb : TS} {D : Ends} {σ : L2.St} {w : Wd} (Pv : Nat → L2.St → Wd → Prop) (n : Nat) (h0 : Pv n σ w)
    (hs : ∀ m σ w, Pv m σ w → c σ w.H fun b H1 => if b = true then whN Pv m tb D σ H1 else D.nx σ H1) : tWhile c tb D σ w.H := by
  refine ⟨fun m σ H => ∃ u : Wd, u.H = H ∧ Pv m σ u, ⟨n, w, rfl, h0⟩, ?_⟩
  rintro m σ H ⟨u, rfl, p⟩
  exact hs m σ u p
/-- with what holds behind it -/
theorem whW2 {c : TT} {tb : TS} {D : Ends} {σ : L2.St} {w : Wd} (Pv : Nat → L2.St → Wd → Prop) (n : Nat) (R : L2.St → Wd → Prop) (h0 : Pv n σ w)
    (hs : ∀ (Z : L2.St → Hp → Prop), (∀ σ u, R σ u → Z σ u.H) → ∀ m σ w, Pv m σ w → c σ w.H fun b H1 => if b = true then whN Pv m tb D σ H1 else Z σ H1) (hd : ∀ σ u, R σ u → D.nx σ u.H) : tWhile c tb D σ w.H := whW Pv n h0 (hs D.nx hd)
theorem s_augA {a b : Int} {i : Nat} {D : Ends} {σ σ' : L2.St} {H : Hp} (e : σ[i]? = some (some (.int a))) (e2 : σ.set i (some (.int (a + b))) = σ') (k : D.nx σ' H) : tAug i (tC (.int b)) (ipI fun i j => i + j) D σ H := by
  subst e2
  exact ⟨.int a, e, a, b, rfl, rfl, k⟩
end
end G
namespace G
open PySem L2
theorem cut_to {xs : List V} {d : Int} (h : 0 ≤ d) : cutV xs none (some d) = xs.take d.toNat := by
  have e : HT.sIx xs.length 0 none = 0 := rfl
  unfold cutV
  rw [e, List.drop_zero, Nat.sub_zero]
  by_cases hd : d ≤ xs.length
  · have e2 : HT.sIx xs.length xs.length (some d) = d.toNat := by
      show (if d < 0 then _ else min d.toNat _) = _
      rw [if_neg (by omega)]
      omega
    rw [e2]
  · have e2 : HT.sIx xs.length xs.length (some d) = xs.length := by
      show (if d < 0 then _ else min d.toNat _) = _
      rw [if_neg (by omega)]
      omega
    rw [e2, List.take_length, List.take_of_length_le (by omega)]
theorem cut_from {xs : List V} {d : Int} (h : 0 ≤ d) : cutV xs (some d) none = xs.drop d.toNat := by
  have e : HT.sIx xs.length xs.length none = xs.length := rfl
  unfold cutV
  rw [e]
  by_cases hd : d ≤ xs.length
  · have e2 : HT.sIx xs.length 0 (some d) = d.toNat := by
      show (if d < 0 then _ else min d.toNat _) = _
      rw [if_neg (by omega)]
      omega
    rw [e2]
    exact List.take_of_length_le (by rw [List.length_drop]; omega)
  · have e2 : HT.sIx xs.length 0 (some d) = xs.length := by
      show (if d < 0 then _ else min d.toNat _) = _
      rw [if_neg (by omega)]
      omega
    rw [e2, List.drop_eq_nil_of_le (Nat.le_refl _), List.drop_eq_nil_of_le (by omega), List.take_nil]
end G
namespace G
open PySem L2
theorem can_spDs : ∀ L : List (List (Int × Int)), PyData.canLayAll0 (L.map spD) = true
  | [] => by simp [PyData.canLayAll0]
  | A :: r => by simp [PyData.canLayAll0, PyData.canLay0, can_prs, can_spDs r]
theorem dep_spDs : ∀ L : List (List (Int × Int)), PyData.depthAll (L.map spD) ≤ 3
  | [] => by simp [PyData.depthAll]
  | A :: r => by
    have := dep_spDs r
    have := dep_prs A
    simp only [List.map_cons, PyData.depthAll, PyData.depth]
    omega
theorem shaped_spDs (L : List (List (Int × Int))) : SeqAt.shaped (.list (L.map spD)) = true := by
  have h1 := dep_spDs L
  have h2 : PyData.depth (.list (L.map spD)) ≤ 64 := by simp only [PyData.depth]; omega
  show (PyData.canLay0 (.list (L.map spD)) && decide (PyData.depth (.list (L.map spD)) ≤ 64)) = true
  rw [Bool.and_eq_true]
  exact ⟨by simp only [PyData.canLay0]; exact can_spDs L, decide_eq_true h2⟩
theorem shaped_b3 (a b c : Bool) : SeqAt.shaped (.list [.bool a, .bool b, .bool c]) = true := by
  cases a <;> cases b <;> cases c <;> decide
def Thr (a b c : Addr) : Addr → Prop := fun l => l = a ∨ l = b ∨ l = c
theorem nm_thr {l a b c : Addr} (h : l ≠ a) (h2 : l ≠ b) (h3 : l ≠ c) : ¬ Thr a b c l := fun z => z.elim h fun z => z.elim h2 h3
theorem tch_thr {u : Wd} {m : Addr → Prop} {k j i : Addr} (h : u.H k = none ∨ m k) (h2 : u.H j = none ∨ m j) (h3 : u.H i = none ∨ m i) : ∀ l, Thr k j i l → u.H l = none ∨ m l := fun l e => by
  rcases e with e | e | e <;> rw [e] <;> assumption
end G
namespace G
open PySem L2
section
variable {K : PySem.W.Frag} {w : Wd} {a b : Addr} {vs us : List V} {Q : VK} {x y : V} {d : PyData} {ds : List PyData}
theorem s_eqRs (s : SeqAt.shaped d = true) (h1 : Rp w.S x d) (h2 : Rp w.S y d) (k : Q (.bl true) w.H) : gEq K x y w.H Q := s_eqR h1 h2 s s (by rw [eqv_self s]; exact k)
theorem s_neRs (s : SeqAt.shaped d = true) (h1 : Rp w.S x d) (h2 : Rp w.S y d) (k : Q (.bl false) w.H) : gNe K x y w.H Q := s_neR h1 h2 s s (by rw [eqv_self s]; exact k)
theorem s_eqLs (s : SeqAt.shaped (.list ds) = true) (r1 : Rd w a (.lst vs)) (h1 : RpA w.S vs ds) (r2 : Rd w b (.lst us)) (h2 : RpA w.S us ds) (k : Q (.bl true) w.H) : gEq K (.ref a) (.ref b) w.H Q := s_eqL r1 h1 r2 h2 s s (by rw [eqv_self s]; exact k)
theorem s_neLs (s : SeqAt.shaped (.list ds) = true) (r1 : Rd w a (.lst vs)) (h1 : RpA w.S vs ds) (r2 : Rd w b (.lst us)) (h2 : RpA w.S us ds) (k : Q (.bl false) w.H) : gNe K (.ref a) (.ref b) w.H Q := s_neL r1 h1 r2 h2 s s (by rw [eqv_self s]; exact k)
theorem shaped_b (b : Bool) : SeqAt.shaped (.bool b) = true := by cases b <;> decide
theorem s_neBs {b : Bool} (k : Q (.bl false) w.H) : gNe K (.bl b) (.bl b) w.H Q := s_neRs (shaped_b b) (.bl _) (.bl _) k
theorem shaped_2 (A B : List (Int × Int)) : SeqAt.shaped (.list [spD A, spD B]) = true := shaped_spDs [A, B]
theorem shaped_3 (A B C : List (Int × Int)) : SeqAt.shaped (.list [spD A, spD B, spD C]) = true := shaped_spDs [A, B, C]
end
end G

namespace G
open PySem L2 PyProof.Rows RZ
def rMinK (K : PySem.W.Frag) : List V → List V → Hp → VK → Prop := fun vs zs H Q => ∃ (a : Addr) (ns : List Int) (d : V), vs = [.ref a] ∧ zs = [d] ∧ SqL K H a (ns.map V.int) ∧ (ns = [] → Q d H) ∧ ∀ n r, ns = n :: r → Q (.int (r.foldl min n)) H
def rMaxK (K : PySem.W.Frag) : List V → List V → Hp → VK → Prop := fun vs zs H Q => ∃ (a : Addr) (ns : List Int) (d : V), vs = [.ref a] ∧ zs = [d] ∧ SqL K H a (ns.map V.int) ∧ (ns = [] → Q d H) ∧ ∀ n r, ns = n :: r → Q (.int (r.foldl max n)) H
theorem alike_ints (ns : List Int) : PySem.W.AlikeAll (ns.map PyData.int) := by
  refine ⟨fun x hx y hy => ?_, fun x hx => ?_⟩
  · obtain ⟨i, _, rfl⟩ := List.mem_map.mp hx
    obtain ⟨j, _, rfl⟩ := List.mem_map.mp hy
    rfl
  · obtain ⟨i, _, rfl⟩ := List.mem_map.mp hx
    exact fun z => by cases z
section
variable {X : Cx}
theorem map_ints {ns : List Int} {y : PyData} {ys : List PyData} (e : ns.map PyData.int = y :: ys) : ∃ n r, ns = n :: r ∧ y = .int n ∧ ys = r.map PyData.int := by
  cases ns with
  | nil => cases e
  | cons n r =>
    injection e with e1 e2
    exact ⟨n, r, rfl, e1.symm, e2.symm⟩
theorem cr_minK (hc : X.calm = true) (hu : X.A.units + 64 < cLine) : CallRK X (.builtin "min") [Str.ofString "default"] (rMinK X.K) := by
  intro pins s σ H xs zs us ws Q I r1 r2 h
  obtain ⟨a, ns, d, rfl, rfl, hs, q0, q1⟩ := h
  obtain ⟨its, rv, hl, _⟩ := I.list hs
  rw [Vals.ref1 r1]
  obtain ⟨u, rfl, ru⟩ := vals1 r2
  show wpAny _ _ (call (.builtin "min") [.ref a] [(Str.ofString "default", u)]) _ _ _
  have hr := PySem.W.readsAll_of_ints (h := s.heap) rv.ints
  have hd := PySem.W.depthAll_ints ns
  refine PySem.W.min_list_default (I.ok.hd hc) hl.isList (by simpa using hr) (alike_ints ns) (by omega) (fun e h' tk hk => ⟨d, H, I.kept hk, ru, q0 (by simpa using e)⟩) fun y ys i v h' tk bs e hv hr' hk => ?_
  obtain ⟨n, r, rfl, rfl, rfl⟩ := map_ints e
  rw [PySem.W.minD_ints] at hr'
  cases hr' with
  | int k t => exact ⟨.int _, H, I.kept hk, ⟨_, rfl⟩, q1 _ _ rfl⟩
theorem cr_maxK (hc : X.calm = true) (hu : X.A.units + 64 < cLine) : CallRK X (.builtin "max") [Str.ofString "default"] (rMaxK X.K) := by
  intro pins s σ H xs zs us ws Q I r1 r2 h
  obtain ⟨a, ns, d, rfl, rfl, hs, q0, q1⟩ := h
  obtain ⟨its, rv, hl, _⟩ := I.list hs
  rw [Vals.ref1 r1]
  obtain ⟨u, rfl, ru⟩ := vals1 r2
  show wpAny _ _ (call (.builtin "max") [.ref a] [(Str.ofString "default", u)]) _ _ _
  have hr := PySem.W.readsAll_of_ints (h := s.heap) rv.ints
  have hd := PySem.W.depthAll_ints ns
  refine PySem.W.max_list_default (I.ok.hd hc) hl.isList (by simpa using hr) (alike_ints ns) (by omega) (fun e h' tk hk => ⟨d, H, I.kept hk, ru, q0 (by simpa using e)⟩) fun y ys i v h' tk bs e hv hr' hk => ?_
  obtain ⟨n, r, rfl, rfl, rfl⟩ := map_ints e
  rw [PySem.W.maxD_ints] at hr'
  cases hr' with
  | int k t => exact ⟨.int _, H, I.kept hk, ⟨_, rfl⟩, q1 _ _ rfl⟩
theorem kMinK (K : PySem.W.Frag) (hc : X.calm = true) (hu : X.A.units + 64 < cLine) (e : X.K = K := by rfl) : CallRK X (.builtin "min") [Str.ofString "default"] (rMinK K) := e ▸ cr_minK hc hu
theorem kMaxK (K : PySem.W.Frag) (hc : X.calm = true) (hu : X.A.units + 64 < cLine) (e : X.K = K := by rfl) : CallRK X (.builtin "max") [Str.ofString "default"] (rMaxK K) := e ▸ cr_maxK hc hu
theorem kpRev (K : PySem.W.Frag) {tg e : Expr} {ta : TA} {p pos : Pos} (hg : Gl X "reversed") (hm : X.mg "reversed" = none) (ha : PA X [e] ta) (eK : X.K = K := by rfl) (hs : starEach [e] X.env = [(false, eval e X.env)] := by rfl) : PI X tg (.Call (.Name "reversed" p) [e] [] pos) (iRev K ta) := eK ▸ pi_reversed hg hm ha hs
def rIns : V → List V → Hp → VK → Prop := fun x vs H Q => ∃ (l : Addr) (xs : List V) (i : Int) (y : V), x = .ref l ∧ vs = [.int i, y] ∧ H l = some (.lst xs) ∧ xs.length < sizeLine ∧ 0 ≤ i ∧ i < 2 ^ 63 ∧
    Q .non (upd H l (.lst (xs.take i.toNat ++ [y] ++ xs.drop i.toNat)))
theorem mt_ins : MtR X "list.insert" rIns := mt_insert
theorem kpZip (K : PySem.W.Frag) {e e2 : Expr} {ta : TA} {p pos tpos : Pos} {elts : List Expr} {kk : Nat} (hg : Gl X "zip") (hm : X.mg "zip" = none) (ha : PA X [e, e2] ta) (eK : X.K = K := by rfl)
    (hs : starEach [e, e2] X.env = (false, eval e X.env) :: starEach [e2] X.env := by rfl) (hpl : (backTo pos (starEach [e2] X.env)).any (·.1) = false := by rfl) :
    PI X (.Tuple elts kk tpos) (.Call (.Name "zip" p) [e, e2] [] pos) (iZipA K ta) := eK ▸ pi_zipA hg hm ha hs hpl
end
section
variable {K : PySem.W.Frag} {w : Wd} {a : Addr} {vs : List V} {Q : VK} {σ : L2.St} {H : Hp} {y : V}
theorem s_CKw {r : List V → List V → Hp → VK → Prop} {t tk : TA} (k : t σ H fun vs H1 => tk σ H1 fun zs H2 => r vs zs H2 Q) : tCKw r t tk σ H Q := k
theorem s_minK {ns : List Int} {d : V} (h : w.H a = some (.lst (ns.map V.int))) (k0 : ns = [] → Q d w.H) (k : ∀ n r, ns = n :: r → Q (.int (r.foldl min n)) w.H) : rMinK K [.ref a] [d] w.H Q := ⟨a, ns, d, rfl, rfl, SqL.of h, k0, k⟩
theorem s_maxK {ns : List Int} {d : V} (h : w.H a = some (.lst (ns.map V.int))) (k0 : ns = [] → Q d w.H) (k : ∀ n r, ns = n :: r → Q (.int (r.foldl max n)) w.H) : rMaxK K [.ref a] [d] w.H Q := ⟨a, ns, d, rfl, rfl, SqL.of h, k0, k⟩
theorem s_iRev {ta : TA} {R : It → Hp → Prop} (k : ta σ H fun vs H1 => ∃ (a : Addr) (xs : List V), vs = [.ref a] ∧ SqL K H1 a xs ∧ R (Itv K a xs.length) H1) : iRev K ta σ H R := k
theorem s_iRevK {xs : List V} {R : It → Hp → Prop} (h : w.H a = some (.lst xs)) (k : R (Itv K a xs.length) w.H) : ∃ (b : Addr) (ys : List V), [V.ref a] = [V.ref b] ∧ SqL K w.H b ys ∧ R (Itv K b ys.length) w.H := ⟨a, xs, rfl, SqL.of h, k⟩
theorem ww_rev {xs : List V} : WWalk (Itv K a xs.length) xs.length (fun w => SqL K w.H a xs) (YI xs.reverse) :=
  ⟨fun i w h q => (walk_rev (K := K)).goes i w.H h q, fun w q => (walk_rev (K := K)).stops w.H q, fun i w x H' h q y => by
    obtain ⟨e, h2⟩ := (walk_rev (K := K)).yields i w.H x H' h q y
    refine ⟨w, e.symm, rfl, ?_⟩
    rw [List.getElem?_reverse h]
    exact h2⟩
theorem s_ins0 (h : Own w a (.lst vs)) (z : vs.length < sizeLine) (k : ∀ v, Ext (One a) w v → Own v a (.lst (y :: vs)) → Q .non v.H) : rIns (.ref a) [.int 0, y] w.H Q :=
  ⟨a, vs, 0, y, rfl, rfl, h.h, z, by decide, by decide, put (R := Q .non) h k⟩
theorem s_intt (k : Q (.int 1) H) : gInt [.bl true] H Q := s_intb (show Q (.int (if true = true then 1 else 0)) H from k)
theorem s_intf (k : Q (.int 0) H) : gInt [.bl false] H Q := s_intb (show Q (.int (if false = true then 1 else 0)) H from k)
theorem s_rep1 (h : w.H a = some (.lst vs)) (h3 : vs.length ≤ sizeLine) (k : ∀ p v, Ext Non w v → w.H p = none → v.S p = some (.lst vs) → Q (.ref p) v.H) : gMul K (.ref a) (.int 1) w.H Q :=
  ⟨vs, h, by decide, by decide, by simpa using h3, newS fun p v e n s => k p v e n (by simpa using s)⟩
theorem s_rep0 (h : w.H a = some (.lst vs)) (k : ∀ p v, Ext Non w v → w.H p = none → v.S p = some (.lst []) → Q (.ref p) v.H) : gMul K (.ref a) (.int 0) w.H Q :=
  ⟨vs, h, by decide, by decide, by simp, newS fun p v e n s => k p v e n (by simpa using s)⟩
/-- xs * k -/
theorem s_repS {k0 : Int} (h : w.H a = some (.lst vs)) (h1 : -(2 ^ 63) ≤ k0) (h2 : k0 < 2 ^ 63) (h3 : vs.length * k0.toNat ≤ sizeLine) (k : ∀ p v, Ext Non w v → w.H p = none → v.S p = some (.lst (List.replicate k0.toNat vs).flatten) → Q (.ref p) v.H) : gMul K (.ref a) (.int k0) w.H Q :=
  ⟨vs, h, h1, h2, h3, newS k⟩
end
end G

namespace G
open PySem L2 PyProof.Rows
/-! own classes -/
structure Mth (P : Program) (w : World) (K : PySem.W.Frag) (mg : Str → Option Value) (base : Heap) (CX : CXT) (C : Addr) (k : Nat) (m : Str) (sp : Sp) : Prop where
  ex : ∃ (f : Addr) (fd : FuncData) (ps : List Str), FnOk P w K mg base CX k f fd ps sp ∧ Meth K C m f ∧ Binds K fd ps []
structure Mkr (P : Program) (w : World) (K : PySem.W.Frag) (mg : Str → Option Value) (base : Heap) (CX : CXT) (C : Addr) (k : Nat) (sp : Sp) : Prop where
  ex : ∃ (f : Addr) (fd : FuncData) (ps : List Str), FnOk P w K mg base CX k f fd ps sp ∧ Mk K C f ∧ Binds K fd ps []
section
variable {X : Cx} {k j : Nat} {x m : Str} {C : Addr} {sp : Sp} {p pos apos : Pos} {o e : Expr} {es : List Expr} {to : TE} {t : TA} {CX : CXT} {E : XK}
theorem pe_mth {pl : Sem Bool} (c : Mth X.prog X.w X.K X.mg X.base CX C k m sp) (cl : Cls X.K C) (hr : Room j X.A) (hk : k ≤ j) (hx : Passes CX X E) (he : PE X o to) (ha : PA X (e :: es) t)
    (hst : starEach (e :: es) X.env = (false, eval e X.env) :: starEach es X.env := by rfl) (hpl : (backTo pos (starEach es X.env)).any (·.1) = false := by rfl)
    (ht : eval (.Call (.Attribute o m apos) (e :: es) [] pos) X.env = (do
      let ov ← eval o X.env
      standAt apos.atName
      let (f, first) ← holding [ov] (getMethod ov m pl)
      callWith pos f first (backTo pos (starEach (e :: es) X.env)) (backToKw pos (keywordEach [] X.env))) := by rfl) :
    PE X (.Call (.Attribute o m apos) (e :: es) [] pos) (tMeth C m sp [] E to t) := by
  obtain ⟨f, fd, ps, F, hm, hb⟩ := c.ex
  exact pe_meth (pl := pl) he cl hm F (hr.mono hk) hb .nil hx ha hst hpl ht
theorem pe_mth0 {pl : Sem Bool} (c : Mth X.prog X.w X.K X.mg X.base CX C k m sp) (cl : Cls X.K C) (hr : Room j X.A) (hk : k ≤ j) (hx : Passes CX X E) (he : PE X o to)
    (ht : eval (.Call (.Attribute o m apos) [] [] pos) X.env = (do
      let ov ← eval o X.env
      standAt apos.atName
      let (f, first) ← holding [ov] (getMethod ov m pl)
      callWith pos f first (backTo pos (starEach [] X.env)) (backToKw pos (keywordEach [] X.env))) := by rfl) :
    PE X (.Call (.Attribute o m apos) [] [] pos) (tMeth C m sp [] E to tNil) := by
  obtain ⟨f, fd, ps, F, hm, hb⟩ := c.ex
  exact pe_meth0 (pl := pl) he cl hm F (hr.mono hk) hb .nil hx ht
theorem pe_mk (c : Mkr X.prog X.w X.K X.mg X.base CX C k sp) (hr : Room j X.A) (hk : k + 1 ≤ j) (hm : X.mg x = some (.ref C)) (hx : Passes CX X E) (ha : PA X (e :: es) t) (hg : Gl X x := by rfl)
    (hdb : (x == ("__debug__" : Str)) = false := by decide) (he : starEach (e :: es) X.env = (false, eval e X.env) :: starEach es X.env := by rfl) (hpl : (backTo pos (starEach es X.env)).any (·.1) = false := by rfl) :
    PE X (.Call (.Name x p) (e :: es) [] pos) (tMake C sp [] E t) := by
  obtain ⟨f, fd, ps, F, M, hb⟩ := c.ex
  exact pe_make M F (hr.mono hk) hg hm hb .nil hx ha hdb he hpl
end
section
variable {K : PySem.W.Frag} {w : Wd} {a C dx : Addr} {fs gs : List (Str × V)} {f m : Str} {y v : V} {vs : List V} {Q : VK} {E : XK} {σ : L2.St} {H : Hp} {to te : TE} {t : TA} {D : Ends} {sp : Sp}
def rFld (K : PySem.W.Frag) (f : Str) (x : V) (H1 : Hp) (Q : VK) : Prop := ∃ a C dx fs v, x = .ref a ∧ H1 a = some (.ins C dx fs) ∧ Cls K C ∧ NoAttr K C f ∧ fs.lookup f = some v ∧ Q v H1
theorem s_fld (k : te σ H fun x H1 => rFld K f x H1 Q) : tFld K te f σ H Q := k
theorem s_rfld (h : w.H a = some (.ins C dx fs)) (c : Cls K C) (n : NoAttr K C f) (l : fs.lookup f = some v) (k : Q v w.H) : rFld K f (.ref a) w.H Q := ⟨a, C, dx, fs, v, rfl, h, c, n, l, k⟩
def rSfl (K : PySem.W.Frag) (f : Str) (y : V) (D : Ends) (σ : L2.St) (x : V) (H2 : Hp) : Prop := ∃ a C dx fs, x = .ref a ∧ H2 a = some (.ins C dx fs) ∧ Cls K C ∧ NoAttr K C f ∧ fs.length < 1000 ∧ D.nx σ (upd H2 a (.ins C dx (putF f y fs)))
theorem s_sfld (k : te σ H fun y H1 => to σ H1 fun x H2 => rSfl K f y D σ x H2) : sFld K to te f D σ H := k
theorem s_rsfl (h : Own w a (.ins C dx fs)) (c : Cls K C) (n : NoAttr K C f) (z : fs.length < 1000) (e : putF f y fs = gs) (k : ∀ v, Ext (One a) w v → Own v a (.ins C dx gs) → D.nx σ v.H) : rSfl K f y D σ (.ref a) w.H := by
  subst e
  exact ⟨a, C, dx, fs, rfl, h.h, c, n, z, put (R := D.nx σ) h k⟩
def rMeth (C : Addr) (m : Str) (t : TA) (sp : Sp) (E : XK) (Q : VK) (σ : L2.St) (x : V) (H1 : Hp) : Prop := ∃ a dx fs, x = .ref a ∧ H1 a = some (.ins C dx fs) ∧ fs.lookup m = none ∧ t σ H1 fun vs H2 => sp (x :: (vs ++ [])) H2 Q E
theorem s_meth (k : to σ H fun x H1 => rMeth C m t sp E Q σ x H1) : tMeth C m sp [] E to t σ H Q := k
theorem s_rmeth (h : w.H a = some (.ins C dx fs)) (l : fs.lookup m = none) (k : t σ w.H fun vs H2 => sp (.ref a :: (vs ++ [])) H2 Q E) : rMeth C m t sp E Q σ (.ref a) w.H := ⟨a, dx, fs, rfl, h, l, k⟩
def rMake (C : Addr) (sp : Sp) (E : XK) (Q : VK) (vs : List V) (H1 : Hp) : Prop := ∀ x dx, H1 x = none → H1 dx = none → dx ≠ x → sp (.ref x :: (vs ++ [])) (upd (upd H1 dx (.own x)) x (.ins C dx [])) (fun v H2 => v = .non ∧ Q (.ref x) H2) E
theorem s_make (k : t σ H fun vs H1 => rMake C sp E Q vs H1) : tMake C sp [] E t σ H Q := k
theorem s_rmake (k : ∀ x dx v, Ext Non w v → w.H x = none → Own v x (.ins C dx []) → sp (.ref x :: (vs ++ [])) v.H (fun r H2 => r = .non ∧ Q (.ref x) H2) E) : rMake C sp E Q vs w.H := fun x dx hx hdx hne => by
  refine newO (w := w) (o := .own x) (Q := fun r H1 => ∀ y, r = .ref y → H1 x = none → sp (.ref x :: (vs ++ [])) (upd H1 x (.ins C y [])) (fun v H2 => v = .non ∧ Q (.ref x) H2) E) (fun p v e n o y hy hxv => ?_) dx hdx dx rfl (by rw [upd_ne (Ne.symm hne)]; exact hx)
  cases hy
  refine newO (w := v) (o := .ins C p []) (Q := fun r H1 => r = .ref x → sp (.ref x :: (vs ++ [])) H1 (fun v H2 => v = .non ∧ Q (.ref x) H2) E) (fun q u e2 n2 o2 hq => ?_) x hxv rfl
  cases hq
  exact k x p u (e.step e2 fun _ z => z.elim) hx o2
theorem s_pm1 {P : Wd → V → VK → XK → Prop} (h : P w y Q E) : pr1 P (y :: ([] ++ [])) w.H Q E := ⟨w, y, rfl, rfl, h⟩
theorem s_pm2 {b : V} {P : Wd → V → V → VK → XK → Prop} (h : P w y b Q E) : pr2 P (y :: ([b] ++ [])) w.H Q E := ⟨w, y, b, rfl, rfl, h⟩
theorem s_pm3 {b c : V} {P : Wd → V → V → V → VK → XK → Prop} (h : P w y b c Q E) : pr3 P (y :: ([b, c] ++ [])) w.H Q E := ⟨w, y, b, c, rfl, rfl, h⟩
theorem lk_hd {r : List (Str × V)} : List.lookup f ((f, v) :: r) = some v := by simp [List.lookup]
theorem lk_tl {g : Str} {r : List (Str × V)} {o : Option V} (h : (f == g) = false) (t : r.lookup f = o) : List.lookup f ((g, v) :: r) = o := by
  rw [List.lookup_cons, h]
  exact t
theorem lk_nil : List.lookup f ([] : List (Str × V)) = none := rfl
theorem pf_nil : putF f y [] = [(f, y)] := rfl
theorem pf_hd {r : List (Str × V)} : putF f y ((f, v) :: r) = (f, y) :: r := by
  show (if f = f then _ else _) = _
  rw [if_pos rfl]
theorem pf_tl {g : Str} {r r' : List (Str × V)} (h : ¬ g = f) (t : putF f y r = r') : putF f y ((g, v) :: r) = (g, v) :: r' := by
  show (if g = f then _ else _) = _
  rw [if_neg h, t]
theorem kit_any2 {t u1 u2 : Value} {b1 b2 : Bool} (h1 : PySem.W.kitOne K t u1 = some b1) (h2 : PySem.W.kitOne K t u2 = some b2) : PySem.W.kitAny K t [u1, u2] = some (b1 || b2) := by
  unfold PySem.W.kitAny
  rw [h1]
  cases b1
  · show PySem.W.kitAny K t [u2] = _
    unfold PySem.W.kitAny
    rw [h2]
    cases b2 <;> rfl
  · rfl
theorem s_isiT2 {d : PyData} {tp : Addr} {T1 T2 : String} {b1 b2 : Bool} (s : w.S tp = some (.tup [.ty T1, .ty T2])) (h : Rp w.S y d) (e1 : isT T1 d = some b1) (e2 : isT T2 d = some b2) (k : Q (.bl (b1 || b2)) w.H) : rIsiT K [y, .ref tp] w.H Q :=
  ⟨y, tp, _, _, [.type T1, .type T2], _, rfl, w.ok _ _ s, .cons (.ty _) (.cons (.ty _) .nil), h.ty, kit_any2 (kit_ty e1) (kit_ty e2), k⟩
theorem s_setA {j : Nat} {R : Hp → Prop} (h : Own w a (.lst vs)) (e : j < vs.length) (k : ∀ u, Ext (One a) w u → Own u a (.lst (vs.set j y)) → R u.H) : rSetL (.ref a) (.int (j : Int)) y w.H R :=
  s_setL h (m := j) (by
    unfold ixN
    simp
    omega) k
end
section
variable {K : PySem.W.Frag} {a b : Addr} {xs ys : List V}
def YZ (xs ys : List V) : Nat → Wd → V → Wd → Prop := fun i w x v => ∃ T x1 y1, x = .ref T ∧ Ext Non w v ∧ w.H T = none ∧ v.S T = some (.tup [x1, y1]) ∧ xs[i]? = some x1 ∧ ys[i]? = some y1
theorem yz_of {w : Wd} {T : Addr} {x1 y1 : V} {i : Nat} (hT : w.H T = none) (h1 : xs[i]? = some x1) (h2 : ys[i]? = some y1) : ∃ v : Wd, v.H = upd w.H T (.tup [x1, y1]) ∧ YZ xs ys i w (.ref T) v := by
  refine newS (w := w) (o := .tup [x1, y1]) (Q := fun r H' => r = .ref T → ∃ v : Wd, v.H = H' ∧ YZ xs ys i w (.ref T) v) (fun p v e n s hq => ?_) T hT rfl
  cases hq
  exact ⟨v, rfl, T, x1, y1, rfl, e, n, s, h1, h2⟩
theorem s_iZip {ta : TA} {σ : L2.St} {H : Hp} {R : It → Hp → Prop} (k : ta σ H fun vs H1 => ∃ a b xs ys, vs = [.ref a, .ref b] ∧ ((SqL K H1 a xs ∧ SqL K H1 b ys ∧ R (Itz K a b) H1) ∨ (SqT K H1 a xs ∧ SqT K H1 b ys ∧ R (RZ.ItzT K a b) H1))) : RZ.iZipA K ta σ H R := k
theorem ww_zipL (hn : xs.length = ys.length) : WWalk (Itz K a b) xs.length (fun w => SqL K w.H a xs ∧ SqL K w.H b ys) (YZ xs ys) :=
  ⟨fun i w h q => ⟨xs, ys, xs[i], ys[i], q.1, q.2, List.getElem?_eq_getElem h, List.getElem?_eq_getElem (by omega)⟩, fun w q => ⟨xs, ys, q.1, q.2, .inl (Nat.le_refl _)⟩, fun i w x H' h q y => by
    obtain ⟨T, x1, y1, rfl, hT, rfl, h1, h2⟩ := y
    exact yz_of hT (h1 xs q.1) (h2 ys q.2)⟩
theorem ww_zipT (hn : xs.length = ys.length) : WWalk (RZ.ItzT K a b) xs.length (fun w => SqT K w.H a xs ∧ SqT K w.H b ys) (YZ xs ys) :=
  ⟨fun i w h q => ⟨xs, ys, xs[i], ys[i], q.1, q.2, List.getElem?_eq_getElem h, List.getElem?_eq_getElem (by omega)⟩, fun w q => ⟨xs, ys, q.1, q.2, .inl (Nat.le_refl _)⟩, fun i w x H' h q y => by
    obtain ⟨T, x1, y1, rfl, hT, rfl, h1, h2⟩ := y
    exact yz_of hT (h1 xs q.1) (h2 ys q.2)⟩
end
end G
namespace G
open PySem L2
theorem fn_false {P : Program} {w : World} {K : PySem.W.Frag} {mg : Str → Option Value} {base : Heap} {CX : CXT} {k : Nat} {f : Addr} {fd : FuncData} {ps : List Str} {sp : Sp} (h : ∀ vs H Q E, ¬ sp vs H Q E) : FnOk P w K mg base CX k f fd ps sp :=
  ⟨fun vs H Q E z => absurd z (h vs H Q E), fun _ _ _ _ _ _ _ _ _ _ _ _ _ z => absurd z (h _ _ _ _)⟩
theorem pr1_false {P : Wd → V → VK → XK → Prop} (h : ∀ w a Q E, ¬ P w a Q E) : ∀ vs H Q E, ¬ pr1 P vs H Q E := fun _ _ _ _ ⟨_, _, _, _, z⟩ => h _ _ _ _ z
theorem pr2_false {P : Wd → V → V → VK → XK → Prop} (h : ∀ w a b Q E, ¬ P w a b Q E) : ∀ vs H Q E, ¬ pr2 P vs H Q E := fun _ _ _ _ ⟨_, _, _, _, _, z⟩ => h _ _ _ _ _ z
end G
namespace G
open PySem L2
section
variable {w : Wd}
/-- a comprehension over two at once, each item a truth -/
theorem lc_zip {J : It} {n : Nat} {G : Wd → Prop} {xs ys : List V} (k : WWalk J n G (YZ xs ys)) {g : TG} {te : TE} {js : List Nat} {σ : L2.St} {D : Addr} {Qd : Hp → Prop} (hD : w.H D = none) (hz : n < sizeLine) (hG : ∀ u, Ext (One D) w u → G u)
    (hs : ∀ i x1 y1 T u v, i < n → xs[i]? = some x1 → ys[i]? = some y1 → Ext (One D) w u → Ext Non u v → v.S T = some (.tup [x1, y1]) → ∀ (R : VK) (Z : Hp → Prop), (∀ z, Ext Non v z → R (.bl true) z.H) →
      g (.ref T) (wipe σ js) v.H fun σ2 H2 => wipe σ2 js = wipe σ js ∧ tYes σ2 H2 fun b H3 => if b = true then te σ2 H3 R else Z H3)
    (hd : ∀ u, Ext Non w u → w.H D = none → Own u D (.lst ((List.replicate n true).map V.bl)) → Qd u.H) :
    ∃ W : Nat → Nat → Hp → Prop, (∃ m, W 0 m (upd w.H D (.lst []))) ∧ ∀ i m H, W i m H →
      (J.stop i H ∧ Qd H) ∨ (J.go i H ∧ ∃ Nx : Hp → Prop, (∀ H', Nx H' → ∃ m', m' < m ∧ W (i + 1) m' H') ∧ ∀ x H', J.yld i H x H' → g x (wipe σ js) H' fun σ2 H2 => wipe σ2 js = wipe σ js ∧ tYes σ2 H2 fun b H3 =>
        if b = true then te σ2 H3 fun y H4 => ∃ acc, H4 D = some (.lst acc) ∧ acc.length < sizeLine ∧ Nx (upd H4 D (.lst (acc ++ [y]))) else Nx H3) := by
  refine lcW k (fun i u acc => Ext (One D) w u ∧ acc = (List.replicate i true).map V.bl) hD (fun u e o => ⟨e.more fun _ z => z.elim, rfl⟩) (fun i u acc _ p => hG u p.1) ?_ ?_
  · rintro i x u v acc hi o ⟨e, rfl⟩ ⟨T, x1, y1, rfl, ev, nv, sv, h1, h2⟩
    refine hs i x1 y1 T u v hi h1 h2 e ev sv _ _ fun z ez => ?_
    refine lc_put ((o.ext ev fun z => z).ext ez fun z => z) (by simp; omega) fun t et ot => ⟨((e.step ev fun _ z => z.elim).step ez fun _ z => z.elim).step et fun l hl => .inr hl, ?_⟩
    rw [List.replicate_succ', List.map_append]
    rfl
  · rintro u acc ⟨e, rfl⟩ o
    exact hd u (e.more fun l hl => .inl (by rw [show l = D from hl]; exact hD)) hD o
end
end G
namespace G
open PySem L2
section
variable {w : Wd}
/-- a comprehension over a range, each item told by something with P -/
theorem lc_rng {α : Type} {P : α → Prop} {gd : α → PyData} {n : Nat} {lo : Int} {g : TG} {te : TE} {js : List Nat} {σ : L2.St} {D : Addr} {Qd : Hp → Prop} (hD : w.H D = none) (hz : n < sizeLine)
    (hs : ∀ i u, i < n → Ext (One D) w u → ∀ (R : VK) (Z : Hp → Prop), (∀ v y d, Ext Non u v → P d → Rp v.S y (gd d) → R y v.H) →
      g (.int (lo + i)) (wipe σ js) u.H fun σ2 H2 => wipe σ2 js = wipe σ js ∧ tYes σ2 H2 fun b H3 => if b = true then te σ2 H3 R else Z H3)
    (hd : ∀ u acc (ds : List α), Ext Non w u → w.H D = none → Own u D (.lst acc) → RpA u.S acc (ds.map gd) → ds.length = n → (∀ d ∈ ds, P d) → Qd u.H) :
    ∃ W : Nat → Nat → Hp → Prop, (∃ m, W 0 m (upd w.H D (.lst []))) ∧ ∀ i m H, W i m H →
      ((Itr lo n).stop i H ∧ Qd H) ∨ ((Itr lo n).go i H ∧ ∃ Nx : Hp → Prop, (∀ H', Nx H' → ∃ m', m' < m ∧ W (i + 1) m' H') ∧ ∀ x H', (Itr lo n).yld i H x H' → g x (wipe σ js) H' fun σ2 H2 => wipe σ2 js = wipe σ js ∧ tYes σ2 H2 fun b H3 =>
        if b = true then te σ2 H3 fun y H4 => ∃ acc, H4 D = some (.lst acc) ∧ acc.length < sizeLine ∧ Nx (upd H4 D (.lst (acc ++ [y]))) else Nx H3) := by
  refine lcW (ww_range (lo := lo) (m := n)) (fun i u acc => Ext (One D) w u ∧ ∃ ds : List α, RpA u.S acc (ds.map gd) ∧ ds.length = i ∧ ∀ d ∈ ds, P d) hD (fun u e o => ⟨e.more fun _ z => z.elim, [], .nil, rfl, fun d h => by cases h⟩) (fun _ _ _ _ _ => trivial) ?_ ?_
  · rintro i x u0 u acc hi o ⟨e, ds, hr, hl, hp⟩ ⟨rfl, rfl⟩
    have hal : acc.length < sizeLine := by
      have h1 := hr.length
      rw [List.length_map] at h1
      omega
    refine hs i u hi e _ _ fun v y d ev hd hy => ?_
    refine lc_put (o.ext ev fun z => z) hal fun t et ot => ⟨(e.step ev fun _ z => z.elim).step et fun l hl => .inr hl, ds ++ [d], ?_, by simp [hl], fun d' hd' => ?_⟩
    · rw [List.map_append]
      exact RpA.append ((hr.go ev).go et) (.one (hy.go et))
    · rcases List.mem_append.mp hd' with h | h
      · exact hp d' h
      · rw [List.mem_singleton.mp h]; exact hd
  · rintro u acc ⟨e, ds, hr, hl, hp⟩ o
    exact hd u acc ds (e.more fun l hl => .inl (by rw [show l = D from hl]; exact hD)) hD o hr hl hp
end
def optD : Option Int → PyData
  | none => .none
  | some n => .int n
end G
namespace G
open PySem L2
/-- lent for a while: what one owns is read as if it stood for good -/
theorem lend {w : Wd} {r : Addr} {o : HO} (h : Own w r o) : ∃ w' : Wd, w'.H = w.H ∧ w'.S r = some o ∧ Same w.S w'.S ∧ ∀ v, Ext Non w' v → ∃ u : Wd, u.H = v.H ∧ Ext Non w u := by
  have sm : Same w.S (upd w.S r o) := fun b q x => by
    rw [upd_ne (fun e => by rw [e, h.s] at x; cases x)]
    exact x
  refine ⟨⟨upd w.S r o, w.H, fun b q x => ?_⟩, rfl, upd_same, sm, fun v e => ?_⟩
  · by_cases c : b = r
    · rw [c, upd_same] at x
      rw [c]
      exact (Option.some.inj x) ▸ h.h
    · rw [upd_ne c] at x
      exact w.ok b q x
  · refine ⟨⟨fun b => if b = r then none else v.S b, v.H, fun b q x => ?_⟩, rfl, ⟨fun b q x => ?_, fun b q _ x => e.hp b q (fun z => z) x, fun b _ x z => ?_, fun b x => e.al b x⟩⟩
    · by_cases c : b = r
      · simp [c] at x
      · simp [c] at x
        exact v.ok b q x
    · have c : b ≠ r := fun c => by rw [c, h.s] at x; cases x
      show (if b = r then none else v.S b) = some q
      rw [if_neg c]
      exact e.st b q (sm b q x)
    · show (if b = r then none else v.S b) = none
      by_cases c : b = r
      · rw [if_pos c]
      · rw [if_neg c]
        exact e.nw b (fun z => z) (by show upd w.S r o b = none; rw [upd_ne c]; exact x) z
end G
namespace G
open PySem L2
/-- an if without an else, told by what holds behind it -/
theorem s_ifJ {c : TT} {t : TS} {D : Ends} {σ : L2.St} {w : Wd} (R : L2.St → Wd → Prop) (h : ∀ Z : L2.St → Hp → Prop, (∀ σ u, R σ u → Z σ u.H) → tIfS c t tNext { D with nx := Z } σ w.H) (hd : ∀ σ u, R σ u → D.nx σ u.H) : tIfS c t tNext D σ w.H := h D.nx hd
end G

namespace G
open PySem L2
theorem pe_gco {X : Cx} {x : Str} {v : V} {pos : Pos} (hg : Gl X x) (c : ∃ u, X.mg x = some u ∧ RelV v u) (hd : (x == ("__debug__" : Str)) = false := by decide) : PE X (.Name x pos) (tC v) := by
  obtain ⟨u, hm, r⟩ := c
  exact pe_glob hg hm r hd
/-! texts -/
/-- at most n signs, all of the first 128 -/
def Tx (n : Nat) (z : Str) : Prop := z.length ≤ n ∧ ∀ c ∈ z.cps.toList, c < 128
section
variable {a b z : Str} {n m : Nat}
theorem Tx.mono (h : Tx n z) (k : n ≤ m) : Tx m z := ⟨Nat.le_trans h.1 k, h.2⟩
theorem Tx.app (h1 : Tx n a) (h2 : Tx m b) : Tx (n + m) (a ++ b) := by
  have e : (a ++ b).cps.toList = a.cps.toList ++ b.cps.toList := Array.toList_append
  refine ⟨?_, fun c hc => ?_⟩
  · have h3 : (a ++ b).length = a.length + b.length := by
      show (a ++ b).cps.size = a.cps.size + b.cps.size
      rw [← Array.length_toList, e, List.length_append, Array.length_toList, Array.length_toList]
    have := h1.1
    have := h2.1
    omega
  · rw [e] at hc
    rcases List.mem_append.mp hc with h | h
    · exact h1.2 c h
    · exact h2.2 c h
theorem Tx.cut (h : Tx n z) (lo hi : Option Int) : Tx n (cutS z lo hi) := by
  refine ⟨?_, fun c hc => h.2 c (List.mem_of_mem_drop (List.mem_of_mem_take (by simpa [cutS] using hc)))⟩
  show (cutS z lo hi).cps.size ≤ n
  have h1 : (cutS z lo hi).cps.size ≤ z.cps.toList.length := by
    simp only [cutS, List.size_toArray, List.length_take, List.length_drop]
    omega
  rw [Array.length_toList] at h1
  exact Nat.le_trans h1 h.1
theorem Tx.one {c : Nat} (h : c < 128) : Tx 1 ⟨#[c]⟩ := ⟨Nat.le_refl _, fun d hd => by
  have : d = c := by simpa using hd
  rw [this]; exact h⟩
theorem Tx.ok (h : Tx n z) : PyData.strOk z = true := by
  unfold PyData.strOk
  rw [Array.all_eq_true_iff_forall_mem]
  intro c hc
  have := h.2 c (by simpa using hc)
  exact decide_eq_true (by omega)
end
section
variable {K : PySem.W.Frag} {H : Hp} {Q : VK} {a b z : Str}
theorem s_lenZ (h : z.length ≤ sizeLine) (k : Q (.int z.length) H) : gLen K [.str z] H Q := ⟨h, k⟩
theorem s_addZ (h : a.length + b.length ≤ sizeLine) (k : Q (.str (a ++ b)) H) : gAdd K (.str a) (.str b) H Q := ⟨h, k⟩
theorem s_slZ {lo hi : Option Int} (h : z.length ≤ sizeLine) (k : Q (.str (cutS z lo hi)) H) : gSl K (.str z) lo hi H Q := ⟨h, k⟩
theorem s_ixZ {j : Int} (hz : z.length ≤ sizeLine) (h0 : 0 ≤ j) (h1 : j < z.length) (k : ∀ c, c ∈ z.cps.toList → Q (.str ⟨#[c]⟩) H) : gIx K (.str z) (.int j) H Q := by
  have hl : j.toNat < z.cps.toList.length := by
    rw [Array.length_toList]
    show j.toNat < z.length
    omega
  refine ⟨z.cps.toList[j.toNat], hz, ?_, k _ (List.getElem_mem hl)⟩
  rw [atI_nn h0 (by omega), List.getElem?_eq_getElem hl]
theorem s_inZ {c : Nat} (k : Q (.bl (decide (c ∈ z.cps.toList))) H) : gIn K (.str ⟨#[c]⟩) (.str z) H Q := ⟨c, rfl, k⟩
theorem s_leZ (k : Q (.bl (!decide (b.cps.toList < a.cps.toList))) H) : gLe (.str a) (.str b) H Q := k
def zV (z : Str) : List V := z.cps.toList.map fun c => .str ⟨#[c]⟩
theorem zV_len : (zV z).length = z.cps.size := by unfold zV; rw [List.length_map, Array.length_toList]
theorem ww_strI : WWalk (Its z) z.cps.size (fun _ => True) (YI (zV z)) :=
  ⟨fun i w h q => ww_str.goes i w h q, fun w q => ww_str.stops w q, fun i w x H' h q y => by
    obtain ⟨v, e, e1, c, e2, rfl⟩ := ww_str.yields i w x H' h q y
    refine ⟨v, e, e1, ?_⟩
    unfold zV
    rw [List.getElem?_map, Array.getElem?_toList, e2]
    rfl⟩
end
end G
namespace G
open PySem L2
theorem Tx.sz {n : Nat} {z : Str} (h : Tx n z) (k : n ≤ 16777216) : z.length ≤ sizeLine := by
  rw [sizeLine_eq]
  exact Nat.le_trans h.1 k
theorem Tx.sum {n m : Nat} {a b : Str} (h1 : Tx n a) (h2 : Tx m b) (k : n + m ≤ 16777216) : a.length + b.length ≤ sizeLine := by
  rw [sizeLine_eq]
  have := h1.1
  have := h2.1
  omega
theorem can_strs : ∀ zs : List Str, (∀ z ∈ zs, PyData.strOk z = true) → PyData.canLayAll0 (zs.map PyData.str) = true
  | [], _ => by simp [PyData.canLayAll0]
  | z :: r, h => by
    simp [PyData.canLayAll0, PyData.canLay0, can_strs r fun x hx => h x (List.mem_cons_of_mem _ hx), h z List.mem_cons_self]
theorem dep_strs : ∀ zs : List Str, PyData.depthAll (zs.map PyData.str) ≤ 1
  | [] => by simp [PyData.depthAll]
  | z :: r => by
    have := dep_strs r
    simp only [List.map_cons, PyData.depthAll, PyData.depth]
    omega
theorem shaped_strs {zs : List Str} (h : ∀ z ∈ zs, PyData.strOk z = true) : SeqAt.shaped (.list (zs.map PyData.str)) = true := by
  have h1 := dep_strs zs
  have h2 : PyData.depth (.list (zs.map PyData.str)) ≤ 64 := by simp only [PyData.depth]; omega
  show (PyData.canLay0 (.list (zs.map PyData.str)) && decide (PyData.depth (.list (zs.map PyData.str)) ≤ 64)) = true
  rw [Bool.and_eq_true]
  exact ⟨by simp only [PyData.canLay0]; exact can_strs zs h, decide_eq_true h2⟩
end G
namespace G
open PySem L2
theorem tx_nil : Tx 0 (Str.ofString "") := ⟨by decide, fun c hc => by revert hc; decide +revert⟩
theorem tx_join : ∀ {zs : List Str}, (∀ z ∈ zs, Tx 1 z) → Tx zs.length (Str.join (Str.ofString "") zs)
  | [], _ => tx_nil
  | [x], h => h x List.mem_cons_self
  | x :: z :: r, h => by
    have h1 := (Tx.app (h x List.mem_cons_self) tx_nil).app (tx_join (zs := z :: r) fun y hy => h y (List.mem_cons_of_mem _ hy))
    refine Tx.mono (m := (x :: z :: r).length) h1 ?_
    simp
    omega
section
variable {w : Wd}
/-- a comprehension over a range whose items touch m, I holding all along -/
theorem lc_rngI {α : Type} {P : α → Prop} {gd : α → PyData} (m : Addr → Prop) (I : Wd → Prop) {n : Nat} {lo : Int} {g : TG} {te : TE} {js : List Nat} {σ : L2.St} {D : Addr} {Qd : Hp → Prop} (hD : w.H D = none) (hmD : ¬ m D) (hz : n < sizeLine) (hI0 : ∀ u, Ext Non w u → I u) (hI : ∀ u v, I u → Ext (One D) u v → I v)
    (hs : ∀ i u, i < n → Ext (fun l => m l ∨ l = D) w u → I u → ∀ (R : VK) (Z : Hp → Prop), (∀ v y d, Ext m u v → I v → P d → Rp v.S y (gd d) → R y v.H) →
      g (.int (lo + i)) (wipe σ js) u.H fun σ2 H2 => wipe σ2 js = wipe σ js ∧ tYes σ2 H2 fun b H3 => if b = true then te σ2 H3 R else Z H3)
    (hd : ∀ u acc (ds : List α), Ext m w u → I u → w.H D = none → Own u D (.lst acc) → RpA u.S acc (ds.map gd) → ds.length = n → (∀ d ∈ ds, P d) → Qd u.H) :
    ∃ W : Nat → Nat → Hp → Prop, (∃ m, W 0 m (upd w.H D (.lst []))) ∧ ∀ i m H, W i m H →
      ((Itr lo n).stop i H ∧ Qd H) ∨ ((Itr lo n).go i H ∧ ∃ Nx : Hp → Prop, (∀ H', Nx H' → ∃ m', m' < m ∧ W (i + 1) m' H') ∧ ∀ x H', (Itr lo n).yld i H x H' → g x (wipe σ js) H' fun σ2 H2 => wipe σ2 js = wipe σ js ∧ tYes σ2 H2 fun b H3 =>
        if b = true then te σ2 H3 fun y H4 => ∃ acc, H4 D = some (.lst acc) ∧ acc.length < sizeLine ∧ Nx (upd H4 D (.lst (acc ++ [y]))) else Nx H3) := by
  refine lcW (ww_range (lo := lo) (m := n)) (fun i u acc => Ext (fun l => m l ∨ l = D) w u ∧ I u ∧ ∃ ds : List α, RpA u.S acc (ds.map gd) ∧ ds.length = i ∧ ∀ d ∈ ds, P d) hD (fun u e o => ⟨e.more fun _ z => z.elim, hI0 u e, [], .nil, rfl, fun d h => by cases h⟩) (fun _ _ _ _ _ => trivial) ?_ ?_
  · rintro i x u0 u acc hi o ⟨e, iu, ds, hr, hl, hp⟩ ⟨rfl, rfl⟩
    have hal : acc.length < sizeLine := by
      have h1 := hr.length
      rw [List.length_map] at h1
      omega
    refine hs i u hi e iu _ _ fun v y d ev iv hd hy => ?_
    refine lc_put (o.ext ev hmD) hal fun t et ot => ⟨(e.step ev fun l hl => .inr (.inl hl)).step et fun l hl => .inr (.inr hl), hI v t iv et, ds ++ [d], ?_, by simp [hl], fun d' hd' => ?_⟩
    · rw [List.map_append]
      exact RpA.append ((hr.go ev).go et) (.one (hy.go et))
    · rcases List.mem_append.mp hd' with h | h
      · exact hp d' h
      · rw [List.mem_singleton.mp h]; exact hd
  · rintro u acc ⟨e, iu, ds, hr, hl, hp⟩ o
    exact hd u acc ds (e.more fun l hl => hl.elim .inr fun h => .inl (by rw [h]; exact hD)) iu hD o hr hl hp
end
end G
namespace G
open PySem L2
theorem tx_sum : ∀ {zs : List Str}, (∀ z ∈ zs, Tx 1 z) → (zs.map (·.length)).sum ≤ zs.length
  | [], _ => by simp
  | z :: r, h => by
    have h1 := tx_sum (zs := r) fun y hy => h y (List.mem_cons_of_mem _ hy)
    have h2 := (h z List.mem_cons_self).1
    simp only [List.map_cons, List.sum_cons, List.length_cons]
    omega
end G
namespace G
open PySem L2
theorem tx_pos {z : Str} (h : ¬ z = Str.ofString "") : 0 < z.length := by
  rcases Nat.eq_zero_or_pos z.length with e | e
  · refine absurd ?_ h
    obtain ⟨a⟩ := z
    have e2 : a = #[] := Array.eq_empty_of_size_eq_zero e
    rw [e2]
    rfl
  · exact e
end G
namespace G
open PySem L2
theorem tx_int {a : Int} (h : a.natAbs < 10 ^ 40) : Tx 41 (Str.ofString (toString a)) := by
  refine ⟨?_, fun c hc => ?_⟩
  · have e := int_text_length_le10 (k := 40) (by decide) h
    rw [ofString_length]
    exact e
  · by_cases k : c = 45 ∨ (48 ≤ c ∧ c ≤ 57)
    · omega
    · exact absurd hc (PyProof.Rows.int_text_free' c (by omega) a)
theorem tx_a : Tx 1 (Str.ofString "a") := Tx.one (c := 97) (by decide)
end G

namespace G
open PySem L2
/-- a def's name as a value; a call of a local name that holds a def -/
abbrev Hd (P : Program) (w : World) (K : PySem.W.Frag) (mg : Str → Option Value) (base : Heap) (k : Nat) : Addr → Sp → Prop := fun f sp => Held P w K mg base k f sp
def tFnV (A : Addr → Sp → Prop) (sp : Sp) : TE := fun _ H Q => ∀ f, A f sp → Q (.ref f) H
def tCallH (A : Addr → Sp → Prop) (i : Nat) (t : TA) : TE := fun σ H Q => ∃ f sp, σ[i]? = some (some (.ref f)) ∧ A f sp ∧ t σ H fun vs H1 => sp vs H1 Q (fun _ _ _ => False)
section
variable {X : Cx} {k k0 i : Nat} {x : Str} {sp : Sp} {p pos : Pos} {e : Expr} {es : List Expr} {t : TA}
theorem pe_fnv (c : Fnc X.prog X.w X.K X.mg X.base CX0 k0 x sp) (hk : k0 ≤ k) (hg : Gl X x := by rfl) (hd : (x == ("__debug__" : Str)) = false := by decide) : PE X (.Name x pos) (tFnV (Hd X.prog X.w X.K X.mg X.base k) sp) := by
  obtain ⟨f, fd, ps, F, hm, hkp, hb⟩ := c.ex
  exact ⟨fun pins s σ H Q I h => (pe_glob (v := .ref f) hg hm rfl hd).run pins s σ H Q I (h f ⟨fd, ps, F.mono hk, hkp, hb⟩)⟩
theorem pe_callHd (hr : Room k X.A) (hN : X.N[i]? = some x) (hv : Vis X.env.scope x) (ha : PA X (e :: es) t)
    (hdb : (x == ("__debug__" : Str)) = false := by decide) (hcd : (x == ("__classdict__" : Str)) = false := by decide)
    (he : starEach (e :: es) X.env = (false, eval e X.env) :: starEach es X.env := by rfl) (hpl : (backTo pos (starEach es X.env)).any (·.1) = false := by rfl) :
    PE X (.Call (.Name x p) (e :: es) [] pos) (tCallH (Hd X.prog X.w X.K X.mg X.base k) i t) := by
  refine ⟨fun pins s σ H Q I h => ?_⟩
  obtain ⟨f, sp, hs, hH, ht⟩ := h
  refine (pe_callA (S := fun a => if a = f then some sp else none) (fun g sq hg => ?_) hr hN hv ha hdb hcd he hpl).run pins s σ H Q I ⟨f, sp, hs, if_pos rfl, ht⟩
  by_cases c : g = f
  · have hg : (if g = f then some sp else none) = some sq := hg
    rw [if_pos c] at hg
    cases hg
    rw [c]
    exact hH
  · have hg : (if g = f then some sp else none) = some sq := hg
    rw [if_neg c] at hg
    cases hg
end
section
variable {A : Addr → Sp → Prop} {σ : L2.St} {H : Hp} {Q : VK} {sp : Sp} {t : TA} {i : Nat} {f : Addr}
theorem s_fnv (k : ∀ f, A f sp → Q (.ref f) H) : tFnV A sp σ H Q := k
theorem s_callH (e : σ[i]? = some (some (.ref f))) (h : A f sp) (k : t σ H fun vs H1 => sp vs H1 Q (fun _ _ _ => False)) : tCallH A i t σ H Q := ⟨f, sp, e, h, k⟩
theorem s_pn1 {P : Wd → V → VK → XK → Prop} {w : Wd} {a : V} {E : XK} (h : P w a Q E) : pr1 P [a] w.H Q E := ⟨w, a, rfl, rfl, h⟩
end
end G

set_option linter.all false
set_option maxRecDepth 100000
namespace G
open PySem L2 TL
/-! texts told by their signs -/
theorem str_iff {a b : Str} : a = b ↔ tl a = tl b := ⟨fun h => h ▸ rfl, ext_tl⟩
theorem tl_one {c : Nat} : tl ⟨#[c]⟩ = [c] := rfl
theorem one_iff {c d : Nat} : ((⟨#[c]⟩ : Str) = ⟨#[d]⟩) ↔ c = d := by rw [str_iff, tl_one, tl_one]; simp
theorem cutZ_from {z : Str} {d : Int} (h : 0 ≤ d) : tl (cutS z (some d) none) = (tl z).drop d.toNat := by
  have e : HT.sIx z.length z.length none = z.length := rfl
  have el := len_tl z
  unfold cutS
  rw [tl_mk, e]
  show (((tl z).drop _).take _) = _
  obtain ⟨n, rfl⟩ := Int.eq_ofNat_of_zero_le h
  show ((tl z).drop (HT.sIx z.length 0 (some ((n : Nat) : Int)))).take (z.length - HT.sIx z.length 0 (some ((n : Nat) : Int))) = (tl z).drop n
  rw [HT.sIx_nat]
  by_cases hn : n ≤ z.length
  · rw [Nat.min_eq_left hn]
    exact List.take_of_length_le (by rw [List.length_drop]; omega)
  · rw [Nat.min_eq_right (by omega), List.drop_of_length_le (show (tl z).length ≤ n by omega)]
    rw [List.drop_of_length_le (by omega)]
    simp
theorem cutZ_to {z : Str} {d : Int} (h : 0 ≤ d) : tl (cutS z none (some d)) = (tl z).take d.toNat := by
  have el := len_tl z
  unfold cutS
  rw [tl_mk]
  obtain ⟨n, rfl⟩ := Int.eq_ofNat_of_zero_le h
  show ((tl z).drop 0).take (HT.sIx z.length z.length (some ((n : Nat) : Int)) - 0) = (tl z).take n
  rw [HT.sIx_nat, Nat.sub_zero, List.drop_zero]
  by_cases hn : n ≤ z.length
  · rw [Nat.min_eq_left hn]
  · rw [Nat.min_eq_right (by omega), List.take_of_length_le (by omega), List.take_of_length_le (by omega)]
theorem cutZ_all {z : Str} : cutS z none none = z := by
  refine ext_tl ?_
  have el := len_tl z
  unfold cutS
  rw [tl_mk]
  show ((tl z).drop 0).take (z.length - 0) = tl z
  rw [List.drop_zero, List.take_of_length_le (by omega)]
theorem cutZ_back {z : Str} : tl (cutS z none (some (-1))) = (tl z).dropLast := by
  have el := len_tl z
  unfold cutS
  rw [tl_mk]
  show ((tl z).drop 0).take (HT.sIx z.length z.length (some (-1)) - 0) = _
  rw [List.drop_zero, Nat.sub_zero, List.dropLast_eq_take]
  show (tl z).take (((-1 : Int) + (z.length : Int)).toNat) = _
  congr 1
  omega
section
variable {K : PySem.W.Frag} {w : Wd} {H : Hp} {Q : VK} {σ : L2.St} {a b z : Str}
theorem s_ixZe {j : Int} (hz : z.length ≤ sizeLine) (h0 : 0 ≤ j) (h1 : j < z.length) (k : ∀ c, (tl z)[j.toNat]? = some c → Q (.str ⟨#[c]⟩) H) : gIx K (.str z) (.int j) H Q := by
  have hl : j.toNat < (tl z).length := by
    have := len_tl z
    omega
  refine ⟨(tl z)[j.toNat], hz, ?_, k _ (List.getElem?_eq_getElem hl)⟩
  have hl' : j.toNat < z.cps.toList.length := hl
  rw [atI_nn h0 (by omega)]
  exact List.getElem?_eq_getElem hl'
theorem s_intZ {n : Int} (h : PySem.intText? z = some n) (h2 : z.length ≤ 640) (k : Q (.int n) H) : gInt [.str z] H Q := ⟨n, h, h2, k⟩
theorem s_spl {ys : List Str} (k : ∀ p v, Ext Non w v → w.H p = none → v.S p = some (.lst (ys.map V.str)) → Q (.ref p) v.H) : rNewStrs ys w.H Q := newS k
def rSplit : V → List V → Hp → VK → Prop := fun x xs H Q => ∃ a b, x = .str a ∧ xs = [.str b] ∧ (b.length == 0) = false ∧ a.length + 2 ≤ sizeLine ∧ rNewStrs (PySem.Txt.split a b) H Q
theorem pe_spl {X : Cx} {o e : Expr} {to te : TE} {apos pos : Pos} (ho : PE X o to) (he : PE X e te) (hs : starEach [e] X.env = [(false, eval e X.env)] := by rfl) (hbase : attributeBase o "split" X.env (eval o X.env) = eval o X.env := by rfl) (hline : (apos.endLine == pos.line) = true := by rfl) :
    PE X (.Call (.Attribute o "split" apos) [e] [] pos) (tM1 rSplit to te) := pe_split ho he hs hbase hline
theorem s_split (hb : (b.length == 0) = false) (hz : a.length + 2 ≤ sizeLine) (k : ∀ p v, Ext Non w v → w.H p = none → v.S p = some (.lst ((PySem.Txt.split a b).map V.str)) → Q (.ref p) v.H) : rSplit (.str a) [.str b] w.H Q := ⟨a, b, rfl, rfl, hb, hz, s_spl k⟩
/-- a figure's place among the figures -/
def figs : Str := Str.ofString "0123456789"
def rIdxF : V → List V → Hp → VK → Prop := fun x xs H Q => ∃ c : Nat, x = .str figs ∧ xs = [.str ⟨#[c]⟩] ∧ 48 ≤ c ∧ c ≤ 57 ∧ Q (.int ((c - 48 : Nat) : Int)) H
theorem mt_idxF {X : Cx} : MtR X "str.index" rIdxF := by
  intro pins s σ H x xs v us Q I rx rs h
  obtain ⟨c, e1, e2, h1, h2, q⟩ := h
  refine mt_sindex pins s σ H x xs v us Q I rx rs ⟨figs, ⟨#[c]⟩, c - 48, [], e1, e2, ?_, q⟩
  clear q e2 rs
  have hc : c = 48 ∨ c = 49 ∨ c = 50 ∨ c = 51 ∨ c = 52 ∨ c = 53 ∨ c = 54 ∨ c = 55 ∨ c = 56 ∨ c = 57 := by omega
  rcases hc with rfl | rfl | rfl | rfl | rfl | rfl | rfl | rfl | rfl | rfl <;> decide +kernel
theorem s_idxF {c : Nat} (h1 : 48 ≤ c) (h2 : c ≤ 57) (k : Q (.int ((c - 48 : Nat) : Int)) H) : rIdxF (.str (Str.ofString "0123456789")) [.str ⟨#[c]⟩] H Q := ⟨c, rfl, rfl, h1, h2, k⟩
def rZf2 : V → List V → Hp → VK → Prop := fun x xs H Q => ∃ (a : Str), x = .str a ∧ xs = [.int 2] ∧ Q (.str (PySem.Txt.zfill a 2)) H
theorem mt_zf2 {X : Cx} : MtR X "str.zfill" rZf2 := by
  intro pins s σ H x xs v us Q I rx rs h
  obtain ⟨a, e1, e2, q⟩ := h
  exact mt_zfill pins s σ H x xs v us Q I rx rs ⟨a, 2, e1, e2, rfl, q⟩
theorem s_zf2 (k : Q (.str (PySem.Txt.zfill a 2)) H) : rZf2 (.str a) [.int 2] H Q := ⟨a, rfl, rfl, k⟩
def gFmt (x : V) (H : Hp) (Q : VK) : Prop := (∃ y : Str, x = .str y ∧ y.length ≤ sizeLine ∧ Q (.str y) H) ∨ ∃ i : Int, x = .int i ∧ i.natAbs.log2 < 1920 ∧ Q (.str (toString i)) H
theorem s_fmt {te : TE} (k : te σ H fun x H1 => gFmt x H1 Q) : tFmt te σ H Q := k
theorem s_fmtS (h : z.length ≤ sizeLine) (k : Q (.str z) H) : gFmt (.str z) H Q := .inl ⟨z, rfl, h, k⟩
theorem s_fmtI {i : Int} (h : i.natAbs.log2 < 1920) (k : Q (.str (toString i)) H) : gFmt (.int i) H Q := .inr ⟨i, rfl, h, k⟩
theorem s_js0 {acc : Str} {R : Str → Hp → Prop} (k : R acc H) : tJs [] acc σ H R := k
theorem s_js {t : TE} {ts : List TE} {acc : Str} {R : Str → Hp → Prop} (k : t σ H fun x H1 => ∃ y : Str, x = .str y ∧ (acc ++ y).length ≤ sizeLine ∧ tJs ts (acc ++ y) σ H1 R) : tJs (t :: ts) acc σ H R := k
theorem s_jsp {acc : Str} {R : Str → Prop} (h : (acc ++ z).length ≤ sizeLine) (k : R z) : ∃ y : Str, V.str z = .str y ∧ (acc ++ y).length ≤ sizeLine ∧ R y := ⟨z, rfl, h, k⟩
def tJn (ts : List TE) : TE := fun σ H Q => tJs ts Str.empty σ H fun out H1 => Q (.str out) H1
theorem pe_jn {X : Cx} {v1 v2 : Expr} {rest : List Expr} {ts : List TE} {pos : Pos} (h : PJ X (v1 :: v2 :: rest) ts) : PE X (.JoinedStr (v1 :: v2 :: rest) pos) (tJn ts) := pe_joined h
theorem s_jn {ts : List TE} (k : tJs ts Str.empty σ H fun out H1 => Q (.str out) H1) : tJn ts σ H Q := k
theorem s_ninZ {c : Nat} (k : Q (.bl (!decide (c ∈ z.cps.toList))) H) : gNotIn K (.str ⟨#[c]⟩) (.str z) H Q := ⟨c, rfl, k⟩
theorem s_ninS2 {p : Addr} (h : w.S p = some (.tup [.str a, .str b])) (k : Q (.bl (!(decide (z = a) || decide (z = b)))) w.H) : gNotIn K (.str z) (.ref p) w.H Q := by
  refine ⟨p, _, rfl, .inr (sqt_of h), rfl, rfl, ?_⟩
  have e : inV (.str z) [.str a, .str b] = (decide (z = a) || decide (z = b)) := by
    show (a == z || (b == z || false)) = _
    rw [Bool.or_false, Bool.eq_iff_iff]
    simp only [Bool.or_eq_true, beq_iff_eq, decide_eq_true_eq]
    exact ⟨fun h => h.imp Eq.symm Eq.symm, fun h => h.imp Eq.symm Eq.symm⟩
  show Q (.bl (!inV (.str z) [.str a, .str b])) w.H
  rw [e]
  exact k
theorem s_repN {p : Addr} {x : V} {n : Int} (h : w.H p = some (.lst [x])) (h0 : 0 ≤ n) (h1 : n < 1000000) (k : ∀ p v, Ext Non w v → w.H p = none → v.S p = some (.lst (List.replicate n.toNat x)) → Q (.ref p) v.H) : gMul K (.ref p) (.int n) w.H Q :=
  ⟨[x], h, by omega, by omega, by rw [sizeLine_eq, List.length_singleton]; omega, newS fun p v e n' s => k p v e n' (by
    rw [s]
    have : ∀ m : Nat, (List.replicate m [x]).flatten = List.replicate m x := by
      intro m
      induction m with
      | zero => rfl
      | succ m ih => rw [List.replicate_succ, List.flatten_cons, ih]; rfl
    rw [this])⟩
theorem s_repM {p : Addr} {vs : List V} {n : Int} (h : w.H p = some (.lst vs)) (h0 : 0 ≤ n) (h1 : n < 1000000) (h3 : vs.length * n.toNat ≤ sizeLine) (k : ∀ p v ys, Ext Non w v → w.H p = none → v.S p = some (.lst ys) → ys.length = n.toNat * vs.length → ys = (List.replicate n.toNat vs).flatten → Q (.ref p) v.H) : gMul K (.ref p) (.int n) w.H Q :=
  ⟨vs, h, by omega, by omega, h3, newS fun p v e n' s => k p v _ e n' s (by
    have : ∀ m : Nat, (List.replicate m vs).flatten.length = m * vs.length := by
      intro m
      induction m with
      | zero => simp
      | succ m ih => rw [List.replicate_succ, List.flatten_cons, List.length_append, ih, Nat.succ_mul, Nat.add_comm]
    exact this _) rfl⟩
theorem s_isNN (k : Q (.bl true) H) : gIs .non .non H Q := s_isN (by rw [decide_eq_true rfl]; exact k)
theorem s_isIN {n : Int} (k : Q (.bl false) H) : gIs (.int n) .non H Q := s_isN (by rw [decide_eq_false (fun z => by cases z)]; exact k)
theorem s_isRN {n : Addr} (k : Q (.bl false) H) : gIs (.ref n) .non H Q := s_isN (by rw [decide_eq_false (fun z => by cases z)]; exact k)
theorem s_isSN {n : Str} (k : Q (.bl false) H) : gIs (.str n) .non H Q := s_isN (by rw [decide_eq_false (fun z => by cases z)]; exact k)
theorem s_notNN (k : Q (.bl false) H) : gIsNot .non .non H Q := s_notN (by rw [decide_eq_true rfl]; exact k)
theorem s_notIN {n : Int} (k : Q (.bl true) H) : gIsNot (.int n) .non H Q := s_notN (by rw [decide_eq_false (fun z => by cases z)]; exact k)
theorem s_notRN {n : Addr} (k : Q (.bl true) H) : gIsNot (.ref n) .non H Q := s_notN (by rw [decide_eq_false (fun z => by cases z)]; exact k)
theorem s_notSN {n : Str} (k : Q (.bl true) H) : gIsNot (.str n) .non H Q := s_notN (by rw [decide_eq_false (fun z => by cases z)]; exact k)
/-- a text in a written tuple of texts -/
theorem s_inT {p : Addr} {vs : List V} (h : w.S p = some (.tup vs)) (f : vs.all flatV = true) (k : Q (.bl (inV (.str z) vs)) w.H) : gIn K (.str z) (.ref p) w.H Q := ⟨p, vs, rfl, .inr (sqt_of h), rfl, f, k⟩
end
theorem Tx.lit {z : Str} (h : (tl z).all (fun c => decide (c < 128)) = true) : Tx (tl z).length z := ⟨Nat.le_of_eq (len_tl z), fun c hc => of_decide_eq_true (List.all_eq_true.mp h c hc)⟩
theorem Tx.litN {n : Nat} {z : Str} (h : (tl z).all (fun c => decide (c < 128)) = true) (k : (tl z).length ≤ n) : Tx n z := (Tx.lit h).mono k
theorem Tx.z2 {n : Nat} {z : Str} (h : Tx n z) (k : n + 2 ≤ 16777216) : z.length + 2 ≤ sizeLine := by
  rw [sizeLine_eq]
  have := h.1
  omega
theorem Tx.len {n m : Nat} {z : Str} (h : Tx n z) (k : z.length ≤ m) : Tx m z := ⟨k, h.2⟩
theorem lenZ_to {z : Str} {d : Int} (h : 0 ≤ d) : (cutS z none (some d)).length = min d.toNat z.length := by
  rw [len_tl, cutZ_to h, List.length_take, len_tl z]
theorem lenZ_from {z : Str} {d : Int} (h : 0 ≤ d) : (cutS z (some d) none).length = z.length - d.toNat := by
  rw [len_tl, cutZ_from h, List.length_drop, len_tl z]
theorem lenZ_mid {z : Str} {a b : Int} (h : 0 ≤ a) (h2 : a ≤ b) : (cutS z (some a) (some b)).length ≤ b.toNat - a.toNat := by
  obtain ⟨n, rfl⟩ := Int.eq_ofNat_of_zero_le h
  obtain ⟨m, rfl⟩ := Int.eq_ofNat_of_zero_le (Int.le_trans h h2)
  unfold cutS
  rw [len_tl, tl_mk, List.length_take, HT.sIx_nat, HT.sIx_nat]
  omega
theorem lenZ_app (a b : Str) : (a ++ b).length = a.length + b.length := by rw [len_tl, tl_append, List.length_append, len_tl a, len_tl b]
end G

set_option linter.all false
set_option maxRecDepth 100000
namespace G
open PySem L2 TL
/-! a raise that is never come to; enumerate; instances of own classes -/
def tNo : TS := fun _ _ _ => False
theorem ps_no {X : Cx} {st : Stmt} : PS X st tNo := ⟨fun _ _ _ _ _ _ h => h.elim⟩
theorem kpEnum {X : Cx} (K : PySem.W.Frag) {e : Expr} {ta : TA} {p pos tpos : Pos} {elts : List Expr} {kk : Nat} (hg : Gl X "enumerate") (hm : X.mg "enumerate" = none) (ha : PA X [e] ta) (eK : X.K = K := by rfl) (hs : starEach [e] X.env = [(false, eval e X.env)] := by rfl) :
    PI X (.Tuple elts kk tpos) (.Call (.Name "enumerate" p) [e] [] pos) (iEnum K ta) := eK ▸ pi_enum hg hm ha hs
section
variable {K : PySem.W.Frag} {w : Wd} {a C dx : Addr} {xs : List V} {Q : VK}
theorem s_iEnum {ta : TA} {σ : L2.St} {H : Hp} {R : It → Hp → Prop} (k : ta σ H fun vs H1 => ∃ a xs, vs = [.ref a] ∧ SqL K H1 a xs ∧ R (Ite K a) H1) : iEnum K ta σ H R := k
def YE (xs : List V) : Nat → Wd → V → Wd → Prop := fun i w x v => ∃ T x1, x = .ref T ∧ Ext Non w v ∧ w.H T = none ∧ v.S T = some (.tup [.int (i : Nat), x1]) ∧ xs[i]? = some x1
theorem ye_of {w : Wd} {T : Addr} {x1 : V} {i : Nat} (hT : w.H T = none) (h1 : xs[i]? = some x1) : ∃ v : Wd, v.H = upd w.H T (.tup [.int (i : Nat), x1]) ∧ YE xs i w (.ref T) v := by
  refine newS (w := w) (o := .tup [.int (i : Nat), x1]) (Q := fun r H' => r = .ref T → ∃ v : Wd, v.H = H' ∧ YE xs i w (.ref T) v) (fun p v e n s hq => ?_) T hT rfl
  cases hq
  exact ⟨v, rfl, T, x1, rfl, e, n, s, h1⟩
theorem ww_enum : WWalk (Ite K a) xs.length (fun w => SqL K w.H a xs) (YE xs) :=
  ⟨fun i w h q => ⟨xs, xs[i], q, List.getElem?_eq_getElem h⟩, fun w q => ⟨xs, q, Nat.le_refl _⟩, fun i w x H' h q y => by
    obtain ⟨T, x1, rfl, hT, rfl, h1⟩ := y
    exact ye_of hT (h1 xs q)⟩
structure ClsI (K : PySem.W.Frag) (C : Addr) : Prop where
  ha : PySem.W.findIn K (.ref C) "__class__" = some (some (.builtin "object.__class__"))
  hn : PySem.W.specialIn K (.builtin "object.__class__") "__get__" = some (some (.builtin "getset_descriptor.__get__"))
  ht : PySem.W.takesIn K (.builtin "object.__class__") = some true
  hm : PySem.W.mroIn K C (.type "object") = some true
theorem s_isiC {fs : List (Str × V)} (h : w.H a = some (.ins C dx fs)) (c : Cls K C) (i : ClsI K C) (k : Q (.bl true) w.H) : rIsi K [.ref a, .ref C] w.H Q :=
  ⟨.ref a, .ref C, .ref C, .ref C, true, rfl, .own C, .base (.ins h c i.ha i.hn i.ht i.hm), by unfold PySem.W.kitOne; simp, k⟩
end
/-- an if with an else, told by what holds behind it -/
theorem s_ifE2 {c : TT} {t e : TS} {D : Ends} {σ : L2.St} {w : Wd} (R : L2.St → Wd → Prop) (h : ∀ Z : L2.St → Hp → Prop, (∀ σ u, R σ u → Z σ u.H) → tIfS c t e { D with nx := Z } σ w.H) (hd : ∀ σ u, R σ u → D.nx σ u.H) : tIfS c t e D σ w.H := h D.nx hd
/-- ahead of a loop, one's own is laid for good -/
theorem layW {w : Wd} {r : Addr} {ob : HO} {σ : L2.St} {P : (Nat → Nat → L2.St → Hp → Prop) → Prop} (o : Own w r ob) (k : ∀ v, Ext (One r) w v → v.S r = some ob → ∃ W : Nat → Nat → L2.St → Hp → Prop, (∃ m, W 0 m σ v.H) ∧ P W) :
    ∃ W : Nat → Nat → L2.St → Hp → Prop, (∃ m, W 0 m σ w.H) ∧ P W := lay (R := fun H => ∃ W : Nat → Nat → L2.St → Hp → Prop, (∃ m, W 0 m σ H) ∧ P W) o k
end G

set_option linter.all false
set_option maxRecDepth 100000
set_option maxHeartbeats 1000000
namespace G
open PySem L2 PyProof.Rows
/-! exceptions of own classes with fields -/
section
variable {X : Cx} {o e : Expr} {es : List Expr} {to te : TE} {ta : TA} {p p' p1 p2 pos : Pos}
/-- B.__init__(self, ..), B an own class that has its __init__ of ValueError -/
theorem pe_xinit {pl : Sem Bool} {C0 : Addr} {mc : Value} (he0 : PE X o (tC (.ref C0))) (rd : PySem.W.readsIn X.K C0 mc = true) (ga : PySem.W.specialIn X.K (.ref C0) "__getattribute__" = some (some (.builtin "type.__getattribute__")))
    (vV : PySem.W.findCls X.K (.ref C0) mc "__init__" = some (.val (.builtin "ValueError.__init__"))) (ha : PA X (e :: es) ta)
    (hc : eval (.Call (.Attribute o "__init__" p2) (e :: es) [] pos) X.env = (do
      let ov ← eval o X.env
      standAt p2.atName
      let (f, first) ← holding [ov] (getMethod ov "__init__" pl)
      callWith pos f first (backTo pos (starEach (e :: es) X.env)) (backToKw pos (keywordEach [] X.env))) := by rfl)
    (he : starEach (e :: es) X.env = (false, eval e X.env) :: starEach es X.env := by rfl) (hpl : (backTo pos (starEach es X.env)).any (·.1) = false := by rfl) :
    PE X (.Call (.Attribute o "__init__" p2) (e :: es) [] pos) (tVeI X.K ta) := by
  refine ⟨fun pins s σ H Q I h => ?_⟩
  refine PySem.W.methodCall_KW (pl := pl) (thn (he0.run pins s σ H (fun x H1 => x = .ref C0 ∧ tVeI X.K ta σ H1 Q) I ⟨rfl, h⟩) fun u s1 ⟨x, H1, I1, rx, ex, q0⟩ => ?_) hc
  subst ex
  obtain rfl : u = Value.ref C0 := rx
  refine PySem.W.method_cls I1.kIn ga (PySem.W.cls_value I1.kIn rd vV (by rfl) ?_)
  show wpAny _ _ (callWith pos (Value.builtin "ValueError.__init__") [] (backTo pos (starEach (e :: es) X.env)) []) _ _ _
  refine PyProof.Rows.callWith_method1 (thn (ha.run pos pins _ σ H1 _ (I1.tok _) q0) fun us s2 ⟨vs, H2, I2, r1, a, C, ws, ev, hl, T, ea, q⟩ => ?_) he hpl
  subst ev
  cases r1 with
  | @cons _ u0 _ ur ra rw' =>
    obtain rfl : u0 = Value.ref a := ra
    have hlen : ur.length ≤ sizeLine := by
      rw [← Paired.length rw', sizeLine_eq]
      omega
    exact oinit_ok T I2 ea hlen fun s' J => ⟨.non, H2, J, rfl, q⟩
end
/-- an exception class: what raise C(e) needs -/
structure Mxr (P : Program) (w : World) (K : PySem.W.Frag) (mg : Str → Option Value) (base : Heap) (C : Addr) (k : Nat) (sp : Sp) : Prop where
  ex : ∃ (f : Addr) (fd : FuncData) (ps : List Str), FnOk P w K mg base CX0 k f fd ps sp ∧ OexC K C ∧ PySem.W.findIn K (.ref C) "__init__" = some (some (.ref f)) ∧ PySem.W.typeIn K (.ref f) = some (.type "function") ∧ Binds K fd ps []
def tRaiseX (C : Addr) (sp : Sp) (W : WX) (ta : TA) : TS := fun _ σ H => tMkO C sp [] ta σ H fun cls d H' => W cls d σ H'
theorem ps_raiseX {X : Cx} {W : WX} {x : Str} {C : Addr} {k j : Nat} {sp : Sp} {e : Expr} {ta : TA} {p pos pos2 : Pos} (hc : X.calm = true) (tk : Takes X W) (c : Mxr X.prog X.w X.K X.mg X.base C k sp) (hr : Room j X.A) (hk : k + 1 ≤ j) (hm : X.mg x = some (.ref C)) (ha : PA X [e] ta) (hg : Gl X x := by rfl)
    (hdb : (x == ("__debug__" : Str)) = false := by decide) (he : starEach [e] X.env = (false, eval e X.env) :: starEach [] X.env := by rfl) (hpl : (backTo pos (starEach [] X.env)).any (·.1) = false := by rfl) :
    PS X (.Raise (some (.Call (.Name x p) [e] [] pos)) none pos2) (tRaiseX C sp W ta) := by
  obtain ⟨f, fd, ps, F, T, iC, tI, hb⟩ := c.ex
  exact ps_raise hc tk (pmk_oex T iC tI F (hr.mono hk) hb .nil pass0 hg hm ha hdb he hpl)
/-- an __init__'s promise: it keeps its argument in the field f, nothing else -/
def initX (f : Str) (C : Addr) (w : Wd) (a b : V) (Q : VK) (_ : XK) : Prop := ∃ x, a = .ref x ∧ w.H x = some (exo x C none) ∧ ∀ dx, w.H dx = none → dx ≠ x → Q .non (upd (upd w.H dx (exd dx [(f, b)])) x (exo x C (some dx)))
section
variable {w : Wd} {K : PySem.W.Frag} {C : Addr} {f : Str} {y : V} {Q : VK} {σ : L2.St} {W : WX} {D : Ends}
theorem s_raiseX {ta : TA} {P : Wd → V → V → VK → XK → Prop} (hP : P = initX f C) (k : ta σ w.H fun vs H1 => vs.length ≤ 1000 ∧ ∀ a, H1 a = none → pr2 P (.ref a :: (vs ++ [])) (upd H1 a (exo a C none))
    (fun v H2 => v = .non ∧ ∃ (d : Addr) (fs : List (Str × V)), H2 a = some (exo a C (some d)) ∧ H2 d = some (exd d fs) ∧ H1 d = none ∧ W (.ref C) (some d) σ (upd (del H2 a) d (.xd fs))) (fun _ _ _ => False)) : tRaiseX C (pr2 P) W ta D σ w.H := k
/-- the raise itself: told by what holds where it is caught -/
theorem s_raised (k : ∀ d v, Ext Non w v → w.H d = none → Own v d (.xd [(f, y)]) → W (.ref C) (some d) σ v.H) : [y].length ≤ 1000 ∧ ∀ a, w.H a = none → pr2 (initX f C) (.ref a :: ([y] ++ [])) (upd w.H a (exo a C none))
    (fun v H2 => v = .non ∧ ∃ (d : Addr) (fs : List (Str × V)), H2 a = some (exo a C (some d)) ∧ H2 d = some (exd d fs) ∧ w.H d = none ∧ W (.ref C) (some d) σ (upd (del H2 a) d (.xd fs))) (fun _ _ _ => False) := by
  refine ⟨by simp, fun a ha => ?_⟩
  refine ⟨⟨w.S, upd w.H a (exo a C none), fun b q x => ?_⟩, .ref a, y, rfl, rfl, a, rfl, upd_same, fun dx hdx hne => ⟨rfl, dx, [(f, y)], upd_same, ?_, ?_, ?_⟩⟩
  · have hb : b ≠ a := fun e => by
      have := w.ok b q x
      rw [e, ha] at this
      cases this
    rw [upd_ne hb]
    exact w.ok b q x
  · rw [upd_ne hne, upd_same]
  · have : upd w.H a (exo a C none) dx = none := hdx
    rw [upd_ne hne] at this
    exact this
  · have hdn : w.H dx = none := by
      have : upd w.H a (exo a C none) dx = none := hdx
      rw [upd_ne hne] at this
      exact this
    have e : upd (del (upd (upd (upd w.H a (exo a C none)) dx (exd dx [(f, y)])) a (exo a C (some dx))) a) dx (.xd [(f, y)]) = upd w.H dx (.xd [(f, y)]) := by
      funext b
      by_cases hb : b = dx
      · subst hb
        rw [upd_same, upd_same]
      · rw [upd_ne hb, upd_ne hb]
        by_cases hb2 : b = a
        · subst hb2
          rw [del_same, ha]
        · rw [del_ne hb2, upd_ne hb2, upd_ne hb, upd_ne hb2]
    show W (.ref C) (some dx) σ (upd (del (upd (upd (upd w.H a (exo a C none)) dx (exd dx [(f, y)])) a (exo a C (some dx))) a) dx (.xd [(f, y)]))
    rw [e]
    refine newO (w := w) (o := .xd [(f, y)]) (Q := fun r H' => ∀ d, r = .ref d → W (.ref C) (some d) σ H') (fun p v e n o d hd => ?_) dx hdn dx rfl
    cases hd
    exact k p v e n o
end
/-- isinstance in an except suite: of the exception, or of anything else -/
def rIsX (K : PySem.W.Frag) (a : Addr) (cls : Value) (d : Option Addr) : List V → Hp → VK → Prop := fun xs H Q => ∃ (E dd : Addr) (fs : List (Str × V)) (c : V) (cv : Value) (b : Bool), cls = .ref E ∧ d = some dd ∧ ExcC K E ∧ xs = [.ref a, c] ∧ (∀ u, RelV c u → u = cv) ∧ PySem.W.kitOne K (.ref E) cv = some b ∧
  H dd = some (.xd fs) ∧ Q (.bl b) H
def rIsU (K : PySem.W.Frag) (a : Addr) (cls : Value) (d : Option Addr) : List V → Hp → VK → Prop := fun xs H Q => rIsi K xs H Q ∨ rIsX K a cls d xs H Q
theorem call_isX {X : Cx} {a : Addr} {cls : Value} {d : Option Addr} {oe : Obj} {pn : List (Addr × Obj)} (hz : Zc cls d oe) (hf : ∃ vs, oe.data = .fields vs) : CallR (X.suite a ((a, oe) :: pn)) (.builtin "isinstance") (rIsX X.K a cls d) := by
  intro pins s σ H xs us Q I r h
  obtain ⟨E, dd, fs, c, cv, b, rfl, rfl, C, rfl, hcv, e, ea, q⟩ := h
  cases r with
  | cons rx rr =>
    cases rr with
    | cons rt rr =>
      cases rr
      cases rx
      have ec := hcv _ rt
      subst ec
      obtain ⟨hget, _⟩ := I.pin (a, oe) (List.mem_append.mpr (.inl List.mem_cons_self))
      obtain ⟨vs, hv⟩ := hf
      have hx : ObjOk X.prog X.w H s.heap dd (.xd fs) := I.hok dd _ ea
      obtain ⟨mA, hns, hr⟩ := hx
      obtain ⟨od, ho, hlk⟩ := lookIn_ns hns
      have J : PySem.W.InstAt s.heap a oe E (some od) := ⟨hget, hz.1, by unfold PySem.W.notCls; rw [hv] <;> rfl, by rw [hz.2]; exact ho⟩
      obtain ⟨cd, hcl, _⟩ := PySem.W.any_some C.hd
      exact PySem.W.kia_one (PySem.W.kitx_exc (by rw [hcl]; rfl) C.hg C.hk C.hs C.ha C.hn C.ht C.hm) I.kIn J e (fun z => nomatch z) fun tk => ⟨.bl b, H, I.kept (t' := tk) fun _ _ z => z, rfl, q⟩
theorem call_isU {X : Cx} {K : PySem.W.Frag} (eK : X.K = K) {a : Addr} {cls : Value} {d : Option Addr} {oe : Obj} {pn : List (Addr × Obj)} (hz : Zc cls d oe) (hf : ∃ vs, oe.data = .fields vs) : CallR (X.suite a ((a, oe) :: pn)) (.builtin "isinstance") (rIsU K a cls d) := by
  subst eK
  intro pins s σ H xs us Q I r h
  rcases h with h | h
  · exact call_isi pins s σ H xs us Q I r h
  · exact call_isX hz hf pins s σ H xs us Q I r h
/-- e.f in an except suite, whatever the class -/
def tXg (K : PySem.W.Frag) (a : Addr) (cls : Value) (d : Option Addr) (f : Str) (te : TE) : TE := fun σ H Q => te σ H fun x H1 => ∃ C : Addr, x = .ref a ∧ cls = .ref C ∧ XfC K C ∧ PySem.W.findIn K (.ref C) f = some none ∧ ∃ (dd : Addr) (fs : List (Str × V)) (v : V), d = some dd ∧ H1 dd = some (.xd fs) ∧ fs.lookup f = some v ∧ Q v H1
theorem pe_xg {X : Cx} {K : PySem.W.Frag} (eK : X.K = K) {a : Addr} {oe : Obj} {cls : Value} {d : Option Addr} {pn : List (Addr × Obj)} {e : Expr} {te : TE} {pos : Pos} {n : Str}
    (hz : Zc cls d oe) (hf : ∃ vs, oe.data = .fields vs) (he : PE (X.suite a ((a, oe) :: pn)) e te) (hb : attributeBase e n X.env (eval e X.env) = eval e X.env := by rfl) :
    PE (X.suite a ((a, oe) :: pn)) (.Attribute e n pos) (tXg K a cls d n te) := by
  subst eK
  refine ⟨fun pins s σ H Q I h => ?_⟩
  refine attr_of hb (thn (he.run pins s σ H _ I h) fun u s1 hh => ?_)
  obtain ⟨x, H1, I1, rx, C, ex, ec, T, hno, dd, fs, v, ed, ea, l, q⟩ := hh
  subst ex
  obtain rfl : u = Value.ref a := rx
  subst ec
  subst ed
  obtain ⟨ha, _⟩ := I1.pin (a, oe) (List.mem_append_left _ List.mem_cons_self)
  obtain ⟨vs, hd⟩ := hf
  have hx : ObjOk X.prog X.w H1 s1.heap dd (.xd fs) := I1.hok dd _ ea
  obtain ⟨mA, hns, hr⟩ := hx
  obtain ⟨od, ho, hl⟩ := lookIn_ns hns
  obtain ⟨u, hu, ru⟩ := RelO.some_of (v := v) (o := mA n) (by rw [← l]; exact hr n)
  have J : PySem.W.InstAt s1.heap a oe C (some od) := ⟨ha, hz.1, by unfold PySem.W.notCls; rw [hd] <;> rfl, by rw [hz.2]; exact ho⟩
  exact HandSPX.exc_get I1.kIn J T.ga T.gg T.exC (PySem.W.findObj_own T.hdC hno rfl (by rw [hl, hu])) (handed_of ru) ⟨v, H1, I1.tok _, ru, q⟩
section
variable {X : Cx} {k j : Nat} {x m : Str} {C : Addr} {sp : Sp} {p pos apos : Pos} {o e : Expr} {es : List Expr} {to : TE} {t : TA} {W : WX}
/-- a call that may raise -/
def tMethX (C : Addr) (m : Str) (sp : Sp) (W : WX) (to : TE) (t : TA) : TE := fun σ H Q => to σ H fun x H1 => rMeth C m t sp (fun cls d H' => W cls d σ H') Q σ x H1
theorem pe_mthX {pl : Sem Bool} (tk : Takes X W) (c : Mth X.prog X.w X.K X.mg X.base (L2.CX X.prog X.w) C k m sp) (cl : Cls X.K C) (hr : Room j X.A) (hk : k ≤ j) (he : PE X o to) (ha : PA X (e :: es) t)
    (hst : starEach (e :: es) X.env = (false, eval e X.env) :: starEach es X.env := by rfl) (hpl : (backTo pos (starEach es X.env)).any (·.1) = false := by rfl)
    (ht : eval (.Call (.Attribute o m apos) (e :: es) [] pos) X.env = (do
      let ov ← eval o X.env
      standAt apos.atName
      let (f, first) ← holding [ov] (getMethod ov m pl)
      callWith pos f first (backTo pos (starEach (e :: es) X.env)) (backToKw pos (keywordEach [] X.env))) := by rfl) :
    PE X (.Call (.Attribute o m apos) (e :: es) [] pos) (tMethX C m sp W to t) := by
  obtain ⟨f, fd, ps, F, hm, hb⟩ := c.ex
  refine ⟨fun pins s σ H Q I h => ?_⟩
  refine PySem.W.methodCall_KW (pl := pl) (thn (he.run pins s σ H _ I h) fun u s1 ⟨x, H1, I1, rx, a, dx, fs, ex, ea, l, q⟩ => ?_) ht
  subst ex
  obtain rfl : u = Value.ref a := rx
  refine getmeth_ok I1 ea cl hm l ?_
  refine PySem.W.callWith_K (first := [.ref a]) (h₀ := X.base) I.ok.mod.kin hm.kp (thn (ha.run pos pins s1 σ H1 _ I1 q) fun us s2 ⟨vs, H2, I2, r, q2⟩ => ⟨I2.kIn, ?_⟩) hst hpl
  have q3 : sp (.ref a :: vs) H2 Q (fun cls d H' => W cls d σ H') := by
    have q4 : sp (.ref a :: (vs ++ [])) H2 Q (fun cls d H' => W cls d σ H') := q2
    rw [List.append_nil] at q4
    exact q4
  exact run_fnS (E := fun σ cls d H => W cls d σ H) (us := .ref a :: us) (vs := .ref a :: vs) F (hr.mono hk) hb (passAt tk σ) I2 (.cons rfl r) q3
def tCallX (sp : Sp) (W : WX) (t : TA) : TE := fun σ H Q => t σ H fun vs H1 => sp (vs ++ []) H1 Q (fun cls d H' => W cls d σ H')
theorem pe_fnX (tk : Takes X W) (c : Fnc X.prog X.w X.K X.mg X.base (L2.CX X.prog X.w) k x sp) (hr : Room j X.A) (hk : k ≤ j) (ha : PA X (e :: es) t) (hg : Gl X x := by rfl)
    (he : starEach (e :: es) X.env = (false, eval e X.env) :: starEach es X.env := by rfl) (hpl : (backTo pos (starEach es X.env)).any (·.1) = false := by rfl) (hd : (x == ("__debug__" : Str)) = false := by decide) :
    PE X (.Call (.Name x p) (e :: es) [] pos) (tCallX sp W t) := by
  obtain ⟨f, fd, ps, F, hm, hkp, hb⟩ := c.ex
  refine ⟨fun pins s σ H Q I h => ?_⟩
  refine (pe_callS (E := fun σ cls d H => W cls d σ H) F (hr.mono hk) hg hm hkp hb (passAt tk) ha hd he hpl).run pins s σ H Q I ?_
  have e : tCallX sp W t = tCallS sp (fun σ cls d H => W cls d σ H) t := by
    funext σ H Q
    unfold tCallX tCallS
    congr 1
    funext vs H1
    rw [List.append_nil]
  rw [← e]
  exact h
end
section
variable {K : PySem.W.Frag} {w : Wd} {H : Hp} {Q : VK} {σ : L2.St} {sp : Sp} {W : WX} {to te : TE} {t : TA} {C a dd : Addr} {m f : Str} {cls : Value} {d : Option Addr} {D : Ends}
theorem s_methX (k : to σ H fun x H1 => rMeth C m t sp (fun cls d H' => W cls d σ H') Q σ x H1) : tMethX C m sp W to t σ H Q := k
theorem s_callX (k : t σ H fun vs H1 => sp (vs ++ []) H1 Q (fun cls d H' => W cls d σ H')) : tCallX sp W t σ H Q := k
/-- caught -/
theorem s_wAs {c : Value} {i : Nat} {ts : Addr → Value → Option Addr → TS} {Wout : WX} (e : PySem.W.exmOne K cls c = some true) (k : ∀ a, H a = none → ts a cls d { nx := fun σ' H' => D.nx (σ'.set i none) H', rt := D.rt, bk := fun σ' H' => D.bk (σ'.set i none) H', ct := fun σ' H' => D.ct (σ'.set i none) H' } (σ.set i (some (.ref a))) H) :
    wAs K c i ts Wout D cls d σ H := ⟨true, e, fun _ a ha => k a ha, fun z => by cases z⟩
theorem s_isU {xs : List V} (k : rIsi K xs H Q) : rIsU K a cls d xs H Q := .inl k
theorem s_isXc {E2 : Addr} {fs : List (Str × V)} {cC : Addr} {b : Bool} (c : ExcC K E2) (e : PySem.W.kitOne K (.ref E2) (.ref cC) = some b) (h : w.H dd = some (.xd fs)) (k : Q (.bl b) w.H) : rIsU K a (.ref E2) (some dd) [.ref a, .ref cC] w.H Q :=
  .inr ⟨E2, dd, fs, .ref cC, .ref cC, b, rfl, rfl, c, rfl, fun u r => r, e, h, k⟩
theorem s_isXt {E2 : Addr} {fs : List (Str × V)} {T : String} {b : Bool} (c : ExcC K E2) (e : PySem.W.kitOne K (.ref E2) (.type T) = some b) (h : w.H dd = some (.xd fs)) (k : Q (.bl b) w.H) : rIsU K a (.ref E2) (some dd) [.ref a, .ty T] w.H Q :=
  .inr ⟨E2, dd, fs, .ty T, .type T, b, rfl, rfl, c, rfl, fun u r => r, e, h, k⟩
def gXg (K : PySem.W.Frag) (a : Addr) (cls : Value) (d : Option Addr) (f : Str) (x : V) (H1 : Hp) (Q : VK) : Prop := ∃ C : Addr, x = .ref a ∧ cls = .ref C ∧ XfC K C ∧ PySem.W.findIn K (.ref C) f = some none ∧ ∃ (dd : Addr) (fs : List (Str × V)) (v : V), d = some dd ∧ H1 dd = some (.xd fs) ∧ fs.lookup f = some v ∧ Q v H1
theorem s_xg (k : te σ H fun x H1 => gXg K a cls d f x H1 Q) : tXg K a cls d f te σ H Q := k
theorem s_xgv {v : V} {C : Addr} (h : w.H dd = some (.xd [(f, v)])) (x : XfC K C) (n : PySem.W.findIn K (.ref C) f = some none) (k : Q v w.H) : gXg K a (.ref C) (some dd) f (.ref a) w.H Q :=
  ⟨C, rfl, rfl, x, n, dd, _, v, rfl, h, by simp [List.lookup], k⟩
theorem s_ost (k : te σ H fun y H1 => to σ H1 fun x H2 => ∃ a C : Addr, x = .ref a ∧ OexC K C ∧ PySem.W.findIn K (.ref C) f = some none ∧
  ((H2 a = some (exo a C none) ∧ ∀ dx, H2 dx = none → dx ≠ a → D.nx σ (upd (upd H2 dx (exd dx [(f, y)])) a (exo a C (some dx)))) ∨
    ∃ (dx : Addr) (fs : List (Str × V)), H2 a = some (exo a C (some dx)) ∧ H2 dx = some (exd dx fs) ∧ fs.length ≤ 900 ∧ D.nx σ (upd H2 dx (exd dx ((f, y) :: fs))))) : tOst K f to te D σ H := k
/-- the __init__ of an exception class -/
theorem s_veI {ta : TA} (k : ta σ H fun vs H1 => ∃ (a C : Addr) (ws : List V), vs = .ref a :: ws ∧ ws.length ≤ 1000 ∧ OexC K C ∧ H1 a = some (exo a C none) ∧ Q .non H1) : tVeI K ta σ H Q := k
end
section
variable {X : Cx} {T id : String} {r : V → List V → Hp → VK → Prop} {o e : Expr} {es : List Expr} {to : TE} {t : TA} {name : Str} {apos cpos : Pos}
/-- a method of a built-in type, where the context is not to be told (an except suite) -/
theorem pe_bmK (K : PySem.W.Frag) (pa : PlainAttrs T) (slot : Slot T name id) (hty : typeOf (.builtin id) = pure (.type "method_descriptor")) (hm : MtR X id r) (ho : PE X o to) (ha : PA X (e :: es) t) (eK : X.K = K := by rfl)
    (hbase : attributeBase o name X.env (eval o X.env) = eval o X.env := by rfl)
    (hfew : ((backTo cpos (starEach (e :: es) X.env)).all (fun x => !x.1) && (backToKw cpos (keywordEach [] X.env)).all (fun x => x.1.isSome)
      && decide ((e :: es).length + ([] : List Keyword).length + (if ([] : List Keyword).isEmpty then 0 else 1) < 30)) = true := by rfl)
    (hline : (apos.endLine == cpos.line) = true := by rfl) (hs : starEach (e :: es) X.env = (false, eval e X.env) :: starEach es X.env := by rfl) (hplain : (backTo cpos (starEach es X.env)).any (·.1) = false := by rfl) :
    PE X (.Call (.Attribute o name apos) (e :: es) [] cpos) (tBM K T r to t) := eK ▸ pe_bm pa slot hty hm ho ha hbase hfew hline hs hplain
end
/-- ==, of dicts too -/
def gEqU (K : PySem.W.Frag) : R2 := fun x y H Q => gEq K x y H Q ∨ rEqDA x y H Q
theorem kEqU {X : Cx} (K : PySem.W.Frag) (hu : X.A.units + 64 < cLine) (eK : X.K = K := by rfl) : OpR X (compareOp .Eq) (gEqU K) := eK ▸ (g_eq hu).or (op_eq_dictA (by omega))
theorem s_eqDn {K : PySem.W.Frag} {w : Wd} {a : Addr} {Q : VK} (h : w.H a = some (.dK [])) (k : Q (.bl true) w.H) : gEqU K (.ref a) (.ref a) w.H Q := .inr ⟨a, a, [], [], rfl, rfl, h, h, rfl, (fun p hp => by cases hp), k⟩
theorem kit_self {K : PySem.W.Frag} {A : Addr} : PySem.W.kitOne K (.ref A) (.ref A) = some true := by unfold PySem.W.kitOne; simp
theorem kit_rr {K : PySem.W.Frag} {A B : Addr} {b : Bool} (hs : PySem.W.subIn K (.ref A) (.ref B) = some b) (hd : PySem.W.hasDictIn K B = true) (ht : PySem.W.typeIn K (.ref B) = some (.type "type")) (hne : (Value.ref A == Value.ref B) = false ∨ b = true) : PySem.W.kitOne K (.ref A) (.ref B) = some b := by
  unfold PySem.W.kitOne
  by_cases h : (Value.ref A == Value.ref B) = true
  · rw [if_pos h]
    rcases hne with h2 | h2
    · rw [h] at h2; cases h2
    · rw [h2]
  · rw [if_neg h]
    obtain ⟨cd, hc, _⟩ := PySem.W.any_some hd
    have e : ((PySem.W.clsIn K B).isSome && PySem.W.typeIn K (.ref B) == some (.type "type")) = true := by rw [hc, ht] <;> rfl
    show (if ((PySem.W.clsIn K B).isSome && PySem.W.typeIn K (.ref B) == some (.type "type")) = true then PySem.W.subIn K (.ref A) (.ref B) else none) = some b
    rw [if_pos e]
    exact hs
theorem kit_rt {K : PySem.W.Frag} {A : Addr} {T : String} {b : Bool} (hs : PySem.W.subIn K (.ref A) (.type T) = some b) (hm : PySem.W.kitMeta T = true) : PySem.W.kitOne K (.ref A) (.type T) = some b := by
  unfold PySem.W.kitOne
  have e : (Value.ref A == Value.type T) = false := rfl
  rw [e, if_neg (by decide)]
  show (if PySem.W.kitMeta T = true then PySem.W.subIn K (.ref A) (.type T) else none) = some b
  rw [if_pos hm]
  exact hs
/-- a list as a target's value -/
theorem kgLst {X : Cx} (K : PySem.W.Frag) {es : List Expr} {k : Nat} {t : TGs} {n : Nat} {pos : Pos} (hc : X.calm = true) (h : PGs X es t) (e : X.K = K := by rfl) (hn : (assignEach es X.env).length = n := by rfl)
    (hst : (assignEach es X.env).findIdx? (·.1) = none := by rfl) : PG X (.Tuple es k pos) (gLst K n t) := e ▸ pg_lst hc h hn hst
theorem s_glst {K : PySem.W.Frag} {w : Wd} {a : Addr} {vs : List V} {σ : L2.St} {n : Nat} {t : TGs} {R : L2.St → Hp → Prop} (h : w.S a = some (.lst vs)) (e : vs.length = n) (k : t vs σ w.H R) : gLst K n t (.ref a) σ w.H R := ⟨a, vs, rfl, SqL.of (w.ok _ _ h), e, k⟩
end G

set_option linter.all false
set_option maxRecDepth 100000
namespace G
open PySem L2 TL NumText
/-! numbers plainly written, by their signs -/
def isFig (c : Nat) : Bool := decide (48 ≤ c) && decide (c ≤ 57)
def figsL (l : List Nat) : List Nat := if l.head? = some 45 then l.drop 1 else l
def plainL (l : List Nat) : Bool := decide (1 ≤ (figsL l).length) && (decide ((figsL l).length ≤ 30) && ((figsL l).all isFig && (!decide ((figsL l).head? = some 48) || decide (l = [48]))))
def valL (l : List Nat) : Int := if l.head? = some 45 then -((digitsVal (figsL l) : Nat) : Int) else ((digitsVal (figsL l) : Nat) : Int)
def valO (l : List Nat) : Option Int := if plainL l = true then some (valL l) else none
def inB (lo hi : Int) : Option Int → Option Int
  | some n => if lo ≤ n ∧ n ≤ hi then some n else none
  | none => none
def wholeIn (d : PyData) (lo hi : Int) : Option Int := match d with
  | .str z => inB lo hi (valO (tl z))
  | _ => none
def oV : Option Int → V
  | some n => .int n
  | none => .non
theorem ov_at {a b : Option Int} {Q : VK} {H : Hp} (e : a = b) (k : Q (oV a) H) : Q (oV b) H := e ▸ k
def TxD (d : PyData) : Prop := ∀ z, d = .str z → Tx 1000 z
theorem z_at {z : Str} {i : Nat} {x : V} {c : Nat} (h : (zV z)[i]? = some x) (k : z.cps.toList[i]? = some c) : x = .str ⟨#[c]⟩ := by
  unfold zV at h
  rw [List.getElem?_map, k] at h
  exact (Option.some.inj h).symm
theorem fig_iff {c : Nat} : decide (c ∈ (Str.ofString "0123456789").cps.toList) = isFig c := by
  have e : (Str.ofString "0123456789").cps.toList = [48, 49, 50, 51, 52, 53, 54, 55, 56, 57] := by decide +kernel
  rw [e]
  unfold isFig
  rw [Bool.eq_iff_iff, Bool.and_eq_true, decide_eq_true_eq, decide_eq_true_eq, decide_eq_true_eq]
  simp only [List.mem_cons, List.not_mem_nil, or_false]
  omega
theorem isFig_iff {c : Nat} : isFig c = true ↔ 48 ≤ c ∧ c ≤ 57 := by
  unfold isFig
  rw [Bool.and_eq_true, decide_eq_true_eq, decide_eq_true_eq]
theorem all_fig {l : List Nat} (h : l.all isFig = true) : AllDigits l := fun c hc => isFig_iff.mp (List.all_eq_true.mp h c hc)
theorem dash_iff {z : Str} : cutS z none (some 1) = Str.ofString "-" ↔ (tl z).head? = some 45 := by
  have e : tl (Str.ofString "-") = [45] := by decide +kernel
  rw [str_iff, cutZ_to (by decide), e]
  show (tl z).take 1 = [45] ↔ _
  cases tl z with
  | nil => simp
  | cons c r => simp
theorem nought_iff {c : Nat} : (⟨#[c]⟩ : Str) = Str.ofString "0" ↔ c = 48 := by
  rw [str_iff, tl_one, show tl (Str.ofString "0") = [48] from by decide +kernel]
  simp
theorem noughtZ_iff {z : Str} : z = Str.ofString "0" ↔ tl z = [48] := by rw [str_iff, show tl (Str.ofString "0") = [48] from by decide +kernel]
theorem figsL_y {l : List Nat} (h : l.head? = some 45) : figsL l = l.drop 1 := if_pos h
theorem figsL_n {l : List Nat} (h : ¬ l.head? = some 45) : figsL l = l := if_neg h
theorem digits_snoc {l : List Nat} {c : Nat} : digitsVal (l ++ [c]) = digitsVal l * 10 + (c - 48) := by
  unfold digitsVal
  rw [List.foldl_append]
  rfl
theorem digits_go : ∀ (l : List Nat) (a : Nat), AllDigits l → l.foldl (fun acc c => acc * 10 + (c - 48)) a < (a + 1) * 10 ^ l.length
  | [], a, _ => by simp
  | c :: r, a, h => by
    have h1 := digits_go r (a * 10 + (c - 48)) h.tail
    have h2 := h.head
    rw [List.foldl_cons, List.length_cons, Nat.pow_succ]
    refine Nat.lt_of_lt_of_le h1 ?_
    have h3 : a * 10 + (c - 48) + 1 ≤ (a + 1) * 10 := by omega
    calc (a * 10 + (c - 48) + 1) * 10 ^ r.length ≤ ((a + 1) * 10) * 10 ^ r.length := Nat.mul_le_mul_right _ h3
      _ = (a + 1) * (10 ^ r.length * 10) := by rw [Nat.mul_assoc, Nat.mul_comm 10]
theorem digits_lt {l : List Nat} (h : AllDigits l) : digitsVal l < 10 ^ l.length := by
  have := digits_go l 0 h
  simpa [digitsVal] using this
theorem intText_figs {z : Str} (hd : AllDigits (figsL (tl z))) (h1 : figsL (tl z) ≠ []) (hz : z.length ≤ 4300) : PySem.intText? z = some (valL (tl z)) := by
  by_cases hm : (tl z).head? = some 45
  · have hf := figsL_y hm
    unfold valL
    rw [if_pos hm]
    obtain ⟨r, hr⟩ : ∃ r, tl z = 45 :: r := by
      cases e : tl z with
      | nil => rw [e] at hm; cases hm
      | cons c r => rw [e] at hm; cases hm; exact ⟨r, rfl⟩
    have hf2 : figsL (tl z) = r := by rw [hf, hr]; rfl
    rw [hf2] at h1 hd ⊢
    exact intText_neg hr hd h1 hz
  · have hf := figsL_n hm
    unfold valL
    rw [if_neg hm]
    rw [hf] at h1 hd ⊢
    exact intText_digits hd h1 hz
theorem intText_plain {z : Str} (h : plainL (tl z) = true) : PySem.intText? z = some (valL (tl z)) ∧ z.length ≤ 31 := by
  unfold plainL at h
  simp only [Bool.and_eq_true, decide_eq_true_eq] at h
  obtain ⟨h1, h2, h3, h4⟩ := h
  have el := len_tl z
  have hd := all_fig h3
  by_cases hm : (tl z).head? = some 45
  · have hf := figsL_y hm
    unfold valL
    rw [if_pos hm]
    obtain ⟨r, hr⟩ : ∃ r, tl z = 45 :: r := by
      cases e : tl z with
      | nil => rw [e] at hm; cases hm
      | cons c r => rw [e] at hm; cases hm; exact ⟨r, rfl⟩
    have hf2 : figsL (tl z) = r := by rw [hf, hr]; rfl
    rw [hf2] at h1 h2 hd ⊢
    have hz : z.length ≤ 31 := by rw [el, hr, List.length_cons]; omega
    exact ⟨intText_neg hr hd (by intro e; rw [e] at h1; exact absurd h1 (by decide)) (by omega), hz⟩
  · have hf := figsL_n hm
    unfold valL
    rw [if_neg hm]
    rw [hf] at h1 h2 hd ⊢
    have hz : z.length ≤ 31 := by omega
    exact ⟨intText_digits hd (by intro e; rw [show tl z = [] from e] at h1; exact absurd h1 (by decide)) (by omega), hz⟩
theorem plain_at {l : List Nat} {c : Nat} (h1 : 1 ≤ (figsL l).length) (h2 : (figsL l).length ≤ 30) (h3 : (figsL l).all isFig = true) (h4 : (figsL l)[0]? = some c) : plainL l = (decide (c ≠ 48) || decide (l = [48])) := by
  unfold plainL
  rw [decide_eq_true h1, decide_eq_true h2, h3, Bool.true_and, Bool.true_and, Bool.true_and]
  have e : (figsL l).head? = some c := by rw [← h4]; cases figsL l <;> rfl
  rw [e]
  by_cases hc : c = 48 <;> simp [hc]
theorem val_lt {l : List Nat} {n : Int} (h : valO l = some n) : -(10 ^ 30) < n ∧ n < 10 ^ 30 := by
  unfold valO at h
  by_cases hp : plainL l = true
  · rw [if_pos hp] at h
    cases h
    unfold plainL at hp
    simp only [Bool.and_eq_true, decide_eq_true_eq] at hp
    obtain ⟨h1, h2, h3, h4⟩ := hp
    have h5 := digits_lt (all_fig h3)
    have h6 : 10 ^ (figsL l).length ≤ 10 ^ 30 := Nat.pow_le_pow_right (by decide) h2
    unfold valL
    split <;> omega
  · rw [if_neg hp] at h
    cases h
end G

set_option linter.all false
set_option maxRecDepth 100000
namespace G
open PySem L2
section
variable {K : PySem.W.Frag} {w : Wd} {a b : Addr} {vs xs ys : List V} {Q : VK} {y : V}
theorem s_sortI {ns : List Int} (h : SqL K w.H a (ns.map V.int)) (k : ∀ p v (ns' : List Int), Ext Non w v → w.H p = none → v.S p = some (.lst (ns'.map V.int)) → ns'.Perm ns → ns'.Pairwise (· ≤ ·) → Q (.ref p) v.H) : rSortedI K [.ref a] w.H Q :=
  ⟨a, ns, rfl, h, fun ns' p hp hs hn => newS (Q := Q) (fun p v e n s => k p v ns' e n s hp hs) p hn⟩
theorem s_insN {i : Int} (h : Own w a (.lst vs)) (z : vs.length < sizeLine) (h0 : 0 ≤ i) (h1 : i < 2 ^ 63) (k : ∀ v, Ext (One a) w v → Own v a (.lst (vs.take i.toNat ++ [y] ++ vs.drop i.toNat)) → Q .non v.H) : rIns (.ref a) [.int i, y] w.H Q :=
  ⟨a, vs, i, y, rfl, rfl, h.h, z, h0, h1, put (R := Q .non) h k⟩
theorem ww_zipM : WWalk (Itz K a b) (min xs.length ys.length) (fun w => SqL K w.H a xs ∧ SqL K w.H b ys) (YZ xs ys) :=
  ⟨fun i w h q => ⟨xs, ys, xs[i], ys[i], q.1, q.2, List.getElem?_eq_getElem (by omega), List.getElem?_eq_getElem (by omega)⟩, fun w q => ⟨xs, ys, q.1, q.2, by omega⟩, fun i w x H' h q y => by
    obtain ⟨T, x1, y1, rfl, hT, rfl, h1, h2⟩ := y
    exact yz_of hT (h1 xs q.1) (h2 ys q.2)⟩
theorem s_eqD1 {ks : List (Key × V)} (h : w.H a = some (.dK ks)) (hf : ∀ p ∈ ks, valV ks p.1 = some p.2 ∧ flatB p.2 = true) (k : Q (.bl true) w.H) : gEqU K (.ref a) (.ref a) w.H Q := .inr ⟨a, a, ks, ks, rfl, rfl, h, h, rfl, hf, k⟩
theorem t_dispS {p : Addr} {ps : List (V × V)} (o : Own w p (.dK [])) (kvs kvs' : List (Key × V)) (e : ps = kvs.map (fun kv => (kV kv.1, kv.2))) (e2 : mergeK [] kvs = kvs') (hz : kvs.length ≤ 15) (k : ∀ u, Ext (One p) w u → u.S p = some (.dK kvs') → Q (.ref p) u.H) : mkD Q p ps w.H :=
  t_dispE o kvs kvs' e e2 hz fun u eu ou => lay (R := Q (.ref p)) ou fun v ev sv => k v (eu.trans ev) sv
theorem s_extO {l : Addr} (h : Own w l (.lst vs)) (hb : w.H b = some (.lst xs)) (z : vs.length + xs.length ≤ sizeLine) (k : ∀ v, Ext (One l) w v → Own v l (.lst (vs ++ xs)) → Q .non v.H) : rExtend (.ref l) [.ref b] w.H Q := ⟨l, b, vs, xs, rfl, rfl, h.h, hb, z, put (R := Q .non) h k⟩
end
end G

set_option linter.all false
set_option maxRecDepth 100000
/-! several except clauses, each with a name -/
namespace L2
open PySem PySem.Spec PyProof.Rows
/-- what the named clauses wish of an exception, one behind the other -/
def wNamed (K : PySem.W.Frag) (Wout : WX) (D : Ends) : List (Value × Nat × (Addr → Value → Option Addr → TS)) → WX
  | [] => Wout
  | (c, i, ts) :: r => wAs K c i ts (wNamed K Wout D r) D
inductive Clauses (X : Cx) : List ExceptHandler → List (Value × Nat × (Addr → Value → Option Addr → TS)) → Prop
  | nil : Clauses X [] []
  | cons {x n : Str} {c : Value} {i : Nat} {ts : Addr → Value → Option Addr → TS} {b₀ : Stmt} {suite : List Stmt} {np pos' : Pos} {hds : List ExceptHandler} {l : List (Value × Nat × (Addr → Value → Option Addr → TS))}
      (hi : X.N[i]? = some n) (hln : X.env.kindOf n = some .local) (hc : Names X x c)
      (hsu : ∀ (a : Addr) (oe : Obj) (cls : Value) (d : Option Addr) (pn : List (Addr × Obj)), Zc cls d oe → (∃ vs, oe.data = .fields vs) → PSs (X.suite a ((a, oe) :: pn)) (b₀ :: suite) (ts a cls d)) (r : Clauses X hds l) :
      Clauses X (.ExceptHandler (some (.Name x np)) (some n) (b₀ :: suite) pos' :: hds) ((c, i, ts) :: l)
section
variable {X : Cx} {body : List Stmt} {h₀ : ExceptHandler} {hds : List ExceptHandler} {l : List (Value × Nat × (Addr → Value → Option Addr → TS))} {pos : Pos} {tb : WX → TS} {Wout : WX}
theorem ps_try_named (hs : X.stack = X.env :: X.outer) (hf : X.env.frame = some X.env.locals) (hN : X.N.Nodup) (tk : Takes X Wout)
    (hb : ∀ (W : WX) (pn : List (Addr × Obj)) (xe : Value → Shared → Prop), Takes (X.tr pn xe) W → PassesOwn (model X.prog X.w) X.A X.env xe → PSs (X.tr pn xe) body (tb W))
    (hh : Clauses X (h₀ :: hds) l) : PS X (.Try body (h₀ :: hds) [] [] pos) (fun D σ H => tb (wNamed X.K Wout D l) D σ H) := by
  refine ⟨fun pins s σ H D I h => ?_⟩
  have ok := I.ok
  have hfr : X.A.frames = some (X.env :: X.outer) := by rw [ok.frames, hs]
  refine wpAny_Try_except ?_
  refine wpAny_mono ((hb (wNamed X.K Wout D l) (X.pn ++ pins) (fun e s₁ => wpAny (model X.prog X.w) X.A (noteFrame e X.env) (fun _ s₂ => wpAny (model X.prog X.w) X.A (setFlight e none) (fun _ s₃ =>
    wpAny (model X.prog X.w) X.A (handleBy e X.env (h₀ :: hds)) (SP X pins D) X.xe s₃) X.xe s₂) X.xe s₁) (fun u s' xx => ?_) PassesOwn.looking).run [] s σ H D (I.toTry _) h) (fun f s1 hsp => ?_) (fun e s1 he => he)
  · obtain ⟨a, B, sI, pins', σ', H', cls, d, rfl, J', nb, up, sky, na, os, ag, w⟩ := xx
    have J : Inv X pins σ' H' sI := J'.ofTry ok
    have sky' : Sky B (X.env :: X.outer) a (Zc cls d) X.env.locals s'.heap := by rw [← hs]; exact sky
    show wpAny (model X.prog X.w) X.A (noteFrame (.ref a) X.env) _ _ _
    refine Sky.land Zc.steady hfr hf sky' fun h3 fl3 up3 => ?_
    have J3 : Inv X pins σ' H' { s' with heap := h3 } := J.landed nb fl3.1 (up.trans up3) os ag
    obtain ⟨oe3, vs3, he3, hz3, hd3⟩ := fl3.there
    have nfr : a ∉ frs (X.env :: X.outer) := fun hm => by
      obtain ⟨_, o', e', hnf⟩ := fl3.2.2.1.mem hm
      rw [he3] at e'; cases e'
      exact hnf _ hd3
    have nL : a ≠ X.env.locals := fun z => nfr (List.mem_filterMap.mpr ⟨X.env, List.mem_cons_self, by rw [hf, z]⟩)
    have nF : a ∉ X.fs := fun hm => by
      obtain ⟨e, he, q⟩ := List.mem_filterMap.mp hm
      exact nfr (List.mem_filterMap.mpr ⟨e, List.mem_cons_of_mem _ he, q⟩)
    have S3 := J3.suite he3 hd3 na nL nF
    have go : ∀ {hds' : List ExceptHandler} {l' : List (Value × Nat × (Addr → Value → Option Addr → TS))}, Clauses X hds' l' → wNamed X.K Wout D l' cls d σ' H' →
        wpAny (model X.prog X.w) X.A (handleBy (.ref a) X.env hds') (SP X pins D) X.xe { s' with heap := h3 } := by
      intro hds' l' hk
      induction hk with
      | nil =>
        intro w
        refine wpAny_handleBy_nil ?_
        obtain ⟨k1, k2, k3, oe, vs, T, oT, ts', he, hz, hd, h1, hr⟩ := id fl3
        unfold PySem.passOn
        refine wpAny_bind (wpAny_field he hd h1 ?_)
        rw [if_neg (show ¬ ((Value.ref T == Value.none) = true) from by simp)]
        have fin : wpAny (model X.prog X.w) X.A (setFlight (.ref a) X.env.frame) (fun _ s4 => wpAny (model X.prog X.w) X.A (throw (.ref a) : Sem Flow) (SP X pins D) X.xe s4) X.xe { s' with heap := h3 } := by
          rw [hf]
          refine HandSPX.setFlight_upZ fl3 fun h4 hh4 up4 => wpAny_throw (tk _ _ ?_)
          exact ⟨a, B, sI, pins, σ', H', cls, d, rfl, J, nb, (up.trans up3).trans up4, .inr (.inr (by rw [hs]; exact hh4)), na, os, ag, w⟩
        first
          | exact wpAny_bind (wpAny_pure (wpAny_bind fin))
          | exact wpAny_bind fin
      | @cons x n c i ts b₀ suite np pos' hds2 l2 hi hln hc hsu r ih =>
        intro w
        obtain ⟨b, hb1, hyes, hno⟩ := w
        refine wpAny_handleBy_cons (codeAny_handlers_test ?_) (by intro q; cases q)
        have LT : PySem.W.Looks (model X.prog X.w) h3 (typeOf (.ref a)) cls := fun A Q E s k q => wpAny_typeOf_ref (k _ _ he3) (by rw [hz3.1]; exact q)
        have LM := PySem.W.exm_one (M := model X.prog X.w) (J3.kIn) LT hb1
        have test : ∀ {Q : Value → Shared → Prop} {E : Value → Shared → Prop}, Q c { s' with heap := h3 } → wpAny (model X.prog X.w) (X.A.mark (some (.ref a))) (eval (.Name x np) X.env) Q E { s' with heap := h3 } := fun {Q E} q => by
          obtain ⟨hg, hdbg, hm | ⟨hm, hv, hnn⟩⟩ := hc
          · exact ld_glob (X := X.suite a ((a, oe3) :: (X.pn ++ pins))) S3 hg hm q hdbg
          · exact ld_blt (X := X.suite a ((a, oe3) :: (X.pn ++ pins))) S3 hg hm hv q hnn hdbg
        refine test (LM.here ?_)
        cases b with
        | true =>
          have hloc : Loc X.env.scope n := .inl hln
          refine codeAny_handlers_suite_as ?_
          refine HandSPX.lands_againZ fl3 fun h4 fl4 up4 => ?_
          have J4 : Inv X pins σ' H' { s' with heap := h4 } := J.landed nb fl4.1 ((up.trans up3).trans up4) os ag
          obtain ⟨oe4, vs4, he4, hz4, hd4⟩ := fl4.there
          have S4 := J4.suite he4 hd4 na nL nF
          refine store_ok (X := X.suite a ((a, oe4) :: (X.pn ++ pins))) (v := .ref a) S4 hN hi hloc rfl (fun s5 S5 => ?_) (.inr hln)
          refine wpAny_mono ((hsu a oe4 cls d (X.pn ++ pins) hz4 ⟨_, hd4⟩).run [] s5 _ H' _ S5 (hyes rfl a na)) (fun f s6 hsp => ?_) (fun _ _ z => False.elim z)
          have fin : ∀ {σ6 : St} {H6 : Hp} {Q : Shared → Prop}, Inv (X.suite a ((a, oe4) :: (X.pn ++ pins))) [] σ6 H6 s6 → (∀ s7, Inv X pins (σ6.set i none) H6 s7 → Q s7) →
              wpAny (model X.prog X.w) X.A (do bindName X.env n .none; unbindBehindTheSuite X.env n pos') (fun _ s7 => Q s7) X.xe s6 := fun {σ6 H6 Q} S6 hq => gone_ok (S6.unsuite ok) hN hi hln hq
          cases f with
          | next =>
            obtain ⟨σ6, H6, S6, q6⟩ := hsp
            exact fin S6 fun s7 J7 => ⟨_, _, J7, q6⟩
          | brk =>
            obtain ⟨σ6, H6, S6, q6⟩ := hsp
            exact fin S6 fun s7 J7 => ⟨_, _, J7, q6⟩
          | cont =>
            obtain ⟨σ6, H6, S6, q6⟩ := hsp
            exact fin S6 fun s7 J7 => ⟨_, _, J7, q6⟩
          | ret u =>
            obtain ⟨v6, σ6, H6, S6, r6, q6⟩ := hsp
            exact fin S6 fun s7 J7 => ⟨_, _, _, J7, r6, q6⟩
        | false =>
          show wpAny _ X.A (handleBy (.ref a) X.env hds2) _ _ _
          exact ih (hno rfl)
    exact go hh w
  · cases f with
    | next =>
      obtain ⟨σ', H', J', q⟩ := hsp
      exact wpAny_execs_nil ⟨σ', H', J'.ofTry ok, q⟩
    | brk =>
      obtain ⟨σ', H', J', q⟩ := hsp
      exact ⟨σ', H', J'.ofTry ok, q⟩
    | cont =>
      obtain ⟨σ', H', J', q⟩ := hsp
      exact ⟨σ', H', J'.ofTry ok, q⟩
    | ret u =>
      obtain ⟨v, σ', H', J', r, q⟩ := hsp
      exact ⟨v, σ', H', J'.ofTry ok, r, q⟩
end
end L2
namespace G
open PySem L2
section
variable {K : PySem.W.Frag} {cls : Value} {d : Option Addr} {D : Ends} {σ : L2.St} {H : Hp}
theorem s_wNot {c : Value} {i : Nat} {ts : Addr → Value → Option Addr → TS} {Wout : WX} (e : PySem.W.exmOne K cls c = some false) (k : Wout cls d σ H) : wAs K c i ts Wout D cls d σ H := ⟨false, e, (fun z => by cases z), fun _ => k⟩
theorem s_wN {c : Value} {i : Nat} {ts : Addr → Value → Option Addr → TS} {r : List (Value × Nat × (Addr → Value → Option Addr → TS))} {Wout : WX} (k : wAs K c i ts (wNamed K Wout D r) D cls d σ H) : wNamed K Wout D ((c, i, ts) :: r) cls d σ H := k
end
end G

set_option linter.all false
set_option maxRecDepth 100000
namespace SU
open PySem PySem.SetTable
/-! the table of a set, laid anew: there is always room -/
def posn (mask : Nat) : Nat → Nat → Nat → Nat
  | 0, i, _ => i
  | t + 1, i, p => posn mask t (leap mask i p).1 (leap mask i p).2
theorem free_none {mask : Nat} {owner : Array (Option Nat)} : ∀ (f i p : Nat), layClean.free mask owner f i p = none → ∀ t, t < f → (owner.getD (posn mask t i p) (some 0)).isNone = false
  | 0, _, _, _, t, ht => absurd ht (Nat.not_lt_zero _)
  | f + 1, i, p, h, t, ht => by
    unfold layClean.free at h
    cases hq : (List.range (runEnd mask i + 1 - i)).find? fun k => (owner.getD (i + k) (some 0)).isNone with
    | some k => rw [hq] at h; cases h
    | none =>
      rw [hq] at h
      cases t with
      | zero =>
        have h1 : ¬ (owner.getD (i + 0) (some 0)).isNone = true := List.find?_eq_none.mp hq 0 (by
          rw [List.mem_range]
          unfold runEnd
          split <;> omega)
        rw [Nat.add_zero] at h1
        exact Bool.eq_false_iff.mpr h1
      | succ t => exact free_none f _ _ h t (by omega)
theorem posn_lt {mask : Nat} : ∀ (t i p : Nat), i ≤ mask → posn mask t i p ≤ mask
  | 0, _, _, h => h
  | t + 1, i, p, h => posn_lt t _ _ (by
    show (i * 5 + 1 + p / 32) % (mask + 1) ≤ mask
    have := Nat.mod_lt (i * 5 + 1 + p / 32) (y := mask + 1) (by omega)
    omega)
theorem posn_add {mask : Nat} : ∀ (s t i p : Nat), posn mask (s + t) i p = posn mask t (posn mask s i p) (p / 32 ^ s)
  | 0, t, i, p => by rw [Nat.zero_add, Nat.pow_zero, Nat.div_one]; rfl
  | s + 1, t, i, p => by
    rw [show s + 1 + t = (s + t) + 1 by omega]
    show posn mask (s + t) (leap mask i p).1 (leap mask i p).2 = posn mask t (posn mask s (leap mask i p).1 (leap mask i p).2) _
    rw [posn_add s t, show (leap mask i p).2 = p / 32 from rfl, Nat.div_div_eq_div_mul, Nat.pow_succ, Nat.mul_comm]
def orbit (mask : Nat) : Nat → Nat → List Nat
  | 0, _ => []
  | t + 1, i => i :: orbit mask t ((i * 5 + 1) % (mask + 1))
theorem orbit_posn {mask : Nat} : ∀ (t i j : Nat), j ∈ orbit mask t i → ∃ u, u < t ∧ posn mask u i 0 = j
  | 0, _, _, h => by cases h
  | t + 1, i, j, h => by
    rcases List.mem_cons.mp h with rfl | h
    · exact ⟨0, by omega, rfl⟩
    · obtain ⟨u, hu, e⟩ := orbit_posn t _ j h
      exact ⟨u + 1, by omega, e⟩
def Cyc (mask : Nat) : Prop := (∀ j, j < mask + 1 → j ∈ orbit mask (mask + 1) 0) ∧ posn mask (mask + 1) 0 0 = 0
instance (mask : Nat) : Decidable (Cyc mask) := by unfold Cyc; infer_instance
theorem cyc7 : Cyc 7 := by decide +kernel
theorem cyc15 : Cyc 15 := by decide +kernel
theorem cyc31 : Cyc 31 := by decide +kernel
theorem cyc63 : Cyc 63 := by decide +kernel
theorem cyc127 : Cyc 127 := by decide +kernel
theorem cyc255 : Cyc 255 := by decide +kernel
theorem above_cyc {w : Nat} (h : w < 256) : Cyc (sizeAbove w - 1) ∧ w ≤ sizeAbove w - 1 ∧ sizeAbove w ≤ 256 := by
  have key : ∀ w, w < 256 → w ≤ sizeAbove w - 1 ∧ (sizeAbove w = 8 ∨ sizeAbove w = 16 ∨ sizeAbove w = 32 ∨ sizeAbove w = 64 ∨ sizeAbove w = 128 ∨ sizeAbove w = 256) := by decide +kernel
  obtain ⟨h1, h2⟩ := key w h
  refine ⟨?_, h1, by omega⟩
  rcases h2 with e | e | e | e | e | e <;> rw [e]
  · exact cyc7
  · exact cyc15
  · exact cyc31
  · exact cyc63
  · exact cyc127
  · exact cyc255
theorem cyc_reach {mask i j : Nat} (c : Cyc mask) (hi : i ≤ mask) (hj : j ≤ mask) : ∃ u, u ≤ mask ∧ posn mask u i 0 = j := by
  obtain ⟨a, ha, ea⟩ := orbit_posn _ _ _ (c.1 i (by omega))
  obtain ⟨b, hb, eb⟩ := orbit_posn _ _ _ (c.1 j (by omega))
  have z : ∀ s, (0 : Nat) / 32 ^ s = 0 := fun s => Nat.zero_div _
  by_cases h : a ≤ b
  · refine ⟨b - a, by omega, ?_⟩
    have e := posn_add (mask := mask) a (b - a) 0 0
    rw [z, ea, show a + (b - a) = b by omega, eb] at e
    exact e.symm
  · refine ⟨mask + 1 - a + b, by omega, ?_⟩
    have e := posn_add (mask := mask) a (mask + 1 - a + b) 0 0
    have e2 := posn_add (mask := mask) (mask + 1) b 0 0
    rw [z, c.2, eb] at e2
    rw [z, ea, show a + (mask + 1 - a + b) = mask + 1 + b by omega, e2] at e
    exact e.symm
theorem free_some {mask i p j : Nat} {owner : Array (Option Nat)} (c : Cyc mask) (hi : i ≤ mask) (hp : p < 2 ^ 64) (hj : j ≤ mask) (ho : owner.getD j (some 0) = none) : ∃ k, layClean.free mask owner (turns mask) i p = some k := by
  cases h : layClean.free mask owner (turns mask) i p with
  | some k => exact ⟨k, rfl⟩
  | none =>
    exfalso
    obtain ⟨u, hu, e⟩ := cyc_reach c (posn_lt 13 i p hi) hj
    have e2 := posn_add (mask := mask) 13 u i p
    have hlt : (2:Nat) ^ 64 < 32 ^ 13 := by decide
    rw [show p / 32 ^ 13 = 0 from Nat.div_eq_of_lt (Nat.lt_trans hp hlt), e] at e2
    have := free_none _ _ _ h (13 + u) (by unfold turns; omega)
    rw [e2, ho] at this
    cases this
theorem free_at {mask : Nat} {owner : Array (Option Nat)} : ∀ (f i p k : Nat), layClean.free mask owner f i p = some k → owner.getD k (some 0) = none
  | 0, _, _, _, h => by cases h
  | f + 1, i, p, k, h => by
    unfold layClean.free at h
    cases hq : (List.range (runEnd mask i + 1 - i)).find? fun k => (owner.getD (i + k) (some 0)).isNone with
    | some q =>
      rw [hq] at h
      cases h
      have := List.find?_some hq
      simpa using this
    | none =>
      rw [hq] at h
      exact free_at f _ _ k h
theorem fs {x : Nat} {l : List (Option Nat)} : (some x :: l).filterMap id = x :: l.filterMap id := rfl
theorem fn {l : List (Option Nat)} : (none :: l).filterMap id = l.filterMap id := rfl
theorem all_some : ∀ (l : List (Option Nat)), (∀ x ∈ l, x ≠ none) → (l.filterMap id).length = l.length
  | [], _ => rfl
  | none :: l, h => absurd rfl (h none (by simp))
  | some x :: l, h => by
    rw [fs, List.length_cons, List.length_cons, all_some l fun y hy => h y (List.mem_cons_of_mem _ hy)]
theorem set_perm {k : Nat} : ∀ (l : List (Option Nat)) (j : Nat), l[j]? = some none → ((l.set j (some k)).filterMap id).Perm (k :: l.filterMap id)
  | [], j, h => by simp at h
  | x :: l, 0, h => by
    have : x = none := by simpa using h
    subst this
    show ((some k :: l).filterMap id).Perm _
    rw [fs, fn]
  | none :: l, j + 1, h => by
    have := set_perm (k := k) l j (by simpa using h)
    show ((none :: l.set j (some k)).filterMap id).Perm _
    rw [fn, fn]
    exact this
  | some x :: l, j + 1, h => by
    have := set_perm (k := k) l j (by simpa using h)
    show ((some x :: l.set j (some k)).filterMap id).Perm _
    rw [fs, fs]
    exact (this.cons x).trans (List.Perm.swap _ _ _)
def Lay (mask : Nat) (q : Array (Option Nat) × Nat) : Prop := q.1.size = mask + 1 ∧ (q.1.toList.filterMap id).Perm (List.range q.2)
theorem bits_lt (h : Int) : bits h < 2 ^ 64 := by
  unfold bits
  have h1 := Int.emod_nonneg h (b := 2 ^ 64) (by decide)
  have h2 := Int.emod_lt_of_pos h (b := 2 ^ 64) (by decide)
  omega
theorem lay_step {mask : Nat} (c : Cyc mask) {q : Array (Option Nat) × Nat} (L : Lay mask q) (hk : q.2 ≤ mask) (h : Int) : ∃ j, layClean.free mask q.1 (turns mask) (bits h % (mask + 1)) (bits h) = some j ∧ Lay mask (q.1.setIfInBounds j (some q.2), q.2 + 1) := by
  obtain ⟨o, k⟩ := q
  obtain ⟨L1, L2⟩ := L
  dsimp only at L1 L2 hk ⊢
  have hex : ∃ j, j ≤ mask ∧ o.getD j (some 0) = none := by
    apply Classical.byContradiction
    intro hn
    have h1 : ∀ x ∈ o.toList, x ≠ none := by
      intro x hx e
      subst e
      obtain ⟨j, hj, ej⟩ := List.getElem_of_mem hx
      rw [Array.length_toList] at hj
      refine hn ⟨j, by omega, ?_⟩
      have : o[j]? = some none := by rw [← Array.getElem?_toList, List.getElem?_eq_getElem (by simpa using hj), ej]
      rw [Array.getD_eq_getD_getElem?, this]
      rfl
    have h2 := all_some _ h1
    rw [L2.length_eq, List.length_range, Array.length_toList] at h2
    omega
  obtain ⟨j0, hj0, e0⟩ := hex
  obtain ⟨j, hj⟩ := free_some c (i := bits h % (mask + 1)) (by have := Nat.mod_lt (bits h) (y := mask + 1) (by omega); omega) (bits_lt h) hj0 e0
  refine ⟨j, hj, by rw [Array.size_setIfInBounds]; exact L1, ?_⟩
  have hn := free_at _ _ _ _ hj
  have hl : o.toList[j]? = some none := by
    rw [Array.getElem?_toList]
    rw [Array.getD_eq_getD_getElem?] at hn
    cases hq : o[j]? with
    | none => rw [hq] at hn; cases hn
    | some x => rw [hq] at hn; cases hn; rfl
  rw [Array.toList_setIfInBounds, List.range_succ]
  exact (set_perm _ _ hl).trans ((L2.cons k).trans (List.perm_append_singleton _ _).symm)
theorem layClean_ok {mask : Nat} (c : Cyc mask) (hs : Array Int) (hl : hs.size ≤ mask) : ∃ o, layClean mask hs = some o ∧ o.size = mask + 1 ∧ (o.toList.filterMap id).Perm (List.range hs.size) := by
  have key : ∀ (l : List Int) (q : Array (Option Nat) × Nat), Lay mask q → q.2 + l.length ≤ mask + 1 → ∃ q', l.foldl (fun (acc : Option (Array (Option Nat) × Nat)) h => do
      let (owner, k) ← acc
      let j ← layClean.free mask owner (turns mask) (bits h % (mask + 1)) (bits h)
      pure (owner.setIfInBounds j (some k), k + 1)) (some q) = some q' ∧ Lay mask q' ∧ q'.2 = q.2 + l.length := by
    intro l
    induction l with
    | nil => exact fun q L _ => ⟨q, rfl, L, rfl⟩
    | cons h l ih =>
      intro q L hq
      rw [List.length_cons] at hq
      obtain ⟨j, hj, L'⟩ := lay_step c L (by omega) h
      obtain ⟨q', e, L2, e2⟩ := ih (q.1.setIfInBounds j (some q.2), q.2 + 1) L' (by dsimp only; omega)
      refine ⟨q', ?_, L2, by rw [e2, List.length_cons]; dsimp only; omega⟩
      rw [List.foldl_cons, ← e]
      congr 1
      show (layClean.free mask q.1 (turns mask) (bits h % (mask + 1)) (bits h) >>= fun j => pure (q.1.setIfInBounds j (some q.2), q.2 + 1)) = _
      rw [hj]
      rfl
  obtain ⟨q', e, L, e2⟩ := key hs.toList (Array.replicate (mask + 1) none, 0) ⟨by simp, by simp [List.filterMap_replicate_of_none]⟩ (by simp; omega)
  refine ⟨q'.1, ?_, L.1, ?_⟩
  · unfold layClean
    rw [← Array.foldl_toList, e]
    rfl
  · have := L.2
    rw [e2] at this
    simpa using this
theorem laid_ok {mask finger moves : Nat} {led plain : Bool} (c : Cyc mask) (hs : Array Int) (hl : hs.size ≤ mask) : ∃ t order, laid mask finger moves led plain hs = some (t, order) ∧ order.toList.Perm (List.range hs.size) ∧ t.place.size = hs.size ∧ t.dummies = #[] ∧ t.mask = mask ∧ t.led = led ∧ L2.Ris t.place.toList := by
  obtain ⟨o, ho, hz, pm⟩ := layClean_ok c hs hl
  have hlist : o.toList = (List.range (mask + 1)).map (fun j => o.getD j none) := by
    apply List.ext_getElem
    · simp [hz]
    · intro i h1 h2
      simp only [List.getElem_map, List.getElem_range, Array.getElem_toList]
      rw [Array.length_toList] at h1
      simp [Array.getD, h1]
  have hmap : ((List.range (mask + 1)).filterMap fun j => (o.getD j none).map (j, ·)).map (·.2) = o.toList.filterMap id := by
    rw [hlist, List.filterMap_map, List.map_filterMap]
    congr 1
    funext j
    show ((o.getD j none).map (j, ·)).map (·.2) = o.getD j none
    cases o.getD j none <;> rfl
  refine ⟨_, _, by unfold laid; rw [ho]; rfl, ?_, ?_, rfl, rfl, rfl, ?_⟩
  · rw [List.toList_toArray, hmap]
    exact pm
  · dsimp only
    rw [List.size_toArray, List.length_map]
    have := pm.length_eq
    rw [← hmap, List.length_map, List.length_range] at this
    exact this
  · refine (L2.ris_live (fun j => o.getD j none) (List.range (mask + 1)) ?_).1
    unfold L2.Ris
    first | exact List.pairwise_lt_range | exact List.pairwise_lt_range _
end SU

set_option linter.all false
set_option maxRecDepth 100000
namespace SU
open PySem PySem.Spec PyProof.Rows L2
/-- the set at a -/
def At (h : Heap) (a : Addr) (es : Array (Int × Value)) (ep : Nat) (t : SetTable) : Prop := ∃ o, h.get? a = some o ∧ o.ExactSet ∧ o.data = .set es ep t
theorem At.go {h h' : Heap} {a : Addr} {es : Array (Int × Value)} {ep : Nat} {t : SetTable} (x : At h a es ep t) (k : ∀ o, h.get? a = some o → h'.get? a = some o) : At h' a es ep t := by
  obtain ⟨o, ho, r⟩ := x
  exact ⟨o, k o ho, r⟩
/-- its entries and its table -/
structure Pur (w : World) (es : Array (Int × Value)) (t : SetTable) (S : Int → Bool) (n : Nat) : Prop where
  g : ∀ e ∈ es.toList, GoodE e
  nd : (es.toList.map keyOf).Nodup
  m : ∀ k, S k = true ↔ k ∈ es.toList.map keyOf
  b : es.size < scanBound
  f : t.fits es.size = true
  n : es.size = n
  r : Ris t.place.toList
  l : w.params.followText "set-order" = true ∨ t.led = true
theorem setR_of {w : World} {h : Heap} {a : Addr} {es : Array (Int × Value)} {ep : Nat} {t : SetTable} {S : Int → Bool} {n : Nat} (x : At h a es ep t) (p : Pur w es t S n) : SetR w h a S n := by
  obtain ⟨o, ho, hx, hd⟩ := x
  exact ⟨o, es, ep, t, ho, hx, hd, p.g, p.nd, p.m, p.b, p.f, p.n, p.r, p.l⟩
theorem setR_at {w : World} {h : Heap} {a : Addr} {S : Int → Bool} {n : Nat} (R : SetR w h a S n) : ∃ es ep t, At h a es ep t ∧ Pur w es t S n := by
  obtain ⟨o, es, ep, t, ho, hx, hd, g, nd, m, b, f, n, r, l⟩ := R
  exact ⟨es, ep, t, ⟨o, ho, hx, hd⟩, ⟨g, nd, m, b, f, n, r, l⟩⟩
theorem Pur.perm {w : World} {es es' : Array (Int × Value)} {t t' : SetTable} {S : Int → Bool} {n : Nat} (p : Pur w es t S n) (pm : es'.toList.Perm es.toList) (f : t'.fits es'.size = true) (r : Ris t'.place.toList) (l : w.params.followText "set-order" = true ∨ t'.led = true) : Pur w es' t' S n := by
  have hz : es'.size = es.size := by rw [← Array.length_toList, pm.length_eq, Array.length_toList]
  exact ⟨fun e he => p.g e (pm.mem_iff.mp he), (pm.map keyOf).nodup_iff.mpr p.nd, fun k => (p.m k).trans (pm.map keyOf).mem_iff.symm, by rw [hz]; exact p.b, f, by rw [hz]; exact p.n, r, l⟩
section
variable {P : Program} {w : World} {A : Around} {E : Value → Shared → Prop} {s : Shared} {a : Addr} {S : Int → Bool} {n : Nat} {es : Array (Int × Value)} {ep : Nat} {t : SetTable}
theorem wp_state {Q : (Array (Int × Value) × Nat × SetTable) → Shared → Prop} (x : At s.heap a es ep t) (p : Pur w es t S n) (h : Q (es, ep, t) s) : wpAny (model P w) A (setState a) Q E s := by
  obtain ⟨o, ho, hx, hd⟩ := x
  exact wpAny_setState_of ho hd p.f h
theorem wp_store {es' : Array (Int × Value)} {t' : SetTable} {Q : Unit → Shared → Prop} (x : At s.heap a es ep t) (hb : es'.size < scanBound)
    (h : ∀ h', Heap.SameBut a s.heap h' → At h' a es' (ep + 1) t' → Q () { s with heap := h' }) : wpAny (model P w) A (storeSet a es' t') Q E s := by
  obtain ⟨o, ho, hx, hd⟩ := x
  exact wpAny_storeSet_of ho hd (h _ (Heap.SameBut.update _ _ _) ⟨_, store_at ho hd, hx, rfl⟩) (fits_of_scanBound hb)
theorem order_perm {order : Array Nat} (es : Array (Int × Value)) (h : order.toList.Perm (List.range es.size)) : (order.filterMap (es[·]?)).toList.Perm es.toList := by
  rw [Array.toList_filterMap]
  exact (h.filterMap _).trans (by rw [filterMap_getElem?_range])
theorem wp_relay {wanted : Nat} (hw : wanted < 256) (hn : n ≤ wanted) (x : At s.heap a es ep t) (p : Pur w es t S n) {Q : Unit → Shared → Prop}
    (hQ : ∀ h' es' t', Heap.SameBut a s.heap h' → At h' a es' (ep + 1) t' → Pur w es' t' S n → t'.dummies = #[] → t'.mask = SetTable.sizeAbove wanted - 1 → Q () { s with heap := h' }) :
    wpAny (model P w) A (setRelay a wanted) Q E s := by
  obtain ⟨hc, hwa, h256⟩ := above_cyc hw
  obtain ⟨t', order, hl, pm, hz, hd, hm, hled, hr⟩ := laid_ok (finger := t.finger) (moves := t.movedTo (SetTable.sizeAbove wanted - 1)) (led := t.led) (plain := t.plain) hc (es.map (·.1)) (by rw [Array.size_map, p.n]; omega)
  rw [Array.size_map] at pm hz
  have po := order_perm es pm
  have hz2 : (order.filterMap (es[·]?)).size = es.size := by rw [← Array.length_toList, po.length_eq, Array.length_toList]
  unfold setRelay
  refine wpAny_bind (wp_state x p ?_)
  dsimp only
  rw [if_neg (by rw [sizeLine_eq]; omega)]
  rw [show t.relaid (es.map (·.1)) wanted = some (t', order) from hl]
  refine wpAny_bind ?_
  show wpAny _ _ (if (order.filterMap (es[·]?)).size != es.size then _ else pure (order.filterMap (es[·]?), t')) _ _ _
  rw [if_neg (by simp [hz2])]
  refine wpAny_pure ?_
  refine wp_store x (by rw [hz2]; exact p.b) fun h' sb x' => hQ h' _ _ sb x' (p.perm po ?_ hr (p.l.imp id fun z => by rw [hled]; exact z)) hd hm
  show (t'.place.size == _ && decide (t'.fill ≤ t'.mask)) = true
  unfold SetTable.fill
  rw [hz2, hz, hd, hm]
  have := p.n
  simp
  omega
end
end SU

set_option linter.all false
set_option maxRecDepth 100000
namespace SU
open PySem PySem.Spec PyProof.Rows L2
section
variable {P : Program} {w : World} {A : Around} {E : Value → Shared → Prop} {s : Shared} {a b : Addr} {S T : Int → Bool} {n m : Nat} {es eo : Array (Int × Value)} {ep eq : Nat} {t to : SetTable}
theorem wp_room {more : Nat} (hw : (n + more) * 2 < 256) (x : At s.heap a es ep t) (p : Pur w es t S n) {Q : Unit → Shared → Prop}
    (hQ : ∀ h' es' ep' t', Heap.SameBut a s.heap h' → At h' a es' ep' t' → Pur w es' t' S n → (t.dummies = #[] → t'.dummies = #[]) → (Cyc t.mask → Cyc t'.mask) → n + more ≤ t'.mask → Q () { s with heap := h' }) :
    wpAny (model P w) A (setRoomFor a more) Q E s := by
  have hps : t.place.size = n := by
    have := p.f
    simp only [SetTable.fits, Bool.and_eq_true, beq_iff_eq] at this
    rw [this.1, p.n]
  unfold setRoomFor
  refine wpAny_bind (wp_state x p ?_)
  dsimp only
  unfold SetTable.roomFor
  by_cases c : (t.fill + more) * 5 ≥ t.mask * 3
  · rw [if_pos c]
    dsimp only
    rw [hps]
    refine wp_relay hw (by omega) x p fun h' es' t' sb x' p' hd hm => ?_
    obtain ⟨hc, hwa, _⟩ := above_cyc hw
    exact hQ h' es' _ t' sb x' p' (fun _ => hd) (fun _ => by rw [hm]; exact hc) (by rw [hm]; omega)
  · rw [if_neg c]
    dsimp only
    refine wpAny_pure (hQ s.heap es ep t (Heap.SameBut.refl _ _) x p id id ?_)
    have hf : t.fill = t.place.size + t.dummies.size := rfl
    omega
/-- an empty set filled with another -/
theorem wp_fill {each : Sem Unit} (hab : a ≠ b) (hT : 0 < m) (hm : m < 128) (xa : At s.heap a es ep t) (pa : Pur w es t (fun _ => false) 0) (hd : t.dummies = #[]) (hc : Cyc t.mask) (xb : At s.heap b eo eq to) (pb : Pur w eo to T m) {Q : Unit → Shared → Prop}
    (hQ : ∀ h', Heap.SameBut a s.heap h' → SetR w h' a T m → Q () { s with heap := h' }) :
    wpAny (model P w) A (setMerge a b each) Q E s := by
  unfold setMerge
  rw [if_neg (by simp [hab])]
  refine wpAny_bind (wp_state xb pb ?_)
  dsimp only
  have hne : eo.isEmpty = false := by
    have := pb.n
    rw [Array.isEmpty_eq_false_iff_exists_mem]
    exact ⟨eo[0]'(by omega), by simp⟩
  rw [if_neg (by simp [hne])]
  rw [pb.n]
  refine wpAny_bind (wp_room (by omega) xa pa fun h1 es1 ep1 t1 sb1 x1 p1 hd1 hc1 hm1 => ?_)
  have hd1 := hd1 hd
  have hc1 := hc1 hc
  refine wpAny_bind (wp_state x1 p1 ?_)
  dsimp only
  have hps : t1.place.size = 0 := by
    have := p1.f
    simp only [SetTable.fits, Bool.and_eq_true, beq_iff_eq] at this
    rw [this.1, p1.n]
  have hfill : t1.fill = 0 := by
    show t1.place.size + t1.dummies.size = 0
    rw [hps, hd1]
    rfl
  have hled : w.params.followText "set-order" = true ∨ (t1.led && to.led) = true := by
    rcases p1.l with z | z
    · exact .inl z
    · rcases pb.l with z2 | z2
      · exact .inl z2
      · exact .inr (by rw [z, z2]; rfl)
  unfold SetTable.road
  rw [if_neg (by simp [hfill])]
  by_cases c : (t1.mask == to.mask && to.dummies.isEmpty) = true
  · rw [if_pos c]
    dsimp only
    refine wp_store x1 pb.b fun h' sb x' => hQ h' (sb1.trans sb) (setR_of x' (pb.perm (List.Perm.refl _) ?_ pb.r hled))
    exact pb.f
  · rw [if_neg c]
    dsimp only
    obtain ⟨t', order, hl, pm, hz, hd', hm', hled', hr⟩ := laid_ok (finger := t1.finger) (moves := t1.moves) (led := t1.led && to.led) (plain := t1.plain && to.plain) hc1 (eo.map (·.1)) (by rw [Array.size_map, pb.n]; omega)
    rw [Array.size_map] at pm hz
    have po := order_perm eo pm
    have hz2 : (order.filterMap (eo[·]?)).size = eo.size := by rw [← Array.length_toList, po.length_eq, Array.length_toList]
    rw [hl]
    refine wpAny_bind ?_
    show wpAny _ _ (if (order.filterMap (eo[·]?)).size != eo.size then _ else pure (order.filterMap (eo[·]?), t')) _ _ _
    rw [if_neg (by simp [hz2])]
    refine wpAny_pure ?_
    refine wp_store x1 (by rw [hz2]; exact pb.b) fun h' sb x' => hQ h' (sb1.trans sb) (setR_of x' (pb.perm po ?_ hr (by rw [hled']; exact hled)))
    show (t'.place.size == _ && decide (t'.fill ≤ t'.mask)) = true
    unfold SetTable.fill
    rw [hz2, hz, hd', hm']
    have := pb.n
    simp
    omega
/-- the walk of a set, unseen -/
theorem wp_walk_of (xb : At s.heap b eo eq to) (pb : Pur w eo to T m) {Q : Array (Int × Value) → Shared → Prop}
    (hQ : ∀ (ws : Array (Int × Value)) d, ws.toList.Perm eo.toList → Q ws { s with drawn := d }) : wpAny (model P w) A (setWalk b) Q E s := by
  unfold setWalk
  refine wpAny_bind (wp_state xb pb ?_)
  dsimp only
  refine wpAny_bind (wpAny_byText ?_)
  by_cases c : w.params.followText "set-order" = true
  · rw [if_pos c]
    refine wpAny_bind (wpAny_askSetting (wpAny_pure ?_))
    exact hQ _ s.drawn (pick_perm _ _)
  · rw [if_neg c]
    have hled : to.led = true := pb.l.resolve_left c
    split
    · refine wpAny_bind (drawOrder_at _ _ _ _ (by simp) fun ys d pm => wpAny_pure ?_)
      exact hQ _ d (by simpa using pm)
    · refine wpAny_bind ?_
      show wpAny _ _ (if (!to.led && decide (eo.size > 1)) = true then _ else pure ()) _ _ _
      rw [if_neg (by simp [hled])]
      exact wpAny_pure (wpAny_pure (hQ eo s.drawn (List.Perm.refl _)))
theorem wp_quiet : ∀ (l : List Addr) (u : Shared), (∀ c ∈ l, ∃ es ep t U k, At u.heap c es ep t ∧ Pur w es t U k) → ∀ {Q : Bool → Shared → Prop}, Q true u → wpAny (model P w) A (setsQuiet l) Q E u := by
  intro l u hl Q hQ
  unfold setsQuiet
  refine wpAny_bind (wpAny_forIn_list _ (fun rest bb s' => bb = (none, ()) ∧ s' = u ∧ ∀ c ∈ rest, c ∈ l) _ ?_ ?_ _ _ ⟨rfl, rfl, fun _ h => h⟩)
  · rintro c rest bb s' ⟨rfl, rfl, hmem⟩
    obtain ⟨es, ep, t, U, k, x, p⟩ := hl c (hmem c List.mem_cons_self)
    unfold setEntries
    refine wpAny_bind (wpAny_bind (wp_state x p (wpAny_pure ?_)))
    dsimp only
    refine wpAny_bind (MeetsSeq2.wpAny_forIn_array _ (fun rest bb s2 => bb = (none, ()) ∧ s2 = s' ∧ ∀ e ∈ rest, e ∈ es.toList) _ ?_ ?_ _ _ ⟨rfl, rfl, fun _ h => h⟩)
    · rintro ⟨hh, y⟩ rest2 bb s2 ⟨rfl, rfl, hm2⟩
      obtain ⟨k, tk, e1, _⟩ := p.g _ (hm2 _ List.mem_cons_self)
      dsimp only at e1
      subst e1
      exact wpAny_pure ⟨rfl, rfl, fun e he => hm2 e (List.mem_cons_of_mem _ he)⟩
    · rintro bb s2 ⟨rfl, rfl, _⟩
      exact wpAny_pure ⟨rfl, rfl, fun c hc => hmem c (List.mem_cons_of_mem _ hc)⟩
  · rintro bb s' ⟨rfl, rfl, _⟩
    exact wpAny_pure hQ
theorem wp_unseen (hab : a ≠ b) (xa : At s.heap a es ep t) (pa : Pur w es t S n) (xb : At s.heap b eo eq to) (pb : Pur w eo to T m) {Q : Array (Int × Value) → Shared → Prop}
    (hQ : ∀ (ws : Array (Int × Value)) h' es' ep' t' d, Heap.SameBut a s.heap h' → At h' a es' ep' t' → Pur w es' t' S n → ws.toList.Perm eo.toList → Q ws { s with heap := h', drawn := d }) : wpAny (model P w) A (setWalkUnseen b [a] (some a)) Q E s := by
  unfold setWalkUnseen
  refine wpAny_bind (wp_state xb pb ?_)
  dsimp only
  refine wpAny_bind (wpAny_byText ?_)
  split
  · exact wp_walk_of xb pb fun ws d pm => hQ ws s.heap es ep t d (Heap.SameBut.refl _ _) xa pa pm
  · rename_i c
    refine wpAny_bind (wp_quiet _ _ (fun c hc => ?_) ?_)
    · rcases List.mem_cons.mp hc with rfl | hc
      · exact ⟨_, _, _, _, _, xb, pb⟩
      · rw [List.mem_singleton.mp hc]
        exact ⟨_, _, _, _, _, xa, pa⟩
    rw [if_neg (by decide)]
    refine wpAny_bind (wpAny_rule ?_)
    refine wpAny_bind (wp_state xa pa ?_)
    dsimp only
    have hled : w.params.followText "set-order" = true ∨ (t.led && to.led) = true := by
      rcases pa.l with z | z
      · exact .inl z
      · rcases pb.l with z2 | z2
        · exact .inl z2
        · exact .inr (by rw [z, z2]; rfl)
    split
    · refine wpAny_bind (wp_store xa pa.b fun h' sb x' => wpAny_pure ?_)
      exact hQ eo h' _ _ _ s.drawn sb x' (pa.perm (List.Perm.refl _) pa.f pa.r hled) (List.Perm.refl _)
    · exact wpAny_pure (hQ eo s.heap _ _ _ s.drawn (Heap.SameBut.refl _ _) xa pa (List.Perm.refl _))
/-- a set with members, another merged into it -/
theorem wp_merge {each : Sem Unit} (hab : a ≠ b) (hn : 0 < n) (hT : 0 < m) (hm : n + m < 128) (xa : At s.heap a es ep t) (pa : Pur w es t S n) (xb : At s.heap b eo eq to) (pb : Pur w eo to T m)
    (he : ∀ (u : Shared) (Q : Unit → Shared → Prop), At u.heap b eo eq to → Q () u → wpAny (model P w) A each Q E u) {Q : Unit → Shared → Prop}
    (hQ : ∀ h' d c, (Heap.SameBut a s.heap h') → SetR w h' a (fun j => S j || T j) c → c ≤ n + m → Q () { s with heap := h', drawn := d }) :
    wpAny (model P w) A (setMerge a b each) Q E s := by
  unfold setMerge
  rw [if_neg (by simp [hab])]
  refine wpAny_bind (wp_state xb pb ?_)
  dsimp only
  have hne : eo.isEmpty = false := by
    have := pb.n
    rw [Array.isEmpty_eq_false_iff_exists_mem]
    exact ⟨eo[0]'(by omega), by simp⟩
  rw [if_neg (by simp [hne])]
  rw [pb.n]
  refine wpAny_bind (wp_room (by omega) xa pa fun h1 es1 ep1 t1 sb1 x1 p1 hd1 hc1 hm1 => ?_)
  refine wpAny_bind (wp_state x1 p1 ?_)
  dsimp only
  have hps : t1.place.size = n := by
    have := p1.f
    simp only [SetTable.fits, Bool.and_eq_true, beq_iff_eq] at this
    rw [this.1, p1.n]
  have hfill : t1.fill ≠ 0 := by
    show t1.place.size + t1.dummies.size ≠ 0
    omega
  unfold SetTable.road
  rw [if_pos (by simp [hfill])]
  dsimp only
  have xb1 : At h1 b eo eq to := xb.go fun o e => (sb1.2 b (Ne.symm hab)).trans e
  refine wpAny_bind (wp_unseen (s := { s with heap := h1 }) hab x1 p1 xb1 pb fun ws h2 es2 ep2 t2 d2 sb2 x2 p2 pm => ?_)
  dsimp only at sb2
  have sb : Heap.SameBut a s.heap h2 := sb1.trans sb2
  have gb : ∀ e ∈ ws.toList, GoodE e := fun e he => pb.g e (pm.mem_iff.mp he)
  have lb : ws.toList.length = m := by rw [pm.length_eq, Array.length_toList, pb.n]
  refine wpAny_bind (MeetsSeq2.wpAny_forIn_array _ (fun rest _ s' => ∃ dn h' d c, ws.toList = dn ++ rest ∧ s' = { s with heap := h', drawn := d } ∧ Heap.SameBut a s.heap h' ∧ SetR w h' a (fun j => S j || decide (j ∈ dn.map keyOf)) c ∧ c ≤ n + dn.length) _ ?_ ?_ _ _ ⟨[], h2, d2, n, rfl, rfl, sb, (setR_of x2 p2).congr fun k => by simp, by simp⟩)
  · rintro ⟨hh, y⟩ rest u s' ⟨dn, h', d, c, hw, rfl, sb', R, hc⟩
    obtain ⟨k, tk, e1, e2⟩ := gb (hh, y) (by rw [hw]; simp)
    dsimp only at e1 e2
    subst e1 e2
    have hl : dn.length + 1 + rest.length = m := by rw [← lb, hw]; simp; omega
    have hsc : scanBound = 4096 := rfl
    refine wpAny_bind (wpAny_holding ?_)
    refine setR_add_hashed (P := P) (s := { s with heap := h', drawn := d }) R (by omega) fun h'' sb'' R2 => ?_
    have sb3 : Heap.SameBut a s.heap h'' := sb'.trans sb''
    have xb3 : At h'' b eo eq to := xb.go fun o e => (sb3.2 b (Ne.symm hab)).trans e
    refine wpAny_bind (he _ _ xb3 ?_)
    refine wpAny_bind (wp_state xb3 pb ?_)
    dsimp only
    rw [if_neg (by simp)]
    refine wpAny_pure ⟨dn ++ [(hashInt k, .int k tk)], h'', d, _, by rw [hw]; simp, rfl, sb3, R2.congr fun j => ?_, ?_⟩
    · have hj : (j ∈ (dn ++ [(hashInt k, Value.int k tk)]).map keyOf) ↔ (j ∈ dn.map keyOf ∨ j = k) := by
        rw [List.map_append, List.mem_append]
        exact or_congr Iff.rfl List.mem_singleton
      rw [decide_eq_decide.mpr hj, Bool.decide_or, Bool.or_assoc]
    · rw [List.length_append, List.length_singleton]
      split <;> omega
  · rintro u s' ⟨dn, h', d, c, hw, rfl, sb', R, hc⟩
    rw [List.append_nil] at hw
    refine wpAny_pure (hQ h' d c sb' (R.congr fun j => ?_) (by rw [← hw, lb] at hc; exact hc))
    rw [← hw]
    have := pb.m j
    have e2 : j ∈ eo.toList.map keyOf ↔ j ∈ ws.toList.map keyOf := (pm.map keyOf).mem_iff.symm
    cases hT2 : T j with
    | true => rw [decide_eq_true (e2.mp (this.mp hT2))]
    | false => rw [decide_eq_false fun z => by rw [this.mpr (e2.mpr z)] at hT2; cases hT2]
end
end SU

set_option linter.all false
set_option maxRecDepth 100000
namespace SU
open PySem PySem.Spec PyProof.Rows L2
theorem entry_set_or : entryFor table "set.__or__" = some Builtin.«frozenset.__or__» :=
  entryFor_alias (id' := "frozenset.__or__") (by kernel_rfl) rfl (by decide +kernel) (by kernel_rfl)
section
variable {P : Program} {w : World} {A : Around} {E : Value → Shared → Prop} {s : Shared} {a b : Addr} {S T : Int → Bool} {n m : Nat}
theorem wp_newSet {Q : Value → Shared → Prop} (hQ : At (s.heap.push { cls := .type "set", dict := none, data := .set #[] 0 (.fresh 0 0 (!w.params.followText "set-order")) }) s.heap.objs.size #[] 0 (.fresh 0 0 (!w.params.followText "set-order")) →
    Q (.ref s.heap.objs.size) { s with heap := s.heap.push { cls := .type "set", dict := none, data := .set #[] 0 (.fresh 0 0 (!w.params.followText "set-order")) } }) : wpAny (model P w) A (newSet (.type "set")) Q E s := by
  unfold newSet
  refine wpAny_bind (wpAny_byText ?_)
  exact wpAny_newObj_type (hQ ⟨_, Heap.get?_push_size _ rfl, ⟨rfl, rfl, rfl⟩, rfl⟩)
theorem pur_fresh (w : World) : Pur w #[] (.fresh 0 0 (!w.params.followText "set-order")) (fun _ => false) 0 :=
  ⟨(fun e he => by simp at he), (by simp), (fun k => by simp), (by decide), (by rfl), rfl, List.Pairwise.nil, by
    show _ ∨ (!w.params.followText "set-order") = true
    cases w.params.followText "set-order"
    · exact .inr rfl
    · exact .inl rfl⟩
theorem SetR.typ {h : Heap} (R : SetR w h a S n) : ∃ o, h.get? a = some o ∧ o.cls = .type "set" := by
  obtain ⟨o, es, ep, t, ho, hx, _⟩ := R
  exact ⟨o, ho, hx.1⟩
/-- one | other of two sets of ints -/
theorem wp_or (hab : a ≠ b) (hn : 0 < n) (hT : 0 < m) (hm : n + m < 128) (R : SetR w s.heap a S n) (U : SetR w s.heap b T m) {Q : Value → Shared → Prop}
    (hQ : ∀ h' d c, (∀ b o, s.heap.get? b = some o → h'.get? b = some o) → SetR w h' s.heap.objs.size (fun j => S j || T j) c → c ≤ n + m → Q (.ref s.heap.objs.size) { s with heap := h', drawn := d }) :
    wpAny (model P w) A (binaryOp .BitOr (.ref a) (.ref b)) Q E s := by
  have ta : s.TypeIs (.ref a) "set" := SetR.typ R
  have tb : s.TypeIs (.ref b) "set" := SetR.typ U
  refine wpAny_binaryOp_same (op := .BitOr) ta tb F.fills_set_or F.slot_set_or ?_
  refine wpAny_call_entry F.slot_set_or ta entry_set_or ?_ (F.args_set_or_2 _ _)
  show wpAny _ _ (Builtin.Frozenset.slot1 "__or__" ⟨[.ref a, .ref b], []⟩ >>= _) _ _ _
  refine wpAny_bind (wpAny_of_eq (show Builtin.Frozenset.slot1 "__or__" ⟨[.ref a, .ref b], []⟩ = pure (.ref a, .ref b) from rfl) ?_)
  dsimp only
  rw [if_neg Bool.false_ne_true]
  dsimp only
  have set2 : ∀ {c : Addr} {u : Shared} {A : Around} {Q : Bool → Shared → Prop}, u.TypeIs (.ref c) "set" → Q true u → wpAny (model P w) A (Builtin.Frozenset.isAnySet (.ref c)) Q E u := by
    intro c u A Q tc hq
    unfold Builtin.Frozenset.isAnySet
    refine wpAny_bind (wpAny_isInstance tc sub_set_self ?_)
    exact wpAny_pure hq
  have hlt := R.lt
  have hltb := U.lt
  refine wpAny_bind ?_
  refine wpAny_bind (set2 ta (set2 tb ?_))
  rw [if_neg (by decide)]
  refine wpAny_bind (wpAny_pure ?_)
  refine wpAny_bind ?_
  show wpAny _ _ (Builtin.Frozenset.copyOf a >>= _) _ _ _
  unfold Builtin.Frozenset.copyOf Builtin.Frozenset.baseOf
  refine wpAny_bind ?_
  refine wpAny_bind (wpAny_bind (wpAny_isInstance ta sub_set_self (wpAny_pure ?_)))
  rw [if_pos rfl]
  refine wpAny_bind (wp_newSet fun x0 => ?_)
  obtain ⟨es, ep, t, xa, pa⟩ := setR_at R
  obtain ⟨eo, eq, to, xb, pb⟩ := setR_at U
  have xa1 := xa.go (h' := s.heap.push { cls := .type "set", dict := none, data := .set #[] 0 (.fresh 0 0 (!w.params.followText "set-order")) }) fun o e => Heap.get?_push_of_some _ e
  have xb1 := xb.go (h' := s.heap.push { cls := .type "set", dict := none, data := .set #[] 0 (.fresh 0 0 (!w.params.followText "set-order")) }) fun o e => Heap.get?_push_of_some _ e
  refine wpAny_bind (wpAny_pure ?_)
  refine wpAny_bind (wp_fill (Nat.ne_of_gt hlt) hn (by omega) x0 (pur_fresh w) rfl cyc7 xa1 pa fun h1 sb1 R1 => ?_)
  dsimp only at sb1
  refine wpAny_pure ?_
  dsimp only
  rw [if_pos (by simp [Ne.symm hab])]
  refine wpAny_bind (wpAny_pure ?_)
  have hba : s.heap.objs.size ≠ b := Nat.ne_of_gt hltb
  have xb2 : At h1 b eo eq to := xb1.go fun o e => (sb1.2 b (Ne.symm hba)).trans e
  have hu : SetR w h1 b T m := setR_of xb2 pb
  obtain ⟨es2, ep2, t2, xr, pr⟩ := setR_at R1
  refine wpAny_bind (wpAny_holding ?_)
  unfold Builtin.Frozenset.updateFrom
  refine wpAny_bind (set2 (u := { s with heap := h1 }) (SetR.typ hu) ?_)
  rw [if_pos rfl]
  refine wpAny_bind (wpAny_bind (wpAny_pure ?_))
  unfold Builtin.Frozenset.merge setEpoch
  refine wpAny_pure ?_
  refine wpAny_bind (wpAny_bind (wp_state (s := { s with heap := h1 }) xb2 pb (wpAny_pure ?_)))
  refine wp_merge hba hn hT hm xr pr xb2 pb (fun u Q' xu hq => ?_) fun h2 d c sb2 R2 hc => ?_
  · unfold Builtin.Frozenset.unchanged setEpoch
    refine wpAny_bind (wpAny_bind (wp_state xu pb (wpAny_pure ?_)))
    rw [if_neg (by simp)]
    exact wpAny_pure hq
  · have kk : ∀ (b' : Addr) (o' : Obj), s.heap.get? b' = some o' → h2.get? b' = some o' := fun b' o' e => by
      have hb' : b' ≠ s.heap.objs.size := Nat.ne_of_lt (Heap.lt_size e)
      exact (sb2.2 b' hb').trans ((sb1.2 b' hb').trans (Heap.get?_push_of_some _ e))
    refine wpAny_pure ?_
    exact wpAny_pure ⟨_, rfl, by simp, hQ h2 d c kk R2 hc⟩
set_option maxRecDepth 100000 in
set_option maxHeartbeats 3200000 in
/-- set(xs), xs a list of ints -/
theorem call_set_listI {l : Addr} {items : Array Value} (ns : List Int) {Q : Value → Shared → Prop} (hh : A.handled = none) (hl : s.heap.IsList l items) (hit : IntsAre items.toList ns) (hb : ns.length + 1 < scanBound)
    (h : ∀ (h' : Heap) (tk c : Nat), SetR w h' s.heap.objs.size (fun j => decide (j ∈ ns)) c → c ≤ ns.length → (∀ b o, s.heap.get? b = some o → h'.get? b = some o) → Q (.ref s.heap.objs.size) { s with heap := h', toks := tk }) :
    wpAny (model P w) A (call (.type "set") [.ref l]) Q E s := by
  have hisz : items.size = ns.length := by
    have q := IntsAre.length hit
    rw [Array.length_toList] at q
    exact q
  obtain ⟨c, tl, hmro⟩ := F.called_set.mro
  have hmade := F.called_set.made
  have hsub := F.called_set.sub
  refine wpAny_call (codeAny_of_tree ?_)
  show wpAny _ _ (callAny (.type "set") _) _ _ _
  refine wpAny_pure ⟨Code.quiet_builtin _ (by decide +kernel), codeAny_builtin F.entry_type_call ?_⟩
  rw [Around.under_plain (weight_type_call_type "set" [.ref l] []) rfl]
  have h1 := F.called_set.notType
  have h2 := F.called_set.canCreate
  have hct := F.typeCall_set_1 (.ref l)
  repeat (any_goals (first | assumption | wp_step))

  refine codeAny_mono (code_set_led1 (.ref l) (E := E) (Q₁ := fun obj s₁ => obj = .ref s.heap.objs.size ∧ s₁ = { s with heap := s.heap.push { cls := .type "set", dict := none, data := .set #[] 0 (.fresh 0 0 (!w.params.followText "set-order")) } }) ⟨rfl, rfl⟩) fun r s₁ hr => ?_
  cases r with
  | error e => exact hr
  | ok fl =>
    cases fl with
    | ret obj =>
      obtain ⟨rfl, rfl⟩ := hr
      have hS : (s.heap.push { cls := .type "set", dict := none, data := .set #[] 0 (.fresh 0 0 (!w.params.followText "set-order")) }).get? s.heap.objs.size = some { cls := .type "set", dict := none, data := .set #[] 0 (.fresh 0 0 (!w.params.followText "set-order")) } := Heap.get?_push_size _ rfl
      have hT : Shared.TypeIs { s with heap := s.heap.push { cls := .type "set", dict := none, data := .set #[] 0 (.fresh 0 0 (!w.params.followText "set-order")) } } (.ref s.heap.objs.size) "set" := ⟨_, hS, rfl⟩
      have hli := F.called_set.init.lookup
      have hbi := F.called_set.init.bind (.ref s.heap.objs.size)
      repeat (any_goals (first | assumption | wp_step))

      refine codeAny_mono (codeAny_call_builtin (R := wants (fun r s₂ => r = .none ∧ ∃ h' tk c, s₂ = { s with heap := h', toks := tk } ∧ SetR w h' s.heap.objs.size (fun j => decide (j ∈ ns)) c ∧ c ≤ ns.length ∧
          (∀ b o, s.heap.get? b = some o → h'.get? b = some o)) E) F.called_set.init.plain F.entry_set_init (check_set_init_1 hT ?_)) fun r₂ s₂ hr₂ => ?_
      · obtain ⟨ol, hol, hcl, nl, hdl⟩ := hl
        obtain ⟨ocls, odict, odata, oslots⟩ := ol
        simp only at hcl hdl
        subst hcl; subst hdl
        have hol' : (s.heap.push { cls := .type "set", dict := none, data := .set #[] 0 (.fresh 0 0 (!w.params.followText "set-order")) }).get? l = some { cls := .type "list", dict := odict, data := .seq items nl, slots := oslots } := Heap.get?_push_of_some _ hol
        have hsls := F.sub_list_set
        have hslf := F.sub_list_frozenset
        have hne : (Value.type "list" == Value.type "dict") = false := by decide
        have hl1 : (s.heap.push { cls := .type "set", dict := none, data := .set #[] 0 (.fresh 0 0 (!w.params.followText "set-order")) }).IsList l items := ⟨_, hol', rfl, nl, rfl⟩
        unfold Builtin.«set.__init__» noKeywords Builtin.Frozenset.updateFrom
        generalize hPI : pyIter = PI
        wp_walk
        subst hPI
        refine wpAny_pyIter_list hl1 ?_
        refine wpAny_bind (wpAny_runValue ?_)
        have hlS : l < s.heap.objs.size := Heap.lt_size hol
        have hh3 : A.in1.in1.in1.handled = none := by simp [hh]
        have hz1 : (s.heap.push { cls := .type "set", dict := none, data := .set #[] 0 (.fresh 0 0 (!w.params.followText "set-order")) }).objs.size = s.heap.objs.size + 1 := Heap.size_push ..
        have hneI : l ≠ (s.heap.push { cls := .type "set", dict := none, data := .set #[] 0 (.fresh 0 0 (!w.params.followText "set-order")) }).objs.size := by
          rw [Heap.size_push]; exact Nat.ne_of_lt (Nat.lt_succ_of_lt hlS)
        have hSf : s.heap.objs.size ∉ [(s.heap.push { cls := .type "set", dict := none, data := .set #[] 0 (.fresh 0 0 (!w.params.followText "set-order")) }).objs.size, l] := by
          rw [Heap.size_push]; simp only [List.mem_cons, List.mem_singleton, List.not_mem_nil, or_false, not_or]
          exact ⟨Nat.ne_of_lt (Nat.lt_succ_self _), Nat.ne_of_gt hlS⟩
        have hval : ∀ (i : Nat) (v : Value), items[i]? = some v → ∃ k t, ns[i]? = some k ∧ v = .int k t := fun i v hv => by
          have hi : i < ns.length := by rw [← hisz]; exact (Array.getElem?_eq_some_iff.mp hv).1
          obtain ⟨t, e⟩ := PyProof.Rows.IntsAre.int_at hit i v (by rw [Array.getElem?_toList]; exact hv)
          refine ⟨ns[i], t, List.getElem?_eq_getElem hi, ?_⟩
          rw [e, List.getD_eq_getElem?_getD, List.getElem?_eq_getElem hi] <;> rfl
        refine set_update_ints ((Walks.list hh3 _ l hneI items).toS) s.heap.objs.size
          hSf ns hisz hb hval (items.size - 0) 0 _ (by omega) (Nat.zero_le _)
          ⟨⟨_, Heap.get?_push_size _ rfl, rfl, rfl⟩, (hl1.push _)⟩ ?hS0 ?hR
        case hS0 =>
          have hget : ((s.heap.push { cls := .type "set", dict := none, data := .set #[] 0 (.fresh 0 0 (!w.params.followText "set-order")) }).push { cls := .type "list_iterator", data := .fields #[.ref l, .int 0 0] }).get? s.heap.objs.size
              = some { cls := .type "set", dict := none, data := .set #[] 0 (.fresh 0 0 (!w.params.followText "set-order")) } := Heap.get?_push_of_some _ hS
          exact ⟨0, Nat.le_refl 0, setR_new_at hget⟩
        case hR =>
          intro s' c' hm hc' hS'
          obtain ⟨h', g2, d', tk', os'⟩ := s'
          have eg : g2 = s.gens := hm.gens
          have ed : d' = s.drawn := hm.drawn
          have eo : os' = s.os := hm.os
          subst eg; subst ed; subst eo
          show wpAny _ _ _ _ _ _
          refine wpAny_pure ?_
          show wpAny _ _ (ret Value.none) _ _ _
          rw [hisz] at hc'
          refine wpAny_pure ⟨rfl, h', tk', c', rfl, hS', hc', fun b o e => ?_⟩
          have hb0 : b < s.heap.objs.size := Heap.lt_size e
          have hb1 : b ≠ s.heap.objs.size := Nat.ne_of_lt hb0
          have hb2 : b ≠ (s.heap.push { cls := .type "set", dict := none, data := .set #[] 0 (.fresh 0 0 (!w.params.followText "set-order")) }).objs.size := by
            rw [Heap.size_push]; exact Nat.ne_of_lt (Nat.lt_succ_of_lt hb0)
          exact hm.heap b o (by simp only [List.mem_cons, List.mem_singleton, List.not_mem_nil, or_false, not_or]; exact ⟨hb1, hb2⟩) (Heap.get?_push_of_some _ (Heap.get?_push_of_some _ e))
      · cases r₂ with
        | error e => exact hr₂
        | ok fl₂ =>
          cases fl₂ with
          | ret r =>
            obtain ⟨rfl, h', tk, c', rfl, hS', hc', hk'⟩ := hr₂
            repeat (any_goals (first | assumption | wp_step))
            exact h _ _ _ hS' hc' hk'
          | _ => exact hr₂.elim
    | _ => exact hr.elim
end
section
variable {X : Cx}
/-- set(xs), xs a list of ints -/
def rSetL (K : PySem.W.Frag) (w : World) : List V → Hp → VK → Prop := fun xs H Q => ∃ (l : Addr) (ns : List Int), xs = [V.ref l] ∧ SqL K H l (ns.map V.int) ∧ ns.length < 1000 ∧
  ∀ p c, H p = none → c ≤ ns.length → (0 < ns.length → 0 < c) → Q (.ref p) (upd H p (SetO w p (fun j => decide (j ∈ ns)) c))
theorem cr_setL (hc : X.calm = true) : CallR X (.type "set") (rSetL X.K X.w) := by
  intro pins s σ H xs us Q I r h
  obtain ⟨l, ns, rfl, hl, hn, q⟩ := h
  rw [Vals.ref1 r]
  obtain ⟨its, rv, pl, hz⟩ := I.list hl
  have hsc : scanBound = 4096 := rfl
  refine call_set_listI (P := X.prog) (w := X.w) ns (I.ok.hd hc) pl.isList (ints_of_vals (by simpa using rv)) (by omega) fun h' tk c R hcn k => ?_
  refine ⟨.ref s.heap.objs.size, upd H s.heap.objs.size (SetO X.w s.heap.objs.size (fun j => decide (j ∈ ns)) c), I.laid (t' := tk) k (Nat.le_refl _) (setO_new R), rfl, q _ c (I.hok.fresh (Nat.le_refl _)) hcn fun h0 => ?_⟩
  obtain ⟨o, es, ep, t, ho, hx, hd, g, nd, hm, hb, hf, hn', _⟩ := R
  have h1 := (hm ns[0]).mp (by simp)
  obtain ⟨e, he, _⟩ := List.mem_map.mp h1
  have := List.length_pos_of_mem he
  rw [Array.length_toList] at this
  omega
/-- one | other, sets of ints -/
def rSOr (w : World) : V → V → Hp → VK → Prop := fun x y H Q => ∃ (a b : Addr) (S T : Int → Bool) (n m : Nat), x = .ref a ∧ y = .ref b ∧ a ≠ b ∧ H a = some (SetO w a S n) ∧ H b = some (SetO w b T m) ∧ 0 < n ∧ 0 < m ∧ n + m < 128 ∧
  ∀ p c, H p = none → c ≤ n + m → Q (.ref p) (upd H p (SetO w p (fun j => S j || T j) c))
theorem op_sor : OpR X (binaryOp .BitOr) (rSOr X.w) := by
  intro pins s σ H x y v u Q I rx ry h
  obtain ⟨a, b, S, T, n, m, rfl, rfl, hab, ha, hb, hn, hm, hnm, q⟩ := h
  cases rx
  cases ry
  refine wp_or hab hn hm hnm (setO_get I ha) (setO_get I hb) fun h' d c k R hc => ?_
  have J : Inv X pins σ (upd H s.heap.objs.size (SetO X.w s.heap.objs.size (fun j => S j || T j) c)) { s with heap := h', gens := s.gens, drawn := d, toks := s.toks } :=
    I.call (ch := []) (Un.laid k (Nat.le_refl _) (I.hok.fresh (Nat.le_refl _))) (I.hok.laid k (Nat.le_refl _) (setO_new R)) I.bare (fun _ z => nomatch z)
  exact ⟨.ref s.heap.objs.size, _, J, rfl, q _ c (I.hok.fresh (Nat.le_refl _)) hc⟩
end
end SU

set_option linter.all false
set_option maxRecDepth 100000
namespace G
open PySem L2 TL SU
section
variable {X : Cx}
theorem kSetL (K : PySem.W.Frag) (ww : World) (hc : X.calm = true) (e : X.K = K := by rfl) (e2 : X.w = ww := by rfl) : CallR X (.type "set") (rSetL K ww) := e ▸ e2 ▸ cr_setL hc
theorem kSortedS (ww : World) (hc : X.calm = true) (e2 : X.w = ww := by rfl) : CallR X (.builtin "sorted") (rSortedSet ww) := e2 ▸ cr_sortedSet hc
theorem kSOr (ww : World) (e2 : X.w = ww := by rfl) : OpR X (binaryOp .BitOr) (rSOr ww) := e2 ▸ op_sor
end
section
variable {K : PySem.W.Frag} {w : Wd} {a b : Addr} {Q : VK} {ww : World} {S T : Int → Bool} {n m : Nat}
theorem s_setN {ns : List Int} (h : SqL K w.H a (ns.map V.int)) (hl : ns.length < 1000) (k : ∀ p c v, Ext Non w v → w.H p = none → v.S p = some (SetO ww p (fun j => decide (j ∈ ns)) c) → c ≤ ns.length → (0 < ns.length → 0 < c) → Q (.ref p) v.H) : rSetL K ww [.ref a] w.H Q :=
  ⟨a, ns, rfl, h, hl, fun p c hp hc hc0 => by
    obtain ⟨v, e, n, s⟩ : ∃ v : Wd, v.H = upd w.H p (SetO ww p (fun j => decide (j ∈ ns)) c) ∧ Ext Non w v ∧ v.S p = some (SetO ww p (fun j => decide (j ∈ ns)) c) := by
      have := newS (w := w) (o := SetO ww p (fun j => decide (j ∈ ns)) c) (Q := fun r H => r = .ref p → ∃ v : Wd, v.H = H ∧ Ext Non w v ∧ v.S p = some (SetO ww p (fun j => decide (j ∈ ns)) c)) (fun q v e n s hq => by cases hq; exact ⟨v, rfl, e, s⟩) p hp rfl
      exact this
    rw [← e]
    exact k p c v n hp s hc hc0⟩
theorem s_sor (hab : a ≠ b) (ha : w.S a = some (SetO ww a S n)) (hb : w.S b = some (SetO ww b T m)) (hn : 0 < n) (hm : 0 < m) (h : n + m < 128) (k : ∀ p c v, Ext Non w v → w.H p = none → v.S p = some (SetO ww p (fun j => S j || T j) c) → c ≤ n + m → Q (.ref p) v.H) : rSOr ww (.ref a) (.ref b) w.H Q :=
  ⟨a, b, S, T, n, m, rfl, rfl, hab, w.ok _ _ ha, w.ok _ _ hb, hn, hm, h, fun p c hp hc => by
    obtain ⟨v, e, n, s⟩ : ∃ v : Wd, v.H = upd w.H p (SetO ww p (fun j => S j || T j) c) ∧ Ext Non w v ∧ v.S p = some (SetO ww p (fun j => S j || T j) c) := by
      have := newS (w := w) (o := SetO ww p (fun j => S j || T j) c) (Q := fun r H => r = .ref p → ∃ v : Wd, v.H = H ∧ Ext Non w v ∧ v.S p = some (SetO ww p (fun j => S j || T j) c)) (fun q v e n s hq => by cases hq; exact ⟨v, rfl, e, s⟩) p hp rfl
      exact this
    rw [← e]
    exact k p c v n hp s hc⟩
theorem s_sortS (ha : w.S a = some (SetO ww a S n)) (h : n < 64) (k : ∀ p v (ns : List Int), Ext Non w v → w.H p = none → v.S p = some (.lst (ns.map V.int)) → ns.Pairwise (· < ·) → (∀ k, k ∈ ns ↔ S k = true) → ns.length = n → Q (.ref p) v.H) : rSortedSet ww [.ref a] w.H Q :=
  ⟨a, S, n, rfl, w.ok _ _ ha, h, fun ns p h1 h2 h3 hp => newS (Q := Q) (fun p v e n s => k p v ns e n s h1 h2 h3) p hp⟩
end
end G

set_option linter.all false
set_option maxRecDepth 100000
/-! except (A, B): without a name -/
namespace L2
open PySem PySem.Spec PyProof.Rows
def wTup (K : PySem.W.Frag) (c1 c2 : Value) (ts : Addr → Value → Option Addr → TS) (Wout : WX) (D : Ends) : WX := fun cls d σ H =>
  ∃ b, PySem.W.exmAny K cls [c1, c2] = some b ∧ (b = true → ∀ a, H a = none → ts a cls d D σ H) ∧ (b = false → Wout cls d σ H)
theorem flying_keep {base h h' : Heap} {l : List Env} {e : Addr} {Z : Obj → Prop} (x : HandSPX.FlyingZ base l e Z h) (k : ∀ q o, h.get? q = some o → h'.get? q = some o) : HandSPX.FlyingZ base l e Z h' := by
  obtain ⟨f1, f2, f3, oe, vs, T, oT, ts, he, hz, hd, h1, hn, hT, hTe, hdT, h3⟩ := x
  exact ⟨fun b o hb => k b o (f1 b o hb), f2, f3.of_keeps fun b o hb _ => ⟨o, k b o hb, rfl⟩, oe, vs, T, oT, ts, k _ _ he, hz, hd, h1, hn, hT, k _ _ hTe, hdT, h3⟩
theorem up_keep {h h' : Heap} (k : ∀ q o, h.get? q = some o → h'.get? q = some o) : h.UpToSlots h' := Heap.UpToSlots.of_keeps k
section
variable {X : Cx} {x1 x2 : Str} {c1 c2 : Value} {body suite : List Stmt} {b₀ : Stmt} {np1 np2 tp pos pos' : Pos} {kk : Nat} {tb : WX → TS} {ts : Addr → Value → Option Addr → TS} {Wout : WX}
theorem ps_try_two (hs : X.stack = X.env :: X.outer) (hf : X.env.frame = some X.env.locals) (hc1 : Names X x1 c1) (hc2 : Names X x2 c2) (tk : Takes X Wout)
    (hb : ∀ (W : WX) (pn : List (Addr × Obj)) (xe : Value → Shared → Prop), Takes (X.tr pn xe) W → PassesOwn (model X.prog X.w) X.A X.env xe → PSs (X.tr pn xe) body (tb W))
    (hsu : ∀ (a : Addr) (oe : Obj) (cls : Value) (d : Option Addr) (pn : List (Addr × Obj)), Zc cls d oe → (∃ vs, oe.data = .fields vs) → PSs (X.suite a ((a, oe) :: pn)) (b₀ :: suite) (ts a cls d)) :
    PS X (.Try body [.ExceptHandler (some (.Tuple [.Name x1 np1, .Name x2 np2] kk tp)) none (b₀ :: suite) pos'] [] [] pos) (fun D σ H => tb (wTup X.K c1 c2 ts Wout D) D σ H) := by
  refine ⟨fun pins s σ H D I h => ?_⟩
  have ok := I.ok
  have hfr : X.A.frames = some (X.env :: X.outer) := by rw [ok.frames, hs]
  refine wpAny_Try_except ?_
  refine wpAny_mono ((hb (wTup X.K c1 c2 ts Wout D) (X.pn ++ pins) (fun e s₁ => wpAny (model X.prog X.w) X.A (noteFrame e X.env) (fun _ s₂ => wpAny (model X.prog X.w) X.A (setFlight e none) (fun _ s₃ =>
    wpAny (model X.prog X.w) X.A (handleBy e X.env [.ExceptHandler (some (.Tuple [.Name x1 np1, .Name x2 np2] kk tp)) none (b₀ :: suite) pos']) (SP X pins D) X.xe s₃) X.xe s₂) X.xe s₁) (fun u s' xx => ?_) PassesOwn.looking).run [] s σ H D (I.toTry _) h) (fun f s1 hsp => ?_) (fun e s1 he => he)
  · -- the catch
    obtain ⟨a, B, sI, pins', σ', H', cls, d, rfl, J', nb, up, sky, na, os, ag, b, hb1, hyes, hno⟩ := xx
    have J : Inv X pins σ' H' sI := J'.ofTry ok
    have sky' : Sky B (X.env :: X.outer) a (Zc cls d) X.env.locals s'.heap := by rw [← hs]; exact sky
    show wpAny (model X.prog X.w) X.A (noteFrame (.ref a) X.env) _ _ _
    refine Sky.land Zc.steady hfr hf sky' fun h3 fl3 up3 => ?_
    have J3 : Inv X pins σ' H' { s' with heap := h3 } := J.landed nb fl3.1 (up.trans up3) os ag
    obtain ⟨oe3, vs3, he3, hz3, hd3⟩ := fl3.there
    have notFr : ∀ {h : Heap} {o : Obj} {vs : Array Value}, h.FunFrames B (X.env :: X.outer) → h.get? a = some o → o.data = .fields vs → a ∉ frs (X.env :: X.outer) := fun {h o vs} ff e dd hm => by
      obtain ⟨_, o', e', hnf⟩ := ff.mem hm
      rw [e] at e'; cases e'
      exact hnf _ dd
    have nfr := notFr fl3.2.2.1 he3 hd3
    have nL : a ≠ X.env.locals := fun z => nfr (List.mem_filterMap.mpr ⟨X.env, List.mem_cons_self, by rw [hf, z]⟩)
    have nF : a ∉ X.fs := fun hm => by
      obtain ⟨e, he, q⟩ := List.mem_filterMap.mp hm
      exact nfr (List.mem_filterMap.mpr ⟨e, List.mem_cons_of_mem _ he, q⟩)
    have S3 := J3.suite he3 hd3 na nL nF
    refine wpAny_handleBy_cons (codeAny_handlers_test ?_) (by intro q; cases q)
    have test : ∀ {x : Str} {np : Pos} {c : Value}, Names X x c → ∀ {Q : Value → Shared → Prop} {E : Value → Shared → Prop}, Q c { s' with heap := h3 } → wpAny (model X.prog X.w) (X.A.mark (some (.ref a))) (eval (.Name x np) X.env) Q E { s' with heap := h3 } := fun {x np c} hc {Q E} q => by
      obtain ⟨hg, hdbg, hm | ⟨hm, hv, hnn⟩⟩ := hc
      · exact ld_glob (X := X.suite a ((a, oe3) :: (X.pn ++ pins))) S3 hg hm q hdbg
      · exact ld_blt (X := X.suite a ((a, oe3) :: (X.pn ++ pins))) S3 hg hm hv q hnn hdbg
    refine wpAny_Tuple ?_
    refine wpAny_items_cons (test hc1 ?_)
    refine wpAny_items_cons (test hc2 ?_)
    refine wpAny_items_nil ⟨by size_fits, ?_⟩
    have kp : ∀ q o, h3.get? q = some o → (h3.push { cls := .type "tuple", data := .seq [c1, c2].toArray }).get? q = some o := fun _ _ z => Heap.get?_push_of_some _ z
    have J3' : Inv X pins σ' H' { s' with heap := h3.push { cls := .type "tuple", data := .seq [c1, c2].toArray } } := J3.kept (t' := s'.toks) kp
    have fl3' := flying_keep fl3 kp
    have up3' : s'.heap.UpToSlots (h3.push { cls := .type "tuple", data := .seq [c1, c2].toArray }) := up3.trans (up_keep kp)
    have he3' := kp _ _ he3
    have LT : PySem.W.Looks (model X.prog X.w) (h3.push { cls := .type "tuple", data := .seq [c1, c2].toArray }) (typeOf (.ref a)) cls := fun A Q E s k q => wpAny_typeOf_ref (k _ _ he3') (by rw [hz3.1]; exact q)
    have LM := PySem.W.exm_tup2 (M := model X.prog X.w) (J3'.kIn) LT (Heap.get?_push_size h3 rfl) hb1
    refine LM.here ?_
    clear J3 fl3 up3 S3
    generalize h3.push { cls := .type "tuple", data := .seq [c1, c2].toArray } = h3p at *
    cases b with
    | true =>
      refine codeAny_handlers_suite ?_
      refine HandSPX.lands_againZ fl3' fun h4 fl4 up4 => ?_
      have J4 : Inv X pins σ' H' { s' with heap := h4 } := J.landed nb fl4.1 ((up.trans up3').trans up4) os ag
      obtain ⟨oe4, vs4, he4, hz4, hd4⟩ := fl4.there
      have S4 := J4.suite he4 hd4 na nL nF
      refine wpAny_mono ((hsu a oe4 cls d (X.pn ++ pins) hz4 ⟨_, hd4⟩).run [] _ _ H' _ S4 (hyes rfl a na)) (fun f s6 hsp => ?_) (fun _ _ z => False.elim z)
      cases f with
      | next =>
        obtain ⟨σ6, H6, S6, q6⟩ := hsp
        exact ⟨_, _, S6.unsuite ok, q6⟩
      | brk =>
        obtain ⟨σ6, H6, S6, q6⟩ := hsp
        exact ⟨_, _, S6.unsuite ok, q6⟩
      | cont =>
        obtain ⟨σ6, H6, S6, q6⟩ := hsp
        exact ⟨_, _, S6.unsuite ok, q6⟩
      | ret u =>
        obtain ⟨v6, σ6, H6, S6, r6, q6⟩ := hsp
        exact ⟨_, _, _, S6.unsuite ok, r6, q6⟩
    | false =>
      show wpAny _ X.A (handleBy (.ref a) X.env []) _ _ _
      refine wpAny_handleBy_nil ?_
      obtain ⟨k1, k2, k3, oe, vs, T, oT, ts', he, hz, hd, h1, hr⟩ := id fl3'
      unfold PySem.passOn
      refine wpAny_bind (wpAny_field he hd h1 ?_)
      rw [if_neg (show ¬ ((Value.ref T == Value.none) = true) from by simp)]
      have fin : wpAny (model X.prog X.w) X.A (setFlight (.ref a) X.env.frame) (fun _ s4 => wpAny (model X.prog X.w) X.A (throw (.ref a) : Sem Flow) (SP X pins D) X.xe s4) X.xe { s' with heap := h3p } := by
        rw [hf]
        refine HandSPX.setFlight_upZ fl3' fun h4 hh4 up4 => wpAny_throw (tk _ _ ?_)
        exact ⟨a, B, sI, pins, σ', H', cls, d, rfl, J, nb, (up.trans up3').trans up4, .inr (.inr (by rw [hs]; exact hh4)), na, os, ag, hno rfl⟩
      first
        | exact wpAny_bind (wpAny_pure (wpAny_bind fin))
        | exact wpAny_bind fin
  · cases f with
    | next =>
      obtain ⟨σ', H', J', q⟩ := hsp
      exact wpAny_execs_nil ⟨σ', H', J'.ofTry ok, q⟩
    | brk =>
      obtain ⟨σ', H', J', q⟩ := hsp
      exact ⟨σ', H', J'.ofTry ok, q⟩
    | cont =>
      obtain ⟨σ', H', J', q⟩ := hsp
      exact ⟨σ', H', J'.ofTry ok, q⟩
    | ret u =>
      obtain ⟨v, σ', H', J', r, q⟩ := hsp
      exact ⟨v, σ', H', J'.ofTry ok, r, q⟩
end
end L2
namespace G
open PySem L2
section
variable {K : PySem.W.Frag} {cls : Value} {d : Option Addr} {D : Ends} {σ : L2.St} {H : Hp} {c1 c2 : Value} {ts : Addr → Value → Option Addr → TS} {Wout : WX}
theorem s_wT1 (e : PySem.W.exmOne K cls c1 = some true) (e2 : PySem.W.exmOne K cls c2 = some b) (k : ∀ a, H a = none → ts a cls d D σ H) : wTup K c1 c2 ts Wout D cls d σ H :=
  ⟨true, by unfold PySem.W.exmAny PySem.W.exmAny PySem.W.exmAny; rw [e, e2]; rfl, fun _ => k, fun z => by cases z⟩
theorem s_wT2 (e : PySem.W.exmOne K cls c1 = some false) (e2 : PySem.W.exmOne K cls c2 = some true) (k : ∀ a, H a = none → ts a cls d D σ H) : wTup K c1 c2 ts Wout D cls d σ H :=
  ⟨true, by unfold PySem.W.exmAny PySem.W.exmAny PySem.W.exmAny; rw [e, e2]; rfl, fun _ => k, fun z => by cases z⟩
theorem s_wO (e : PySem.W.exmOne K cls c1 = some true) (k : ∀ a, H a = none → ts a cls d D σ H) : wOnly K c1 ts Wout D cls d σ H := ⟨true, e, fun _ => k, fun z => by cases z⟩
end
end G

set_option linter.all false
set_option maxRecDepth 100000
/-! C(..) whose __init__ may raise -/
namespace L2
open PySem PySem.Spec PyProof.Rows
section
variable {X : Cx} {f : Addr} {fd : FuncData} {C : Addr} {sp : Sp} {k : Nat} {ps : List Str} {E : St → XK} {CX : CXT}
theorem run_makeS {pins : List (Addr × Obj)} {σ : St} {H : Hp} {s : Shared} {Q : VK} {us : List Value} {vs : List V} (M : Mk X.K C f) (F : FnOk X.prog X.w X.K X.mg X.base CX k f fd ps sp) (hr : Room (k + 1) X.A) (hb : Binds X.K fd ps [])
    (hx : PassesAt CX X σ (E σ)) (I : Inv X pins σ H s) (r : Vals vs us)
    (h : ∀ x dx, H x = none → H dx = none → dx ≠ x → sp (.ref x :: (vs ++ [])) (upd (upd H dx (.own x)) x (.ins C dx [])) (fun v H2 => v = .non ∧ Q (.ref x) H2) (E σ)) :
    wpAny (model X.prog X.w) X.A (call (.ref C) us) (EP X pins σ Q) X.xe s := by
  have hq := h (s.heap.objs.size + 1) s.heap.objs.size (I.hok.fresh (Nat.le_succ _)) (I.hok.fresh (Nat.le_refl _)) (Nat.ne_of_lt (Nat.lt_succ_self _))
  have I2 := Inv.made (C := C) I
  have r2 : Vals (V.ref (s.heap.objs.size + 1) :: (vs ++ [])) (Value.ref (s.heap.objs.size + 1) :: (us ++ [])) := .cons rfl (r.append .nil)
  have hl : (Value.ref (s.heap.objs.size + 1) :: us ++ []).length = ps.length := by
    have e := r2.length
    rw [F.len _ _ _ _ hq] at e
    exact e.symm
  refine wpAny_call (make_map (f := f) I.kIn M.makes M.init (beq_iff_eq.mp M.fn) (codeAny_mono (F.run _ X.stack _ _ ⟨Value.ref (s.heap.objs.size + 1) :: us, []⟩ (Value.ref (s.heap.objs.size + 1) :: (us ++ [])) _ _ (E σ) (hr.make C us [])
    (I2.env0.make C us []) (by have b := hb _ (Value.ref (s.heap.objs.size + 1) :: us) I2.kIn hl; rw [List.cons_append] at b; exact b) r2 hq) fun r s' hq' => ?_))
  cases r with
  | error e => exact hx pins _ _ e s' I2 hq'
  | ok fl =>
    cases fl with
    | ret u =>
      obtain ⟨v, H', I3, rv, ev, q3⟩ := I2.after hq'
      subst ev
      exact ⟨rv, ⟨V.ref (s.heap.objs.size + 1), H', I3, rfl, q3⟩⟩
    | next => exact False.elim hq'
    | brk => exact False.elim hq'
    | cont => exact False.elim hq'
end
end L2
namespace G
open PySem L2 PyProof.Rows
section
variable {X : Cx} {k j : Nat} {x : Str} {C : Addr} {sp : Sp} {p pos : Pos} {e : Expr} {es : List Expr} {t : TA} {W : WX}
def tMakeX (C : Addr) (sp : Sp) (W : WX) (t : TA) : TE := fun σ H Q => t σ H fun vs H1 => rMake C sp (fun cls d H' => W cls d σ H') Q vs H1
theorem pe_mkX (tk : Takes X W) (c : Mkr X.prog X.w X.K X.mg X.base (L2.CX X.prog X.w) C k sp) (hr : Room j X.A) (hk : k + 1 ≤ j) (hm : X.mg x = some (.ref C)) (ha : PA X (e :: es) t) (hg : Gl X x := by rfl)
    (hdb : (x == ("__debug__" : Str)) = false := by decide) (he : starEach (e :: es) X.env = (false, eval e X.env) :: starEach es X.env := by rfl) (hpl : (backTo pos (starEach es X.env)).any (·.1) = false := by rfl) :
    PE X (.Call (.Name x p) (e :: es) [] pos) (tMakeX C sp W t) := by
  obtain ⟨f, fd, ps, F, M, hb⟩ := c.ex
  refine ⟨fun pins s σ H Q I h => ?_⟩
  refine wpAny_Call_Name_kw (ld_glob I hg hm ?_ hdb)
  refine PySem.W.callWith_K (h₀ := X.base) I.ok.mod.kin M.kp (thn (ha.run pos pins s σ H _ I h) fun us s1 ⟨vs, H1, I1, r, q⟩ => ⟨I1.kIn, ?_⟩) he hpl
  exact run_makeS (E := fun σ cls d H => W cls d σ H) M F (hr.mono hk) hb (passAt tk σ) I1 r q
end
section
variable {H : Hp} {Q : VK} {σ : L2.St} {sp : Sp} {W : WX} {t : TA} {C : Addr}
theorem s_makeX (k : t σ H fun vs H1 => rMake C sp (fun cls d H' => W cls d σ H') Q vs H1) : tMakeX C sp W t σ H Q := k
end
end G

set_option linter.all false
set_option maxRecDepth 100000
/-! ==, of lists that hold the same things (dicts among them) -/
namespace G
open PySem L2
def gEqW (K : PySem.W.Frag) : R2 := fun x y H Q => gEq K x y H Q ∨ rEqV K x y H Q
theorem kEqW {X : Cx} (K : PySem.W.Frag) (hu : X.A.units + 64 < cLine) (eK : X.K = K := by rfl) : OpR X (compareOp .Eq) (gEqW K) := eK ▸ (g_eq hu).or (op_eqV hu)
theorem eqV_self {K : PySem.W.Frag} {H : Hp} {S : Hp} {x : V} {d : PyData} (h : Rp S x d) : EqV K H 1 x x := by
  cases h with
  | lst _ _ => exact .inr (.inl ⟨_, rfl, rfl⟩)
  | tup _ _ => exact .inr (.inl ⟨_, rfl, rfl⟩)
  | dct _ => exact .inr (.inl ⟨_, rfl, rfl⟩)
  | non => exact .inl ⟨rfl, rfl⟩
  | bl _ => exact .inl ⟨rfl, rfl⟩
  | int _ => exact .inl ⟨rfl, rfl⟩
  | str _ => exact .inl ⟨rfl, rfl⟩
theorem paired_self {K : PySem.W.Frag} {H : Hp} {S : Hp} : ∀ {vs : List V} {ds : List PyData}, RpA S vs ds → Paired (EqV K H 1) vs vs
  | _, _, .nil => .nil
  | _, _, .cons r t => .cons (eqV_self r) (paired_self t)
theorem s_eqW {K : PySem.W.Frag} {w : Wd} {a b : Addr} {vs : List V} {ds : List PyData} {Q : VK} (h1 : SqL K w.H a vs) (h2 : SqL K w.H b vs) (h : RpA w.S vs ds) (k : Q (.bl true) w.H) : gEqW K (.ref a) (.ref b) w.H Q :=
  .inr ⟨1, by decide, .inl ⟨a, b, vs, vs, rfl, rfl, h1, h2, paired_self h⟩, k⟩
/-- a thing to be read: for good, or a list of the caller's own -/
def RdD (w : Wd) (b : V) (d : PyData) : Prop := Rp w.S b d ∨ ∃ l vs ds, b = .ref l ∧ Own w l (.lst vs) ∧ RpA w.S vs ds ∧ d = .list ds
theorem rpa_rep {S : Hp} {vs : List V} {ds : List PyData} (h : RpA S vs ds) : ∀ n : Nat, RpA S (List.replicate n vs).flatten (List.replicate n ds).flatten
  | 0 => .nil
  | n + 1 => by
    rw [List.replicate_succ, List.replicate_succ, List.flatten_cons, List.flatten_cons]
    exact h.append (rpa_rep h n)
end G

set_option linter.all false
set_option maxRecDepth 100000
/-! lists of lists of one's own -/
namespace G
open PySem L2
open Classical in
/-- several cells lent for a while -/
theorem lendM {w : Wd} (m : Addr → Prop) (h : ∀ l, m l → w.S l = none) : ∃ w' : Wd, w'.H = w.H ∧ (∀ l o, m l → w.H l = some o → w'.S l = some o) ∧ Same w.S w'.S ∧ ∀ v, Ext Non w' v → ∃ u : Wd, u.H = v.H ∧ Ext Non w u := by
  have sm : Same w.S (fun b => if m b then w.H b else w.S b) := fun b q x => by
    show (if m b then w.H b else w.S b) = some q
    rw [if_neg (fun c => by rw [h b c] at x; cases x)]
    exact x
  refine ⟨⟨fun b => if m b then w.H b else w.S b, w.H, fun b q x => ?_⟩, rfl, fun l o hm ho => by show (if m l then w.H l else w.S l) = some o; rw [if_pos hm]; exact ho, sm, fun v e => ?_⟩
  · by_cases c : m b
    · have x' : (if m b then w.H b else w.S b) = some q := x
      rw [if_pos c] at x'
      exact x'
    · have x' : (if m b then w.H b else w.S b) = some q := x
      rw [if_neg c] at x'
      exact w.ok b q x'
  · refine ⟨⟨fun b => if m b then none else v.S b, v.H, fun b q x => ?_⟩, rfl, ⟨fun b q x => ?_, fun b q _ x => e.hp b q (fun z => z) x, fun b _ x z => ?_, fun b x => e.al b x⟩⟩
    · by_cases c : m b
      · have x' : (if m b then none else v.S b) = some q := x
        rw [if_pos c] at x'; cases x'
      · have x' : (if m b then none else v.S b) = some q := x
        rw [if_neg c] at x'
        exact v.ok b q x'
    · have c : ¬ m b := fun c => by rw [h b c] at x; cases x
      show (if m b then none else v.S b) = some q
      rw [if_neg c]
      exact e.st b q (sm b q x)
    · show (if m b then none else v.S b) = none
      by_cases c : m b
      · rw [if_pos c]
      · rw [if_neg c]
        exact e.nw b (fun z => z) (by show (if m b then w.H b else w.S b) = none; rw [if_neg c]; exact x) z
open Classical in
/-- several cells laid for good -/
theorem layM {w : Wd} {R : Hp → Prop} (m : Addr → Prop) (h : ∀ l, m l → w.S l = none) (k : ∀ v, Ext m w v → (∀ l o, m l → w.H l = some o → v.S l = some o) → R v.H) : R w.H := by
  refine k ⟨fun b => if m b then w.H b else w.S b, w.H, fun b q x => ?_⟩ ⟨fun b q x => ?_, fun b q _ x => x, fun b n x z => ?_, fun b x => x⟩ fun l o hm ho => by show (if m l then w.H l else w.S l) = some o; rw [if_pos hm]; exact ho
  · by_cases c : m b
    · have x' : (if m b then w.H b else w.S b) = some q := x
      rw [if_pos c] at x'
      exact x'
    · have x' : (if m b then w.H b else w.S b) = some q := x
      rw [if_neg c] at x'
      exact w.ok b q x'
  · show (if m b then w.H b else w.S b) = some q
    rw [if_neg (fun c => by rw [h b c] at x; cases x)]
    exact x
  · show (if m b then w.H b else w.S b) = none
    rw [if_neg n]
    exact x
/-- lists of one's own, what they hold -/
structure OL (w : Wd) (ps : List Addr) (ds : List (List PyData)) : Prop where
  l : ps.length = ds.length
  n : ps.Nodup
  o : ∀ (i : Nat) (p : Addr) (d : List PyData), ps[i]? = some p → ds[i]? = some d → ∃ vs, Own w p (.lst vs) ∧ RpA w.S vs d
theorem OL.go {m : Addr → Prop} {w v : Wd} {ps : List Addr} {ds : List (List PyData)} (e : Ext m w v) (n : ∀ p ∈ ps, ¬ m p) (h : OL w ps ds) : OL v ps ds :=
  ⟨h.l, h.n, fun i p d hp hd => by
    obtain ⟨vs, o, r⟩ := h.o i p d hp hd
    exact ⟨vs, o.ext e (n p (List.mem_of_getElem? hp)), r.go e⟩⟩
theorem OL.mem {w : Wd} {ps : List Addr} {ds : List (List PyData)} (h : OL w ps ds) {p : Addr} (hp : p ∈ ps) : ∃ vs, ∃ d ∈ ds, Own w p (.lst vs) ∧ RpA w.S vs d := by
  obtain ⟨i, hi⟩ := List.getElem?_of_mem hp
  have hlt : i < ps.length := (List.getElem?_eq_some_iff.mp hi).1
  obtain ⟨d, hd⟩ : ∃ d, ds[i]? = some d := ⟨_, List.getElem?_eq_getElem (by rw [← h.l]; exact hlt)⟩
  obtain ⟨vs, o, r⟩ := h.o i p d hi hd
  exact ⟨vs, d, List.mem_of_getElem? hd, o, r⟩
theorem OL.nil {w : Wd} : OL w [] [] := ⟨rfl, List.nodup_nil, fun i p d h => by simp at h⟩
theorem OL.snoc {w : Wd} {ps : List Addr} {ds : List (List PyData)} {p : Addr} {vs : List V} {d : List PyData} (h : OL w ps ds) (n : p ∉ ps) (o : Own w p (.lst vs)) (r : RpA w.S vs d) : OL w (ps ++ [p]) (ds ++ [d]) := by
  refine ⟨by simp [h.l], List.nodup_append.mpr ⟨h.n, by simp, fun a ha b hb e => n (by rw [List.mem_singleton] at hb; rw [← hb, ← e]; exact ha)⟩, fun i q x hq hx => ?_⟩
  by_cases c : i < ps.length
  · rw [List.getElem?_append_left c] at hq
    rw [List.getElem?_append_left (by rw [← h.l]; exact c)] at hx
    exact h.o i q x hq hx
  · rw [List.getElem?_append_right (by omega)] at hq
    rw [List.getElem?_append_right (by rw [← h.l]; omega)] at hx
    have h1 : i - ps.length = 0 := by
      cases hh : i - ps.length with
      | zero => rfl
      | succ k => rw [hh] at hq; simp at hq
    rw [h1] at hq
    rw [← h.l, h1] at hx
    cases hq
    cases hx
    exact ⟨vs, o, r⟩
/-- lists to be read -/
structure RL (w : Wd) (xs : List V) (ds : List (List PyData)) : Prop where
  l : xs.length = ds.length
  o : ∀ (i : Nat) (x : V) (d : List PyData), xs[i]? = some x → ds[i]? = some d → ∃ t vs, x = .ref t ∧ Rd w t (.lst vs) ∧ RpA w.S vs d
theorem OL.rl {w : Wd} {ps : List Addr} {ds : List (List PyData)} (h : OL w ps ds) : RL w (ps.map V.ref) ds :=
  ⟨by rw [List.length_map]; exact h.l, fun i x d hx hd => by
    rw [List.getElem?_map] at hx
    obtain ⟨p, hp, rfl⟩ := Option.map_eq_some_iff.mp hx
    obtain ⟨vs, o, r⟩ := h.o i p d hp hd
    exact ⟨p, vs, rfl, .inr o, r⟩⟩
theorem RpA.rl {w : Wd} {xs : List V} {ds : List (List PyData)} (h : RpA w.S xs (ds.map PyData.list)) : RL w xs ds :=
  ⟨by have := h.length; rw [List.length_map] at this; exact this, fun i x d hx hd => by
    obtain ⟨e, he, hr⟩ := h.get hx
    rw [List.getElem?_map, hd] at he
    cases he
    obtain ⟨t, vs, rfl, s, r⟩ := hr.list_inv
    exact ⟨t, vs, rfl, .inl s, r⟩⟩
theorem RL.go {m : Addr → Prop} {w v : Wd} {xs : List V} {ds : List (List PyData)} (e : Ext m w v) (n : ∀ t, V.ref t ∈ xs → ¬ m t) (h : RL w xs ds) : RL v xs ds :=
  ⟨h.l, fun i x d hx hd => by
    obtain ⟨t, vs, rfl, r, ra⟩ := h.o i x d hx hd
    exact ⟨t, vs, rfl, r.go e (n t (List.mem_of_getElem? hx)), ra.go e⟩⟩
/-- a list of lists that stands for good -/
theorem rpa_refs {S : Hp} : ∀ {ps : List Addr} {ds : List (List PyData)}, ps.length = ds.length → (∀ (i : Nat) (p : Addr) (d : List PyData), ps[i]? = some p → ds[i]? = some d → ∃ vs, S p = some (.lst vs) ∧ RpA S vs d) → RpA S (ps.map V.ref) (ds.map PyData.list)
  | [], [], _, _ => .nil
  | p :: ps, d :: ds, hl, h => by
    obtain ⟨vs, s, r⟩ := h 0 p d rfl rfl
    exact .cons (.lst s r) (rpa_refs (by simpa using hl) fun i q e hq he => h (i + 1) q e hq he)
  | [], _ :: _, hl, _ => by simp at hl
  | _ :: _, [], hl, _ => by simp at hl
/-- the cells of a list of lists -/
def cellsOf (r : Addr) (ps : List Addr) : Addr → Prop := fun b => b = r ∨ b ∈ ps
theorem OL.none {w : Wd} {r : Addr} {ps : List Addr} {xs : List V} {ds : List (List PyData)} (h : OL w ps ds) (o : Own w r (.lst xs)) : ∀ l, cellsOf r ps l → w.S l = none := fun l hl => by
  rcases hl with rfl | hl
  · exact o.s
  · obtain ⟨vs, d, _, o, _⟩ := h.mem hl
    exact o.s
/-- lists of lists laid for good -/
theorem lay_ol {w : Wd} {r : Addr} {ps : List Addr} {ds : List (List PyData)} {R : Hp → Prop} (h : OL w ps ds) (o : Own w r (.lst (ps.map V.ref))) (k : ∀ v, Ext (cellsOf r ps) w v → Rp v.S (.ref r) (.list (ds.map PyData.list)) → R v.H) : R w.H := by
  refine layM (cellsOf r ps) (h.none o) fun v e hs => k v e (.lst (hs r _ (.inl rfl) o.h) (rpa_refs h.l fun i p d hp hd => ?_))
  obtain ⟨vs, o2, r2⟩ := h.o i p d hp hd
  exact ⟨vs, hs p _ (.inr (List.mem_of_getElem? hp)) o2.h, r2.go e⟩
/-- lists of lists lent -/
theorem lend_ol {w : Wd} {r : Addr} {ps : List Addr} {ds : List (List PyData)} (h : OL w ps ds) (o : Own w r (.lst (ps.map V.ref))) : ∃ w' : Wd, w'.H = w.H ∧ Rp w'.S (.ref r) (.list (ds.map PyData.list)) ∧ Same w.S w'.S ∧ ∀ v, Ext Non w' v → ∃ u : Wd, u.H = v.H ∧ Ext Non w u := by
  obtain ⟨w', e1, e2, e3, e4⟩ := lendM (cellsOf r ps) (h.none o)
  refine ⟨w', e1, .lst (e2 r _ (.inl rfl) o.h) (rpa_refs h.l fun i p d hp hd => ?_), e3, e4⟩
  obtain ⟨vs, o2, r2⟩ := h.o i p d hp hd
  exact ⟨vs, e2 p _ (.inr (List.mem_of_getElem? hp)) o2.h, RpA.mono e3 _ _ r2⟩
section
variable {w : Wd}
/-- [list, for x in xs]: a new list of new lists -/
theorem lc_own {α : Type} {rows : List α} {J : It} {n : Nat} {G : Wd → Prop} {xs : List V} (k : WWalk J n G (YI xs)) {g : TG} {tt : TT} {te : TE} {js : List Nat} {σ : L2.St} {D : Addr} {Qd : Hp → Prop} (gd : α → List PyData) (hD : w.H D = none)
    (hlen : rows.length = n) (hz : n < sizeLine) (hG : ∀ u, Ext (One D) w u → G u)
    (hs : ∀ i x q u, i < n → xs[i]? = some x → rows[i]? = some q → Ext (One D) w u → ∀ (R : VK) (Z : Hp → Prop), (∀ v p vs, Ext Non u v → u.H p = none → Own v p (.lst vs) → RpA v.S vs (gd q) → R (.ref p) v.H) →
      g x (wipe σ js) u.H fun σ2 H2 => wipe σ2 js = wipe σ js ∧ tt σ2 H2 fun b H3 => if b = true then te σ2 H3 R else Z H3)
    (hd : ∀ u ps, Ext Non w u → Own u D (.lst (ps.map V.ref)) → OL u ps (rows.map gd) → (∀ p ∈ ps, w.H p = none ∧ p ≠ D) → Qd u.H) :
    ∃ W : Nat → Nat → Hp → Prop, (∃ m, W 0 m (upd w.H D (.lst []))) ∧ ∀ i m H, W i m H →
      (J.stop i H ∧ Qd H) ∨ (J.go i H ∧ ∃ Nx : Hp → Prop, (∀ H', Nx H' → ∃ m', m' < m ∧ W (i + 1) m' H') ∧ ∀ x H', J.yld i H x H' → g x (wipe σ js) H' fun σ2 H2 => wipe σ2 js = wipe σ js ∧ tt σ2 H2 fun b H3 =>
        if b = true then te σ2 H3 fun y H4 => ∃ acc, H4 D = some (.lst acc) ∧ acc.length < sizeLine ∧ Nx (upd H4 D (.lst (acc ++ [y]))) else Nx H3) := by
  refine lcW k (fun i u acc => Ext (One D) w u ∧ ∃ ps, acc = ps.map V.ref ∧ OL u ps ((rows.take i).map gd) ∧ ∀ p ∈ ps, w.H p = none ∧ p ≠ D) hD (fun u e o => ⟨e.more fun _ z => z.elim, [], rfl, OL.nil, fun p hp => by cases hp⟩) (fun i u acc _ p => hG u p.1) ?_ ?_
  · rintro i x u0 u acc hi o ⟨e, ps, rfl, hO, hf⟩ ⟨rfl, hx⟩
    have hi' : i < rows.length := by omega
    have ht : rows.take (i + 1) = rows.take i ++ [rows[i]] := by rw [List.take_add_one, List.getElem?_eq_getElem hi']; rfl
    have hal : (ps.map V.ref).length < sizeLine := by
      have h1 := hO.l
      rw [List.length_map, List.length_take] at h1
      rw [List.length_map]
      omega
    refine hs i x rows[i] _ hi hx (List.getElem?_eq_getElem hi') e _ _ (fun t p vs et np op rp => ?_)
    have hpD : p ≠ D := o.ne' np
    have hnp : p ∉ ps := fun hm => by
      obtain ⟨vs', d, _, o', _⟩ := hO.mem hm
      exact (o'.ne' np) rfl
    have hwp : w.H p = none := e.back np
    refine lc_put (o.ext et fun z => z) hal fun z ez oz => ⟨(e.step et fun _ z => z.elim).step ez fun l hl => .inr hl, ps ++ [p], by rw [List.map_append]; rfl, ?_, fun q hq => ?_⟩
    · rw [ht, List.map_append]
      have h1 : OL t ps ((rows.take i).map gd) := hO.go et fun _ _ z => z
      exact (h1.snoc hnp op rp).go ez fun q hq e => by
        have e : q = D := e
        rcases List.mem_append.mp hq with hq | hq
        · exact (hf q hq).2 e
        · rw [List.mem_singleton] at hq
          exact hpD (hq ▸ e)
    · rcases List.mem_append.mp hq with hq | hq
      · exact hf q hq
      · rw [List.mem_singleton] at hq
        exact hq ▸ ⟨hwp, hpD⟩
  · rintro u acc ⟨e, ps, rfl, hO, hf⟩ o
    refine hd u ps (e.more fun l hl => .inl (by rw [show l = D from hl]; exact hD)) o ?_ hf
    rw [← hlen, List.take_length] at hO
    exact hO
end
end G

set_option linter.all false
set_option maxRecDepth 100000
/-! o[i] op= e, of a list -/
namespace L2
open PySem PySem.Spec PyProof.Rows
section
variable {X : Cx}
def rGetL (K : PySem.W.Frag) : V → V → Hp → VK → Prop := fun x y H Q => ∃ p xs i v, x = .ref p ∧ y = .int i ∧ 0 ≤ i ∧ SqL K H p xs ∧ atI xs i = some v ∧ Q v H
theorem get_list : PGet X (rGetL X.K) := by
  intro pins s σ H x y v u Q I rx ry h
  obtain ⟨p, xs, i, z, rfl, rfl, h0, hq, he, q⟩ := h
  cases rx
  obtain ⟨t, rfl⟩ := ry
  obtain ⟨its, r, pl, hz⟩ := I.list hq
  obtain ⟨j, h1, h2, h3, h4, h5⟩ := atI_get he
  obtain ⟨w, ew, rw'⟩ := r.get h2
  have hl := r.length
  have hn := line63
  have hj : i.toNat = j := by
    rw [seqIndex_of h0 h5] at h1
    exact Option.some.inj h1
  exact wpAny_getItem_list pl.isList h0 (by omega) (by rw [hj]; simpa using ew) ⟨z, H, I, rw', q⟩
end
end L2
namespace G
open PySem L2
theorem kGetL {X : Cx} (K : PySem.W.Frag) (e : X.K = K := by rfl) : PGet X (rGetL K) := e ▸ get_list
section
variable {K : PySem.W.Frag} {σ : L2.St} {H : Hp} {D : Ends} {to ti te : TE} {tget : V → V → Hp → VK → Prop} {tip : TIp} {tset : TSet}
theorem s_augS (k : to σ H fun o H1 => ti σ H1 fun i H2 => tget o i H2 fun x H3 => te σ H3 fun y H4 => tip x y H4 fun z H5 => tset o i z H5 fun H6 => D.nx σ H6) : tAugS to ti te tget tip tset D σ H := k
theorem s_getO {w : Wd} {p : Addr} {vs : List V} {i : Int} {v : V} {Q : VK} (h : Own w p (.lst vs)) (h0 : 0 ≤ i) (e : atI vs i = some v) (k : Q v w.H) : rGetL K (.ref p) (.int i) w.H Q := ⟨p, vs, i, v, rfl, rfl, h0, SqL.of h.h, e, k⟩
theorem s_ipI {f : Int → Int → Int} {i j : Int} {Q : VK} (k : Q (.int (f i j)) H) : ipI f (.int i) (.int j) H Q := ⟨i, j, rfl, rfl, k⟩
end
end G

set_option linter.all false
set_option maxRecDepth 100000
/-! an exception that is kept behind its except suite -/
namespace L2
open PySem PySem.Spec PyProof.Rows
/-- at a: an exception that was caught, of the class cls, its dict at d -/
def exk (a : Addr) (cls : Value) (d : Option Addr) : HO := .ext fun h => ∃ o, h.get? a = some o ∧ Zc cls d o ∧ ∃ vs, o.data = .fields vs
theorem exk_ok {P : Program} {w : World} {H : Hp} {h : Heap} {a : Addr} {cls : Value} {d : Option Addr} {oe : Obj} {vs : Array Value} (ha : h.get? a = some oe) (hz : Zc cls d oe) (hd : oe.data = .fields vs) : ObjOk P w H h a (exk a cls d) :=
  ⟨⟨oe, ha, hz, vs, hd⟩, ⟨oe, ha⟩, fun h1 h2 x k => by
    obtain ⟨o, q, z⟩ := x
    exact ⟨o, k _ q, z⟩⟩
theorem exk_at {P : Program} {w : World} {H : Hp} {h : Heap} {a : Addr} {cls : Value} {d : Option Addr} (hok : HOk P w H h) (he : H a = some (exk a cls d)) : ∃ o, h.get? a = some o ∧ Zc cls d o ∧ ∃ vs, o.data = .fields vs := by
  have x : ObjOk P w H h a (.ext fun h => ∃ o, h.get? a = some o ∧ Zc cls d o ∧ ∃ vs, o.data = .fields vs) := hok a _ he
  exact x.1
theorem Inv.adopt {X : Cx} {pins : List (Addr × Obj)} {σ : List (Option V)} {H : Hp} {s : Shared} {a : Addr} {cls : Value} {d : Option Addr} {oe : Obj} {vs : Array Value} (I : Inv X pins σ H s) (ha : s.heap.get? a = some oe) (hz : Zc cls d oe) (hd : oe.data = .fields vs)
    (na : H a = none) (nL : a ≠ X.env.locals) (fr : ∀ o, X.s_0.heap.get? a = some o → a ∈ X.ex) (np : ∀ p ∈ X.pn ++ pins, p.1 ≠ a) : Inv X pins σ (upd H a (exk a cls d)) s := by
  refine ⟨I.ok, I.os, I.bare, ⟨I.base.keep, I.base.slot, fun b o q n hx => ?_, I.base.there, fun b xs q => ?_, fun b o u q => ?_, fun b ps q => ?_⟩, I.loc, I.cell, ?_, fun x c e => ?_, fun p hp => ?_, fun b u e => ?_, I.len⟩
  · rw [upd_ne (fun e => by subst e; exact hx (fr o q))]
    exact I.base.free b o q n hx
  · have z := I.base.tups b xs q
    rw [upd_ne (ne_of_none z na)]
    exact z
  · have z := I.base.frzs b o u q
    rw [upd_ne (ne_of_none z na)]
    exact z
  · obtain ⟨more, z⟩ := I.base.tbls b ps q
    exact ⟨more, by rw [upd_ne (ne_of_none z na)]; exact z⟩
  · rw [upd_ne (fun e => nL e.symm)]
    exact I.free
  · have z := I.freeC x c e
    rw [upd_ne (fun h => by
      obtain ⟨v, hv⟩ := I.cell x c e
      obtain ⟨o, ho, hdat⟩ := hv
      rw [h, ha] at ho
      cases ho
      rw [hd] at hdat
      cases hdat)]
    exact z
  · have z := I.pin p hp
    refine ⟨z.1, ?_, z.2.2⟩
    rw [upd_ne (np p hp)]
    exact z.2.1
  · by_cases hb : b = a
    · subst hb
      rw [upd_same] at e
      cases e
      exact exk_ok ha hz hd
    · rw [upd_ne hb] at e
      exact (I.hok b u e).stay (fun c v _ q => q) (fun c q => by rw [upd_ne (ne_of_none q na)]; exact q) fun c xs q => by rw [upd_ne (ne_of_none q na)]; exact q
/-- what the clause 'except x as n' wishes, the exception living on behind it -/
def wAsK (K : PySem.W.Frag) (c : Value) (i : Nat) (ts : Addr → Value → Option Addr → TS) (Wout : WX) (D : Ends) : WX := fun cls d σ H =>
  ∃ b, PySem.W.exmOne K cls c = some b ∧ (b = true → ∀ a, H a = none → ts a cls d { nx := fun σ' H' => D.nx (σ'.set i none) (upd H' a (exk a cls d)), rt := D.rt, bk := fun σ' H' => D.bk (σ'.set i none) H', ct := fun σ' H' => D.ct (σ'.set i none) H' } (σ.set i (some (.ref a))) H) ∧
    (b = false → Wout cls d σ H)
section
variable {X : Cx} {x n : Str} {c : Value} {i : Nat} {body suite : List Stmt} {b₀ : Stmt} {np pos pos' : Pos} {tb : WX → TS} {ts : Addr → Value → Option Addr → TS} {Wout : WX}
theorem ps_try_keep (hs : X.stack = X.env :: X.outer) (hf : X.env.frame = some X.env.locals) (hN : X.N.Nodup) (hi : X.N[i]? = some n) (hln : X.env.kindOf n = some .local) (hc : Names X x c) (tk : Takes X Wout)
    (hb : ∀ (W : WX) (pn : List (Addr × Obj)) (xe : Value → Shared → Prop), Takes (X.tr pn xe) W → PassesOwn (model X.prog X.w) X.A X.env xe → PSs (X.tr pn xe) body (tb W))
    (hsu : ∀ (a : Addr) (oe : Obj) (cls : Value) (d : Option Addr) (pn : List (Addr × Obj)), Zc cls d oe → (∃ vs, oe.data = .fields vs) → PSs (X.suite a ((a, oe) :: pn)) (b₀ :: suite) (ts a cls d)) :
    PS X (.Try body [.ExceptHandler (some (.Name x np)) (some n) (b₀ :: suite) pos'] [] [] pos) (fun D σ H => tb (wAsK X.K c i ts Wout D) D σ H) := by
  refine ⟨fun pins s σ H D I h => ?_⟩
  have ok := I.ok
  have hfr : X.A.frames = some (X.env :: X.outer) := by rw [ok.frames, hs]
  refine wpAny_Try_except ?_
  refine wpAny_mono ((hb (wAsK X.K c i ts Wout D) (X.pn ++ pins) (fun e s₁ => wpAny (model X.prog X.w) X.A (noteFrame e X.env) (fun _ s₂ => wpAny (model X.prog X.w) X.A (setFlight e none) (fun _ s₃ =>
    wpAny (model X.prog X.w) X.A (handleBy e X.env [.ExceptHandler (some (.Name x np)) (some n) (b₀ :: suite) pos']) (SP X pins D) X.xe s₃) X.xe s₂) X.xe s₁) (fun u s' xx => ?_) PassesOwn.looking).run [] s σ H D (I.toTry _) h) (fun f s1 hsp => ?_) (fun e s1 he => he)
  · obtain ⟨a, B, sI, pins', σ', H', cls, d, rfl, J', nb, up, sky, na, os, ag, w⟩ := xx
    have J : Inv X pins σ' H' sI := J'.ofTry ok
    have sky' : Sky B (X.env :: X.outer) a (Zc cls d) X.env.locals s'.heap := by rw [← hs]; exact sky
    show wpAny (model X.prog X.w) X.A (noteFrame (.ref a) X.env) _ _ _
    refine Sky.land Zc.steady hfr hf sky' fun h3 fl3 up3 => ?_
    have J3 : Inv X pins σ' H' { s' with heap := h3 } := J.landed nb fl3.1 (up.trans up3) os ag
    obtain ⟨oe3, vs3, he3, hz3, hd3⟩ := fl3.there
    have nfr : a ∉ frs (X.env :: X.outer) := fun hm => by
      obtain ⟨_, o', e', hnf⟩ := fl3.2.2.1.mem hm
      rw [he3] at e'; cases e'
      exact hnf _ hd3
    have nL : a ≠ X.env.locals := fun z => nfr (List.mem_filterMap.mpr ⟨X.env, List.mem_cons_self, by rw [hf, z]⟩)
    have nF : a ∉ X.fs := fun hm => by
      obtain ⟨e, he, q⟩ := List.mem_filterMap.mp hm
      exact nfr (List.mem_filterMap.mpr ⟨e, List.mem_cons_of_mem _ he, q⟩)
    have S3 := J3.suite he3 hd3 na nL nF
    have old : sI.heap.get? a = none := by
      cases e : sI.heap.get? a with
      | none => rfl
      | some o =>
        have z := nb a o e (by rw [hs]; exact nfr)
        rw [fl3.2.1] at z
        cases z
    have fr0 : ∀ o, X.s_0.heap.get? a = some o → a ∈ X.ex := fun o e => by
      by_cases hx : a ∈ X.ex
      · exact hx
      · obtain ⟨o', e'⟩ := J.base.there a o e hx
        rw [old] at e'
        cases e'
    have np0 : ∀ q ∈ X.pn ++ pins, q.1 ≠ a := fun q hq e => by
      have z := (J.pin q hq).1
      rw [e, old] at z
      cases z
    obtain ⟨b, hb1, hyes, hno⟩ := w
    refine wpAny_handleBy_cons (codeAny_handlers_test ?_) (by intro q; cases q)
    have LT : PySem.W.Looks (model X.prog X.w) h3 (typeOf (.ref a)) cls := fun A Q E s k q => wpAny_typeOf_ref (k _ _ he3) (by rw [hz3.1]; exact q)
    have LM := PySem.W.exm_one (M := model X.prog X.w) (J3.kIn) LT hb1
    have test : ∀ {Q : Value → Shared → Prop} {E : Value → Shared → Prop}, Q c { s' with heap := h3 } → wpAny (model X.prog X.w) (X.A.mark (some (.ref a))) (eval (.Name x np) X.env) Q E { s' with heap := h3 } := fun {Q E} q => by
      obtain ⟨hg, hdbg, hm | ⟨hm, hv, hnn⟩⟩ := hc
      · exact ld_glob (X := X.suite a ((a, oe3) :: (X.pn ++ pins))) S3 hg hm q hdbg
      · exact ld_blt (X := X.suite a ((a, oe3) :: (X.pn ++ pins))) S3 hg hm hv q hnn hdbg
    refine test (LM.here ?_)
    cases b with
    | true =>
      have hloc : Loc X.env.scope n := .inl hln
      refine codeAny_handlers_suite_as ?_
      refine HandSPX.lands_againZ fl3 fun h4 fl4 up4 => ?_
      have J4 : Inv X pins σ' H' { s' with heap := h4 } := J.landed nb fl4.1 ((up.trans up3).trans up4) os ag
      obtain ⟨oe4, vs4, he4, hz4, hd4⟩ := fl4.there
      have S4 := J4.suite he4 hd4 na nL nF
      refine store_ok (X := X.suite a ((a, oe4) :: (X.pn ++ pins))) (v := .ref a) S4 hN hi hloc rfl (fun s5 S5 => ?_) (.inr hln)
      refine wpAny_mono ((hsu a oe4 cls d (X.pn ++ pins) hz4 ⟨_, hd4⟩).run [] s5 _ H' _ S5 (hyes rfl a na)) (fun f s6 hsp => ?_) (fun _ _ z => False.elim z)
      have keep : ∀ {σ6 : St} {H6 : Hp} {Q : Shared → Prop}, Inv (X.suite a ((a, oe4) :: (X.pn ++ pins))) [] σ6 H6 s6 → (∀ s7, Inv X pins (σ6.set i none) (upd H6 a (exk a cls d)) s7 → Q s7) →
          wpAny (model X.prog X.w) X.A (do bindName X.env n .none; unbindBehindTheSuite X.env n pos') (fun _ s7 => Q s7) X.xe s6 := fun {σ6 H6 Q} S6 hq => gone_ok (X := X.suite a ((a, oe4) :: (X.pn ++ pins))) S6 hN hi hln fun s7 S7 => hq s7 (by
            have pa := S7.pin (a, oe4) (List.mem_append_left _ List.mem_cons_self)
            exact (S7.unsuite ok).adopt pa.1 hz4 hd4 pa.2.1 nL fr0 np0)
      have fin : ∀ {σ6 : St} {H6 : Hp} {Q : Shared → Prop}, Inv (X.suite a ((a, oe4) :: (X.pn ++ pins))) [] σ6 H6 s6 → (∀ s7, Inv X pins (σ6.set i none) H6 s7 → Q s7) →
          wpAny (model X.prog X.w) X.A (do bindName X.env n .none; unbindBehindTheSuite X.env n pos') (fun _ s7 => Q s7) X.xe s6 := fun {σ6 H6 Q} S6 hq => gone_ok (S6.unsuite ok) hN hi hln hq
      cases f with
      | next =>
        obtain ⟨σ6, H6, S6, q6⟩ := hsp
        exact keep S6 fun s7 J7 => ⟨_, _, J7, q6⟩
      | brk =>
        obtain ⟨σ6, H6, S6, q6⟩ := hsp
        exact fin S6 fun s7 J7 => ⟨_, _, J7, q6⟩
      | cont =>
        obtain ⟨σ6, H6, S6, q6⟩ := hsp
        exact fin S6 fun s7 J7 => ⟨_, _, J7, q6⟩
      | ret u =>
        obtain ⟨v6, σ6, H6, S6, r6, q6⟩ := hsp
        exact fin S6 fun s7 J7 => ⟨_, _, _, J7, r6, q6⟩
    | false =>
      show wpAny _ X.A (handleBy (.ref a) X.env []) _ _ _
      refine wpAny_handleBy_nil ?_
      obtain ⟨k1, k2, k3, oe, vs, T, oT, ts', he, hz, hd, h1, hr⟩ := id fl3
      unfold PySem.passOn
      refine wpAny_bind (wpAny_field he hd h1 ?_)
      rw [if_neg (show ¬ ((Value.ref T == Value.none) = true) from by simp)]
      have fin : wpAny (model X.prog X.w) X.A (setFlight (.ref a) X.env.frame) (fun _ s4 => wpAny (model X.prog X.w) X.A (throw (.ref a) : Sem Flow) (SP X pins D) X.xe s4) X.xe { s' with heap := h3 } := by
        rw [hf]
        refine HandSPX.setFlight_upZ fl3 fun h4 hh4 up4 => wpAny_throw (tk _ _ ?_)
        exact ⟨a, B, sI, pins, σ', H', cls, d, rfl, J, nb, (up.trans up3).trans up4, .inr (.inr (by rw [hs]; exact hh4)), na, os, ag, hno rfl⟩
      first
        | exact wpAny_bind (wpAny_pure (wpAny_bind fin))
        | exact wpAny_bind fin
  · cases f with
    | next =>
      obtain ⟨σ', H', J', q⟩ := hsp
      exact wpAny_execs_nil ⟨σ', H', J'.ofTry ok, q⟩
    | brk =>
      obtain ⟨σ', H', J', q⟩ := hsp
      exact ⟨σ', H', J'.ofTry ok, q⟩
    | cont =>
      obtain ⟨σ', H', J', q⟩ := hsp
      exact ⟨σ', H', J'.ofTry ok, q⟩
    | ret u =>
      obtain ⟨v, σ', H', J', r, q⟩ := hsp
      exact ⟨v, σ', H', J'.ofTry ok, r, q⟩
end
end L2
namespace L2
open PySem PySem.Spec PyProof.Rows
/-- isinstance of an exception that is kept -/
def rIsK (K : PySem.W.Frag) : List V → Hp → VK → Prop := fun xs H Q => ∃ (a E dd : Addr) (fs : List (Str × V)) (c : V) (cv : Value) (b : Bool), xs = [.ref a, c] ∧ H a = some (exk a (.ref E) (some dd)) ∧ ExcC K E ∧ (∀ u, RelV c u → u = cv) ∧ PySem.W.kitOne K (.ref E) cv = some b ∧
  H dd = some (.xd fs) ∧ Q (.bl b) H
theorem call_isK {X : Cx} : CallR X (.builtin "isinstance") (rIsK X.K) := by
  intro pins s σ H xs us Q I r h
  obtain ⟨a, E, dd, fs, c, cv, b, rfl, hk, C, hcv, e, ea, q⟩ := h
  cases r with
  | cons rx rr =>
    cases rr with
    | cons rt rr =>
      cases rr
      cases rx
      have ec := hcv _ rt
      subst ec
      obtain ⟨oe, hget, hz, vs, hv⟩ := exk_at I.hok hk
      have hx : ObjOk X.prog X.w H s.heap dd (.xd fs) := I.hok dd _ ea
      obtain ⟨mA, hns, hr⟩ := hx
      obtain ⟨od, ho, hlk⟩ := lookIn_ns hns
      have J : PySem.W.InstAt s.heap a oe E (some od) := ⟨hget, hz.1, by unfold PySem.W.notCls; rw [hv] <;> rfl, by rw [hz.2]; exact ho⟩
      obtain ⟨cd, hcl, _⟩ := PySem.W.any_some C.hd
      exact PySem.W.kia_one (PySem.W.kitx_exc (by rw [hcl]; rfl) C.hg C.hk C.hs C.ha C.hn C.ht C.hm) I.kIn J e (fun z => nomatch z) fun tk => ⟨.bl b, H, I.kept (t' := tk) fun _ _ z => z, rfl, q⟩
end L2
namespace L2
open PySem PySem.Spec PyProof.Rows
/-- e.f of an exception that is kept -/
def gXk (K : PySem.W.Frag) (f : Str) (x : V) (H1 : Hp) (Q : VK) : Prop := ∃ (a C : Addr), x = .ref a ∧ XfC K C ∧ PySem.W.findIn K (.ref C) f = some none ∧ ∃ (dd : Addr) (fs : List (Str × V)) (v : V), H1 a = some (exk a (.ref C) (some dd)) ∧ H1 dd = some (.xd fs) ∧ fs.lookup f = some v ∧ Q v H1
def tXk (K : PySem.W.Frag) (f : Str) (te : TE) : TE := fun σ H Q => te σ H fun x H1 => gXk K f x H1 Q
theorem pe_xk {X : Cx} {e : Expr} {te : TE} {pos : Pos} {n : Str} (he : PE X e te) (hb : attributeBase e n X.env (eval e X.env) = eval e X.env := by rfl) : PE X (.Attribute e n pos) (tXk X.K n te) := by
  refine ⟨fun pins s σ H Q I h => ?_⟩
  refine attr_of hb (thn (he.run pins s σ H _ I h) fun u s1 hh => ?_)
  obtain ⟨x, H1, I1, rx, a, C, ex, T, hno, dd, fs, v, hk, ea, l, q⟩ := hh
  subst ex
  obtain rfl : u = Value.ref a := rx
  obtain ⟨oe, ha, hz, vs, hd⟩ := exk_at I1.hok hk
  have hx : ObjOk X.prog X.w H1 s1.heap dd (.xd fs) := I1.hok dd _ ea
  obtain ⟨mA, hns, hr⟩ := hx
  obtain ⟨od, ho, hl⟩ := lookIn_ns hns
  obtain ⟨u, hu, ru⟩ := RelO.some_of (v := v) (o := mA n) (by rw [← l]; exact hr n)
  have J : PySem.W.InstAt s1.heap a oe C (some od) := ⟨ha, hz.1, by unfold PySem.W.notCls; rw [hd] <;> rfl, by rw [hz.2]; exact ho⟩
  exact HandSPX.exc_get I1.kIn J T.ga T.gg T.exC (PySem.W.findObj_own T.hdC hno rfl (by rw [hl, hu])) (handed_of ru) ⟨v, H1, I1.tok _, ru, q⟩
end L2
namespace G
open PySem L2
/-- isinstance, also of a kept exception -/
def rIsiK (K : PySem.W.Frag) : List V → Hp → VK → Prop := fun xs H Q => rIsi K xs H Q ∨ rIsK K xs H Q
theorem kIsiK {X : Cx} (K : PySem.W.Frag) (eK : X.K = K := by rfl) : CallR X (.builtin "isinstance") (rIsiK K) := by
  subst eK
  intro pins s σ H xs us Q I r h
  rcases h with h | h
  · exact call_isi pins s σ H xs us Q I r h
  · exact call_isK pins s σ H xs us Q I r h
section
variable {K : PySem.W.Frag} {σ : L2.St} {H : Hp} {Q : VK} {te : TE} {f : Str} {cls : Value} {d : Option Addr} {D : Ends} {c : Value} {i : Nat} {ts : Addr → Value → Option Addr → TS} {Wout : WX}
theorem s_xk (k : te σ H fun x H1 => gXk K f x H1 Q) : tXk K f te σ H Q := k
theorem s_wAsK (e : PySem.W.exmOne K cls c = some true) (k : ∀ a, H a = none → ts a cls d { nx := fun σ' H' => D.nx (σ'.set i none) (upd H' a (exk a cls d)), rt := D.rt, bk := fun σ' H' => D.bk (σ'.set i none) H', ct := fun σ' H' => D.ct (σ'.set i none) H' } (σ.set i (some (.ref a))) H) : wAsK K c i ts Wout D cls d σ H :=
  ⟨true, e, fun _ => k, fun z => by cases z⟩
variable {w : Wd} {a dd C B : Addr} {b : Bool} {v : V}
theorem s_isKc {fs : List (Str × V)} (ec : ExcC K C) (e : PySem.W.kitOne K (.ref C) (.ref B) = some b) (h1 : w.H a = some (exk a (.ref C) (some dd))) (h2 : w.H dd = some (.xd fs)) (k : Q (.bl b) w.H) : rIsiK K [.ref a, .ref B] w.H Q :=
  .inr ⟨a, C, dd, fs, .ref B, .ref B, b, rfl, h1, ec, fun u r => r, e, h2, k⟩
theorem s_isKt {T : String} {fs : List (Str × V)} (ec : ExcC K C) (e : PySem.W.kitOne K (.ref C) (.type T) = some b) (h1 : w.H a = some (exk a (.ref C) (some dd))) (h2 : w.H dd = some (.xd fs)) (k : Q (.bl b) w.H) : rIsiK K [.ref a, .ty T] w.H Q :=
  .inr ⟨a, C, dd, fs, .ty T, .type T, b, rfl, h1, ec, fun u r => r, e, h2, k⟩
theorem s_xkv (xf : XfC K C) (n : PySem.W.findIn K (.ref C) f = some none) (h1 : w.H a = some (exk a (.ref C) (some dd))) (h2 : w.H dd = some (.xd [(f, v)])) (k : Q v w.H) : gXk K f (.ref a) w.H Q :=
  ⟨a, C, rfl, xf, n, dd, _, v, h1, h2, by simp [List.lookup], k⟩
end
end G

set_option linter.all false
set_option maxRecDepth 100000
namespace SU
open PySem PySem.Spec PyProof.Rows L2
/-- sorted(d), d a dict by numbers, fewer than 64 -/
def rSortedDI : List V → Hp → VK → Prop := fun vs H Q => ∃ (a : Addr) (kvs : List (Key × V)) (ks : List Int), vs = [V.ref a] ∧ H a = some (.dK kvs) ∧ kvs.map (·.1) = ks.map Sum.inl ∧ ks.Nodup ∧ ks.length < 64 ∧
  ∀ (ns : List Int) (p : Addr), ns.Perm ks → ns.Pairwise (· < ·) → H p = none → Q (.ref p) (upd H p (.lst (ns.map V.int)))
theorem kv_keys : ∀ {kvs : List (Key × V)} {xs : List (Key × Value)}, KV kvs xs → kvs.map (·.1) = xs.map (·.1)
  | [], _, .nil => rfl
  | _ :: _, _, .cons h t => by rw [List.map_cons, List.map_cons, kv_keys t, h.1]
section
variable {X : Cx}
theorem cr_sortedDI (hc : X.calm = true) : CallR X (.builtin "sorted") rSortedDI := by
  intro pins s σ H vs us Q I r h
  obtain ⟨a, kvs, ks, rfl, ha, hk, hnd, h64, q⟩ := h
  rw [Vals.ref1 r]
  obtain ⟨hz, lo, xs, rel, hD⟩ := dk_of I.hok ha
  obtain ⟨ep, hat⟩ := hD.dictAt
  have hkx : xs.map (·.1) = ks.map Sum.inl := (kv_keys rel).symm.trans hk
  have hxl : xs.length = ks.length := by have := congrArg List.length hkx; simpa using this
  refine Calls.call_function_entry kind_sorted plain_sorted entry_sorted (args_sorted1 _) ?_
  unfold Builtin.«sorted»
  refine wpAny_bind (m := checkCount "sorted" 1 1 _) (wpAny_pure ?_)
  refine wpAny_bind (PySem.W.kdu_collect (A := X.A.in1) (PySem.W.kdl_dict (knd := mixKind X.prog X.w) (kvs := xs) (ep := ep) lo) (I.ok.hd hc) hat (by rw [hxl, sizeLine_eq]; omega) fun h' tk acc hkeep hacc => ?_)
  have hvl : acc.toList.length = ks.length := by rw [Array.length_toList]; exact hacc.1.trans hxl
  have hI : IntsAre acc.toList ks := by
    have key : ∀ (us : List Value) (ns : List Int), us.length = ns.length → (∀ (i : Nat) (v : Value) (n : Int), us[i]? = some v → ns[i]? = some n → ∃ t, v = Value.int n t) → IntsAre us ns := by
      intro us
      induction us with
      | nil =>
        intro ns hl _
        cases ns with
        | nil => exact .nil
        | cons _ _ => simp at hl
      | cons u us ih =>
        intro ns hl hi
        cases ns with
        | nil => simp at hl
        | cons n ns =>
          obtain ⟨t, rfl⟩ := hi 0 u n rfl rfl
          exact .cons n t (ih ns (by simpa using hl) fun i v m h1 h2 => hi (i + 1) v m h1 h2)
    refine key _ _ hvl fun i v n h1 h2 => ?_
    obtain ⟨k, x, hx, hkv⟩ := hacc.2 i v (by rw [← Array.getElem?_toList]; exact h1)
    have h3 : (xs.map (·.1))[i]? = some k := by rw [List.getElem?_map, hx]; rfl
    rw [hkx, List.getElem?_map, h2] at h3
    cases h3
    have hkv : keyIs (.inl n) v = true := hkv
    rcases keyIs_shape hkv with ⟨j, t, e1, e⟩ | ⟨y, t, e1, e⟩
    · cases e1
      exact ⟨t, e⟩
    · cases e1
  refine wpAny_bind (wpAny_newList ?_ (by rw [hvl, sizeLine_eq]; omega))
  have hoL : (h'.push (seqObj "list" acc.toList.toArray 0)).get? h'.objs.size = some (seqObj "list" acc.toList.toArray 0) := Heap.get?_push_size _ rfl
  refine wpAny_bind (wpAny_holding (wpAny_call_entry slot_list_sort ⟨_, hoL, rfl⟩ entry_list_sort (list_sort_tree hoL hI (by rw [hvl]; exact h64) fun out ns' a1 a2 a3 => ⟨_, rfl, ?_⟩) (args_list_sort _)))
  obtain ⟨c, hcell⟩ := sortedHeap_at (vs := acc.toList) (out := out) hoL
  have hlen : (ns'.map V.int).length ≤ sizeLine := by rw [List.length_map, a2.length_eq, sizeLine_eq]; omega
  have hgone : s.heap.get? h'.objs.size = none := by
    cases e : s.heap.get? h'.objs.size with
    | none => rfl
    | some o => exact absurd (Heap.lt_size (hkeep _ _ e)) (Nat.lt_irrefl _)
  refine wpAny_pure ⟨_, rfl, ?_⟩
  refine ⟨.ref h'.objs.size, upd H h'.objs.size (.lst (ns'.map V.int)), I.laidN (t' := tk) (fun b u e => ?_) hgone (I.hok.gone hgone) ⟨hlen, out.toList, c, vals_of_ints a1, hcell⟩, rfl, q _ _ a2 (lt_of_le_nodup ns' a3 (a2.nodup_iff.mpr hnd)) (I.hok.gone hgone)⟩
  have q := hkeep b u e
  have hlt := Heap.lt_size q
  show (sortedHeap (h'.push (seqObj "list" acc.toList.toArray 0)) h'.objs.size acc.toList out).get? b = some u
  rw [sortedHeap_old (Nat.ne_of_lt hlt) (by rw [size_push']; exact Nat.lt_succ_of_lt hlt)]
  exact Heap.get?_push_of_some _ q
end
end SU
namespace G
open PySem L2 TL SU
theorem kSortedDI {X : Cx} (hc : X.calm = true) : CallR X (.builtin "sorted") rSortedDI := cr_sortedDI hc
section
variable {K : PySem.W.Frag} {w : Wd} {a : Addr} {Q : VK}
theorem s_sortDI {kvs : List (Key × V)} {ks : List Int} (o : Own w a (.dK kvs)) (hk : kvs.map (·.1) = ks.map Sum.inl) (hnd : ks.Nodup) (h : ks.length < 64) (k : ∀ p v (ns : List Int), Ext Non w v → w.H p = none → v.S p = some (.lst (ns.map V.int)) → ns.Perm ks → ns.Pairwise (· < ·) → Q (.ref p) v.H) : rSortedDI [.ref a] w.H Q :=
  ⟨a, kvs, ks, rfl, o.h, hk, hnd, h, fun ns p h1 h2 hp => newS (Q := Q) (fun p v e n s => k p v ns e n s h1 h2) p hp⟩
/-- d.get(k, x), d one's own by numbers -/
theorem s_dgetI {kvs : List (Key × V)} {n : Int} {z : V} (o : Own w a (.dK kvs)) (k : Q ((valV kvs (.inl n)).getD z) w.H) : ∃ r, DGet w.H a (.int n) r ∧ Q (r.getD z) w.H := ⟨_, DGet.k (k := .inl n) o.h, k⟩
theorem isD_own {kvs : List (Key × V)} (o : Own w a (.dK kvs)) : IsD w.H a := .inl ⟨kvs, .inl o.h⟩
theorem s_dputI {kvs : List (Key × V)} {n : Int} {y : V} {R : Hp → Prop} (o : Own w a (.dK kvs)) (hz : kvs.length < sizeLine) (q : ∀ u, Ext (One a) w u → Own u a (.dK (putK kvs (.inl n) y)) → R u.H) :
    ∃ b H4, V.ref a = V.ref b ∧ DPut w.H b (.int n) y H4 ∧ R H4 := ⟨a, _, rfl, DPut.k (k := .inl n) o.h hz, put (R := R) o q⟩
theorem s_dixI {kvs : List (Key × V)} {n : Int} {v : V} {P : V → Hp → Prop} (o : Own w a (.dK kvs)) (e : valV kvs (.inl n) = some v) (q : P v w.H) : ∃ b u, V.ref a = V.ref b ∧ DGet w.H b (.int n) (some u) ∧ P u w.H := ⟨a, v, rfl, by rw [← e]; exact DGet.k (k := .inl n) o.h, q⟩
end
end G

set_option linter.all false
set_option maxRecDepth 100000
/-! dicts of one's own: locked and walked, copied, listed -/
namespace SU
open PySem PySem.Spec PyProof.Rows L2
/-- dict(d) -/
def rDictC : List V → Hp → VK → Prop := fun xs H Q => ∃ (a : Addr) (kvs : List (Key × V)), xs = [V.ref a] ∧ Rd H a (.dK kvs) ∧ ∀ p, H p = none → Q (.ref p) (upd H p (.dK kvs))
/-- list(d): its keys -/
def rListDK : List V → Hp → VK → Prop := fun xs H Q => ∃ (a : Addr) (kvs : List (Key × V)), xs = [V.ref a] ∧ Rd H a (.dK kvs) ∧ ∀ p, H p = none → Q (.ref p) (upd H p (.lst (kvs.map fun kv => kV kv.1)))
section
variable {X : Cx}
theorem cr_dictC : CallR X (.type "dict") rDictC := by
  intro pins s σ H xs us Q I r h
  obtain ⟨a, kvs, rfl, ha, q⟩ := h
  rw [Vals.ref1 r]
  exact d_copyOf I ha fun p s' hp I' => ⟨.ref p, _, I', rfl, q p hp⟩
theorem cr_listDK (hc : X.calm = true) : CallR X (.type "list") rListDK := by
  intro pins s σ H xs us Q I r h
  obtain ⟨a, kvs, rfl, ha, q⟩ := h
  rw [Vals.ref1 r]
  obtain ⟨hz, lo, ys, rel, hD⟩ := dk_rd I.hok ha
  obtain ⟨ep, hat⟩ := hD.dictAt
  have hl : kvs.length = ys.length := rel.length
  refine PySem.W.kdl_call (PySem.W.kdl_dict (knd := mixKind X.prog X.w) (kvs := ys) (ep := ep) lo) (I.ok.hd hc) hat (by omega) fun h' tk acc c hkeep hS hacc => ?_
  have hv : Vals (kvs.map fun kv => kV kv.1) acc.toList := by
    have key : ∀ (vs : List V) (us : List Value), vs.length = us.length → (∀ (i : Nat) (v : V) (u : Value), vs[i]? = some v → us[i]? = some u → RelV v u) → Vals vs us := by
      intro vs
      induction vs with
      | nil =>
        intro us hl _
        cases us with
        | nil => exact .nil
        | cons _ _ => simp at hl
      | cons v vs ih =>
        intro us hl hi
        cases us with
        | nil => simp at hl
        | cons u us => exact .cons (hi 0 v u rfl rfl) (ih us (by simpa using hl) fun i v u h1 h2 => hi (i + 1) v u h1 h2)
    have h9 : acc.toList.length = ys.length := by rw [Array.length_toList]; exact hacc.1
    refine key _ _ (by rw [List.length_map, h9]; exact hl) fun i v u h1 h2 => ?_
    obtain ⟨k, x, hx, hkv⟩ := hacc.2 i u (by rw [← Array.getElem?_toList]; exact h2)
    have h3 : (kvs.map (·.1))[i]? = some k := by rw [kv_keys rel, List.getElem?_map, hx]; rfl
    rw [List.getElem?_map] at h1 h3
    obtain ⟨kv, e1, rfl⟩ := Option.map_eq_some_iff.mp h1
    rw [e1] at h3
    cases h3
    exact relV_key (show keyIs kv.1 u = true from hkv)
  exact ⟨.ref s.heap.objs.size, upd H s.heap.objs.size (.lst (kvs.map fun kv => kV kv.1)), I.laid (t' := tk) hkeep (Nat.le_refl _) ⟨by rw [List.length_map]; exact hz, acc.toList, c, hv, by simpa using hS⟩, rfl, q _ (I.hok.fresh (Nat.le_refl _))⟩
end
end SU
namespace G
open PySem L2 TL SU
theorem kDictC {X : Cx} : CallR X (.type "dict") rDictC := cr_dictC
theorem kListDK {X : Cx} (hc : X.calm = true) : CallR X (.type "list") rListDK := cr_listDK hc
section
variable {K : PySem.W.Frag} {w : Wd} {a d : Addr} {Q : VK} {kvs : List (Key × V)} {od : Obj}
theorem s_dictC (o : Own w a (.dK kvs)) (k : ∀ p v, Ext Non w v → w.H p = none → Own v p (.dK kvs) → Q (.ref p) v.H) : rDictC [.ref a] w.H Q := ⟨a, kvs, rfl, .inl o.h, newO (Q := Q) fun p v e n s => k p v e n s⟩
theorem s_listDK (o : Own w a (.dK kvs)) (k : ∀ p v, Ext Non w v → w.H p = none → v.S p = some (.lst (kvs.map fun kv => kV kv.1)) → Q (.ref p) v.H) : rListDK [.ref a] w.H Q := ⟨a, kvs, rfl, .inl o.h, newS (Q := Q) fun p v e n s => k p v e n s⟩
theorem s_lock {t : TS} {D : Ends} {σ : L2.St} (o : Own w a (.dK kvs)) (k : ∀ od v, Ext (One a) w v → Own v a (.frz od (.dK kvs)) → t ⟨fun σ' H' => H' a = some (.frz od (.dK kvs)) ∧ D.nx σ' (upd H' a (.dK kvs)), fun x H' => H' a = some (.frz od (.dK kvs)) ∧ D.rt x (upd H' a (.dK kvs)), fun σ' H' => H' a = some (.frz od (.dK kvs)) ∧ D.bk σ' (upd H' a (.dK kvs)), fun σ' H' => H' a = some (.frz od (.dK kvs)) ∧ D.ct σ' (upd H' a (.dK kvs))⟩ σ v.H) : tLock t D σ w.H :=
  ⟨a, .dK kvs, o.h, trivial, fun od => put (R := t _ σ) o fun v e o => k od v e o⟩
theorem s_unl {R : Hp → Prop} (o : Own w a (.frz od (.dK kvs))) (k : ∀ v, Ext (One a) w v → Own v a (.dK kvs) → R v.H) : w.H a = some (.frz od (.dK kvs)) ∧ R (upd w.H a (.dK kvs)) := ⟨o.h, put (R := R) o k⟩
def YK (kvs : List (Key × V)) : Nat → Wd → V → Wd → Prop := fun i w x v => v = w ∧ ∃ k y, kvs[i]? = some (k, y) ∧ x = kV k
def YIt (kvs : List (Key × V)) : Nat → Wd → V → Wd → Prop := fun i w x v => ∃ T k y, x = .ref T ∧ Ext Non w v ∧ w.H T = none ∧ v.S T = some (.tup [kV k, y]) ∧ kvs[i]? = some (k, y)
theorem ww_keys : WWalk (Itk d od kvs) kvs.length (fun w => w.H d = some (.frz od (.dK kvs))) (YK kvs) :=
  ⟨fun i w h q => ⟨q, h⟩, fun w q => ⟨q, Nat.le_refl _⟩, fun i w x H' h q y => ⟨w, y.1.symm, rfl, y.2⟩⟩
theorem ww_items : WWalk (Iti d od kvs) kvs.length (fun w => w.H d = some (.frz od (.dK kvs))) (YIt kvs) :=
  ⟨fun i w h q => ⟨q, h⟩, fun w q => ⟨q, Nat.le_refl _⟩, fun i w x H' h q y => by
    obtain ⟨T, k, v, hk, rfl, hT, rfl⟩ := y
    refine newS (w := w) (o := .tup [kV k, v]) (Q := fun r H' => r = .ref T → ∃ u : Wd, u.H = H' ∧ YIt kvs i w (.ref T) u) (fun p u e n s hq => ?_) T hT rfl
    cases hq
    exact ⟨u, rfl, T, k, v, rfl, e, n, s, hk⟩⟩
theorem dgetR (h : w.H a = some (.dK kvs) ∨ ∃ o, w.H a = some (.frz o (.dK kvs))) (k : Key) : DGet w.H a (kV k) (valV kvs k) := .inl ⟨kvs, k, h, rfl, rfl⟩
theorem si_dict {T : String} {b : Bool} (h : w.H a = some (.dK kvs)) (e : kitB "dict" T = some b) (k : Q (.bl b) w.H) : rIsi K [.ref a, .ty T] w.H Q := ⟨_, .ty T, _, _, b, rfl, .ty T, .base (.dK h), kit_ty e, k⟩
end
end G

set_option linter.all false
set_option maxRecDepth 100000
namespace G
open PySem L2
/-! dicts by names to numbers, plain -/
abbrev Dct := List (Str × Int)
def kvO (D : Dct) : List (Key × V) := D.map fun p => (.inr p.1, .int p.2)
def getN (D : Dct) (z : Str) : Option Int := (D.find? fun p => decide (p.1 = z)).map (·.2)
def hasN (D : Dct) (z : Str) : Bool := (getN D z).isSome
theorem val_kvO (D : Dct) (z : Str) : valV (kvO D) (.inr z) = (getN D z).map V.int := by
  induction D with
  | nil => rfl
  | cons p r ih =>
    show valV ((.inr p.1, .int p.2) :: kvO r) (.inr z) = _
    unfold getN
    by_cases c : p.1 = z
    · rw [c, valS_pos, List.find?_cons_of_pos (by simp [c])]
      rfl
    · rw [valV_neg (fun e => c (Sum.inr.inj e)), ih, List.find?_cons_of_neg (by simp [c])]
      rfl
def putN (D : Dct) (z : Str) (n : Int) : Dct := if hasN D z then D.map (fun p => if p.1 = z then (p.1, n) else p) else D ++ [(z, n)]
theorem put_kvO (D : Dct) (z : Str) (n : Int) : putK (kvO D) (.inr z) (.int n) = kvO (putN D z n) := by
  unfold putN hasN
  cases h : getN D z with
  | none =>
    rw [putK_new _ (by rw [val_kvO, h]; rfl), if_neg (by simp)]
    unfold kvO
    rw [List.map_append]
    rfl
  | some m =>
    rw [if_pos (show (some m).isSome = true from rfl)]
    unfold putK
    rw [if_pos (by rw [valV_any, val_kvO, h]; rfl)]
    unfold kvO
    rw [List.map_map, List.map_map]
    apply List.map_congr_left
    intro p _
    show (if (Sum.inr p.1 : Key) = Sum.inr z then ((Sum.inr p.1 : Key), V.int n) else (Sum.inr p.1, V.int p.2)) = _
    by_cases c : p.1 = z
    · rw [if_pos (by rw [c]), show ((fun p : Str × Int => ((Sum.inr p.1 : Key), V.int p.2)) ∘ fun p => if p.1 = z then (p.1, n) else p) p = (Sum.inr p.1, V.int n) by simp [c]]
    · rw [if_neg (fun e => c (Sum.inr.inj e)), show ((fun p : Str × Int => ((Sum.inr p.1 : Key), V.int p.2)) ∘ fun p => if p.1 = z then (p.1, n) else p) p = (Sum.inr p.1, V.int p.2) by simp [c]]
theorem has_mem {D : Dct} {z : Str} : hasN D z = true ↔ z ∈ D.map (·.1) := by
  induction D with
  | nil => simp [hasN, getN]
  | cons p r ih =>
    unfold hasN getN at ih ⊢
    by_cases c : p.1 = z
    · rw [List.find?_cons_of_pos (by simp [c])]
      simp [c]
    · rw [List.find?_cons_of_neg (by simp [c]), ih, List.map_cons, List.mem_cons]
      exact ⟨.inr, fun h => h.resolve_left fun e => c e.symm⟩
theorem get_at {D : Dct} (hn : (D.map (·.1)).Nodup) {i : Nat} {p : Str × Int} (h : D[i]? = some p) : getN D p.1 = some p.2 := by
  induction D generalizing i with
  | nil => simp at h
  | cons q r ih =>
    rw [List.map_cons, List.nodup_cons] at hn
    unfold getN
    cases i with
    | zero =>
      cases h
      rw [List.find?_cons_of_pos (by simp)]
      rfl
    | succ i =>
      have h : r[i]? = some p := h
      have hne : ¬ q.1 = p.1 := fun e => hn.1 (by rw [e]; exact List.mem_map_of_mem (List.mem_of_getElem? h))
      rw [List.find?_cons_of_neg (by simp [hne])]
      exact ih hn.2 h
/-- the first name that is lacking -/
def lack1 (D1 D2 : Dct) : Option Str := (D1.find? fun p => !hasN D2 p.1).map (·.1)
def lackN (D1 D2 : Dct) : Option Str := match lack1 D1 D2 with
  | some z => some z
  | none => lack1 D2 D1
theorem lack_drop {D1 D2 : Dct} {i : Nat} {p : Str × Int} (h : D1[i]? = some p) : lack1 (D1.drop i) D2 = if hasN D2 p.1 = true then lack1 (D1.drop (i + 1)) D2 else some p.1 := by
  have h0 : D1.drop i = p :: D1.drop (i + 1) := by
    obtain ⟨h1, rfl⟩ := List.getElem?_eq_some_iff.mp h
    exact (List.drop_eq_getElem_cons h1)
  unfold lack1
  rw [h0]
  by_cases c : hasN D2 p.1 = true
  · rw [if_pos c, List.find?_cons_of_neg (by simp [c])]
  · rw [if_neg c, List.find?_cons_of_pos (by simp [c])]
    rfl
theorem lack1_none {D1 D2 : Dct} (h : lack1 D1 D2 = none) {p : Str × Int} (hp : p ∈ D1) : hasN D2 p.1 = true := by
  unfold lack1 at h
  have h1 := Option.map_eq_none_iff.mp h
  have := List.find?_eq_none.mp h1 p hp
  simpa using this
/-- one's own dict, locked or not -/
def FrzD (w : Wd) (p : Addr) (kvs : List (Key × V)) : Prop := ∃ ob, Own w p ob ∧ (ob = .dK kvs ∨ ∃ od, ob = .frz od (.dK kvs))
theorem FrzD.own {w : Wd} {p : Addr} {kvs : List (Key × V)} (o : Own w p (.dK kvs)) : FrzD w p kvs := ⟨_, o, .inl rfl⟩
theorem FrzD.frz {w : Wd} {p : Addr} {od : Obj} {kvs : List (Key × V)} (o : Own w p (.frz od (.dK kvs))) : FrzD w p kvs := ⟨_, o, .inr ⟨od, rfl⟩⟩
end G

set_option linter.all false
set_option maxRecDepth 100000
namespace G
open PySem L2
/-! a dict that a raise left locked, unlocked ahead of a statement -/
def tUnl (H0 : Hp) (t : TS) : TS := fun D σ H => t D σ H ∨ ∃ d od u, H d = some (.frz od u) ∧ H0 d = none ∧ t D σ (upd H d u)
theorem ps_unl {X : Cx} {st : Stmt} {t : TS} {H0 : Hp} (e0 : X.H_0 = H0) (h : PS X st t) : PS X st (tUnl H0 t) := by
  subst e0
  refine ⟨fun pins s σ H D I hw => ?_⟩
  rcases hw with hw | ⟨d, od, u, h1, h2, hw⟩
  · exact h.run pins s σ H D I hw
  · exact h.run pins s σ _ D (I.unlock h1 fun o' u' e => by rw [h2] at e; cases e) hw
section
variable {w : Wd} {p : Addr} {kvs : List (Key × V)} {H0 : Hp} {t : TS} {D : Ends} {σ : L2.St}
theorem s_unl1 (f : FrzD w p kvs) (n : H0 p = none) (k : ∀ v, Ext (One p) w v → Own v p (.dK kvs) → t D σ v.H) : tUnl H0 t D σ w.H := by
  obtain ⟨ob, o, rfl | ⟨od, rfl⟩⟩ := f
  · exact .inl (k w (Ext.refl _ _) o)
  · exact .inr ⟨p, od, .dK kvs, o.h, n, put (R := t D σ) o k⟩
end
end G

set_option linter.all false
set_option maxRecDepth 100000
/-! x.rpartition(sep) -/
namespace SR
open PySem PySem.Spec PyProof.Rows L2
def rRp : V → List V → Hp → VK → Prop := fun x xs H Q => ∃ a b : Str, x = .str a ∧ xs = [.str b] ∧ (b.length == 0) = false ∧ a.length ≤ sizeLine ∧
  ∀ p, H p = none → Q (.ref p) (upd H p (.tup [.str (Txt.rpartition a b).1, .str (Txt.rpartition a b).2.1, .str (Txt.rpartition a b).2.2]))
variable {X : Cx}
theorem mt_rp : MtR X "str.rpartition" rRp := by
  intro pins s σ H x xs v us Q I rx rs h
  obtain ⟨a, b, rfl, rfl, hb, hz, h⟩ := h
  obtain ⟨t, rfl⟩ := rx
  cases rs with
  | cons r1 rs =>
    cases rs
    obtain ⟨u, rfl⟩ := r1
    refine call_meets F.slot_str_rpartition (typeIs_str _ _ _) F.entry_str_rpartition (F.args_str_rpartition_2 _ _) (meets_str_rpartition a b t u hb hz) ?_
    unfold Txt.rpartition at h
    revert h
    cases Builtin.Str.lastOccurrence a b 0 a.length with
    | none => intro h; exact laid_parts I h
    | some i => intro h; exact laid_parts I h
theorem pe_rp {o e : Expr} {to : TE} {te : TE} {apos pos : Pos} (ho : PE X o to) (he : PE X e te) (hs : starEach [e] X.env = [(false, eval e X.env)] := by rfl) (hbase : attributeBase o "rpartition" X.env (eval o X.env) = eval o X.env := by rfl) (hline : (apos.endLine == pos.line) = true := by rfl) :
    PE X (.Call (.Attribute o "rpartition" apos) [e] [] pos) (tM1 rRp to te) := pe_m1 F.slot_str_rpartition F.type_str_rpartition mt_rp ho he hs hbase hline
def rPt : V → List V → Hp → VK → Prop := fun x xs H Q => ∃ a b : Str, x = .str a ∧ xs = [.str b] ∧ (b.length == 0) = false ∧ a.length ≤ sizeLine ∧
  ∀ p, H p = none → Q (.ref p) (upd H p (.tup [.str (Txt.partition a b).1, .str (Txt.partition a b).2.1, .str (Txt.partition a b).2.2]))
theorem pe_pt {o e : Expr} {to : TE} {te : TE} {apos pos : Pos} (ho : PE X o to) (he : PE X e te) (hs : starEach [e] X.env = [(false, eval e X.env)] := by rfl) (hbase : attributeBase o "partition" X.env (eval o X.env) = eval o X.env := by rfl) (hline : (apos.endLine == pos.line) = true := by rfl) :
    PE X (.Call (.Attribute o "partition" apos) [e] [] pos) (tM1 rPt to te) := pe_partition ho he hs hbase hline
/-- a text so many times -/
def rMulS : R2 := fun x y H Q => ∃ (z : Str) (n : Int), x = .str z ∧ y = .int n ∧ MulOk z n ∧ Q (.str (Txt.mul z n)) H
theorem op_muls : OpR X (binaryOp .Mult) rMulS := by
  intro pins s σ H x y v u Q I rx ry h
  obtain ⟨z, n, rfl, rfl, hok, q⟩ := h
  obtain ⟨t, rfl⟩ := rx
  obtain ⟨t2, rfl⟩ := ry
  exact SB.mul hok fun t' k => ⟨.str _, H, I.tok _, ⟨_, rfl⟩, q⟩
end SR
namespace G
open PySem L2 SR
theorem s_rp {w : Wd} {a b : Str} {Q : VK} (hb : (b.length == 0) = false) (hz : a.length ≤ sizeLine) (k : ∀ p v, Ext Non w v → w.H p = none → v.S p = some (.tup [.str (PySem.Txt.rpartition a b).1, .str (PySem.Txt.rpartition a b).2.1, .str (PySem.Txt.rpartition a b).2.2]) → Q (.ref p) v.H) :
    rRp (.str a) [.str b] w.H Q := ⟨a, b, rfl, rfl, hb, hz, newS (Q := Q) fun p v e n s => k p v e n s⟩
theorem s_pt {w : Wd} {a b : Str} {Q : VK} (hb : (b.length == 0) = false) (hz : a.length ≤ sizeLine) (k : ∀ p v, Ext Non w v → w.H p = none → v.S p = some (.tup [.str (PySem.Txt.partition a b).1, .str (PySem.Txt.partition a b).2.1, .str (PySem.Txt.partition a b).2.2]) → Q (.ref p) v.H) :
    rPt (.str a) [.str b] w.H Q := ⟨a, b, rfl, rfl, hb, hz, newS (Q := Q) fun p v e n s => k p v e n s⟩
theorem s_muls {z y : Str} {n : Int} {Q : VK} {H : Hp} (h : MulOk z n) (e : Txt.mul z n = y) (k : Q (.str y) H) : rMulS (.str z) (.int n) H Q := ⟨z, n, rfl, rfl, h, e ▸ k⟩
end G

set_option linter.all false
set_option maxRecDepth 100000
/-! repr of a list or tuple, where no repr is under way -/
namespace SR
open PySem PySem.Spec PyProof.Rows L2
def rRepr (K : PySem.W.Frag) : List V → Hp → VK → Prop := fun xs H Q => ∃ (a : Addr) (d : PyData), xs = [.ref a] ∧ Dp K H (.ref a) d ∧ d.showable = true ∧ d.hasDict = false ∧ d.depth ≤ 60 ∧ d.shown.length ≤ sizeLine ∧ Q (.str d.shown) H
variable {X : Cx}
theorem cr_repr (hg : X.A.guards = some []) (hu : X.A.units + 64 < cLine) : CallR X (.builtin "repr") (rRepr X.K) := by
  intro pins s σ H xs us Q I r h
  obtain ⟨a, d, rfl, hd, h1, h2, h3, h4, q⟩ := h
  rw [Vals.ref1 r]
  obtain ⟨as, hr⟩ := Dp.reads I d (.ref a) (.ref a) hd rfl
  exact repr_of_reads' hr h1 (fun e => by rw [h2] at e; cases e) hg (by omega) (fun b o e => e) (fun h' u tk hk => ⟨.str d.shown, H, I.kept (t' := tk) hk, ⟨_, rfl⟩, q⟩) h4
theorem kRepr {K : PySem.W.Frag} (hg : X.A.guards = some []) (hu : X.A.units + 64 < cLine) (e : X.K = K := by rfl) : CallR X (.builtin "repr") (rRepr K) := e ▸ cr_repr hg hu
end SR
namespace G
open PySem L2 SR
theorem s_repr {K : PySem.W.Frag} {w : Wd} {a : Addr} {d : PyData} {Q : VK} (h : Rp w.S (.ref a) d) (hs : SeqAt.shaped d = true) (h1 : d.showable = true) (h2 : d.hasDict = false) (h3 : d.depth ≤ 60) (h4 : d.shown.length ≤ sizeLine) (k : Q (.str d.shown) w.H) : rRepr K [.ref a] w.H Q :=
  ⟨a, d, rfl, h.dpH (nd_shaped hs), h1, h2, h3, h4, k⟩
end G

set_option linter.all false
set_option maxRecDepth 100000
set_option maxHeartbeats 2000000
/-! a promise at the claim's own caller alone, whose guards are known -/
namespace ST
open PySem PySem.Spec PyProof.Rows L2
/-- what the law's def promises where the claim calls it -/
structure TopOk (P : Program) (w : World) (K : PySem.W.Frag) (mg : Str → Option Value) (base : Heap) (CX : CXT) (f : Addr) (fd : FuncData) (ps : List Str) (sp : Sp) : Prop where
  run : ∀ (outer : List Env) (s : Shared) (H : Hp) (args : Args) (us : List Value) (vs : List V) (Q : VK) (E : XK), Env0 P w K mg base callerA outer s H → BindsTo s fd args (ps.zip us) → Vals vs us → sp vs H Q E →
    codeAny (model P w) callerA (.call (.ref f) args) (CR CX outer P w H s Q E) s
theorem deep_guards (env : Env) : (callerA.deeper env).guards = some [] := rfl
theorem top_of {CX : CXT} {P : Program} {w : World} {K : PySem.W.Frag} {mg : Str → Option Value} {base : Heap} {k : Nat} {f : Addr} {name qual : Str} {params : Arguments} {body : List Stmt} {scope : Scope} {dV kV doc pm cdv ct oc : Value} {an od : Option Addr}
    {osl : Array (Option Value)} {N ps : List Str} {sp : Sp} (hr : Room (k + 1) callerA) (lk : K.lookup f = some ⟨oc, od, .func (PySem.W.fnOf name qual params body scope dV kV doc pm an cdv ct), osl⟩) (hcd : PySem.W.codeIn K cdv qual = true) (S : FnScope N ps scope)
    (len : ∀ vs H Q E, sp vs H Q E → vs.length = ps.length)
    (hbody : ∀ (outer : List Env) (s : Shared) (H : Hp) (vs : List V) (Q : VK) (E : XK), Room k (callerA.deeper (envOfC qual scope s.heap.objs.size f cdv)) → sp vs H Q E →
      ∃ t, PSs (cxOf CX P w K mg base N qual scope f cdv callerA outer s H E) body t ∧ t { nx := fun _ H' => Q .non H', rt := Q } (L2.start N vs) H) :
    TopOk P w K mg base CX f (PySem.W.fnOf name qual params body scope dV kV doc pm an cdv ct) ps sp := by
  constructor
  intro outer s H args us vs Q E e0 hb r hsp
  have hl := len _ _ _ _ hsp
  have KX : K.In s.heap := e0.mod.kin.keeps fun b o e => (e0.bs b o e).1
  have lim : s.heap.NoLimit := e0.mod.nolimit.keeps fun b o e => (e0.bs b o e).1
  refine codeAny_call_function hr.depth (KX _ _ lk) rfl S.co S.gen rfl (PySem.W.codeRec_of KX hcd) (hb _ _ _ _ ?_)
  refine wpAny_newFunctionEnv_cells S.kind (fun ⟨n, v⟩ hy => (S.par n (List.of_mem_zip hy).1).imp id fun q => ⟨q, PySem.W.cellsFrom_some _ _ _ (.inl q)⟩) fun env he s1 x => ?_
  subst he
  obtain ⟨t, ht, hq⟩ := hbody outer s H vs Q E (hr.deeper _) hsp
  have I : Inv (cxOf CX P w K mg base N qual scope f cdv callerA outer s H E) [] (L2.start N vs) H s1 := inv_start S hr.hd e0 hl r x
  refine ⟨lim.keeps x.toInCall.keep, codeAny_func (wpAny_mono (ht.run [] s1 (L2.start N vs) H _ I hq) (fun fl s' hs => ?_) fun e s' hs => hs)⟩
  cases fl with
  | ret u =>
    obtain ⟨v, σ', H', J, rv, q⟩ := hs
    exact ⟨v, H', J.os, J.bare, J.base, J.hok, rv, q⟩
  | next =>
    obtain ⟨σ', H', J, q⟩ := hs
    exact ⟨V.non, H', J.os, J.bare, J.base, J.hok, rfl, q⟩
  | brk => exact hs.elim fun _ h => h.elim fun _ h => h.2.elim
  | cont => exact hs.elim fun _ h => h.elim fun _ h => h.2.elim
end ST

set_option linter.all false
set_option maxRecDepth 100000
set_option maxHeartbeats 2000000
/-! the claim's call of a law whose def promises at the caller alone -/
namespace ST
open PySem PySem.Spec PyProof.Rows L2
section
variable {P : Program} {w : World} {K : PySem.W.Frag} {mg mb : Str → Option Value} {CX : CXT} {fa a : Addr} {fd : FuncData} {x : Str} {sp : Sp} {s₁ : Shared} {vs : List Value} {ns : List Int}
/-- from a view in which at most the script is told -/
theorem call_at (KX : K.In s₁.heap) (hns : s₁.heap.Ns mainGlobals mg) (hb : s₁.heap.Ns builtinsNs mb) (hbb : ∀ x : Str, x ≠ "__name__" → mb x = bootBuiltins x) (hlim : s₁.heap.NoLimit) (hg : s₁.gens = #[])
    (ha : s₁.heap.get? a = some { cls := .type "list", data := .seq vs.toArray })
    (F : ∀ base : Heap, K.In base → base.Ns mainGlobals mg → TopOk P w K mg base CX fa fd [x] sp) (hbind : ∀ (s : Shared) (u : Value), BindsTo s fd ⟨[u], []⟩ [(x, u)])
    (hCX : ∀ H e s', CX [] H s₁ (fun _ _ _ => False) e s' → False)
    {H : Hp} (hO : Only H) (hsp : sp [.ref a] H (fun v _ => v = .bl true) fun _ _ _ => False) (hok : HOk P w H s₁.heap) (hA : ∀ b, H b ≠ none → b = a) (hK : H a ≠ none → K.lookup a = none) :
    codeAny (model P w) callerA (.call (.ref fa) ⟨[.ref a], []⟩) (fun r s' => r = .ok (.ret (.bool true)) ∧ OldK s₁.heap s'.heap ∧ s'.os = s₁.os ∧ AllBare s'.gens) s₁ := by
  have free : ∀ {b : Addr}, b ≠ a → H b = none := fun {b} n => by
    cases q : H b with
    | none => rfl
    | some u => exact absurd (hA b (by rw [q]; exact fun z => by cases z)) n
  have dict : ∀ {b : Addr} {o : Obj} {es : Array DictEntry} {ep : Nat}, s₁.heap.get? b = some o → o.data = .dict es ep → H b = none := fun {b o es ep} e d => free fun z => by
    rw [z, ha] at e
    cases e
    exact nomatch (show Data.seq vs.toArray _ = Data.dict es ep from d)
  have ns' : ∀ {b : Addr} {m : Str → Option Value}, s₁.heap.Ns b m → (hidT s₁.heap H).Ns b m := fun {b m} ⟨o, es, ep, e, d, r⟩ => ⟨o, es, ep, hidT_get e (dict e d), d, r⟩
  have kin : K.In (hidT s₁.heap H) := fun b o e => hidT_get (KX b o e) (by
    cases q : H b with
    | none => rfl
    | some u =>
      have z := hA b (by rw [q]; exact fun z => by cases z)
      rw [z] at q e
      rw [hK (by rw [q]; exact fun z => by cases z)] at e
      cases e)
  have e0 : Env0 P w K mg (hidT s₁.heap H) callerA [] s₁ H :=
    ⟨rfl, ⟨kin, ns' hns, ⟨mb, ns' hb, hbb⟩, hlim.elim fun mc h => ⟨mc, ns' h.1, h.2⟩⟩, fun b o e => of_hidT e, Nat.le_of_eq (hidT_size _ _), trivial, (fun b hb => nomatch (show b ∈ ([] : List Addr) from hb)), hok, .of_eq hg⟩
  refine codeAny_mono ((F _ kin (ns' hns)).run [] s₁ H ⟨[.ref a], []⟩ [.ref a] [.ref a] _ _ e0 (hbind s₁ (.ref a)) (.cons rfl .nil) hsp) fun r s' h => ?_
  cases r with
  | error e => exact (hCX H e s' h).elim
  | ok fl =>
    cases fl with
    | next => exact False.elim h
    | brk => exact False.elim h
    | cont => exact False.elim h
    | ret u =>
      obtain ⟨v, H', os, bare, un, hok', r', q⟩ := h
      obtain rfl : v = .bl true := q
      obtain rfl : u = Value.bool true := r'
      refine ⟨rfl, OldK.of_keep fun b o e => ?_, os, bare⟩
      rcases hO b with z | ⟨ob, xs, z⟩
      · exact un.keep b o e z (fun z => nomatch (show b ∈ ([] : List Addr) from z)) (by simp)
      · have e1 := (hok b _ z).1
        rw [e] at e1
        rw [Option.some.inj e1]
        exact (hok' b _ (un.frzs b ob _ z)).1
theorem call_top (KX : K.In s₁.heap) (hns : s₁.heap.Ns mainGlobals mg) (hb : s₁.heap.Ns builtinsNs mb) (hbb : ∀ x : Str, x ≠ "__name__" → mb x = bootBuiltins x) (hlim : s₁.heap.NoLimit) (hg : s₁.gens = #[])
    (ha : s₁.heap.get? a = some { cls := .type "list", data := .seq vs.toArray }) (hi : IntsAre vs ns) (hl : ns.length ≤ sizeLine)
    (F : ∀ base : Heap, K.In base → base.Ns mainGlobals mg → TopOk P w K mg base CX fa fd [x] sp) (hbind : ∀ (s : Shared) (u : Value), BindsTo s fd ⟨[u], []⟩ [(x, u)])
    (hsp : ∀ H : Hp, Only H → SqL K H a (ns.map V.int) → sp [.ref a] H (fun v _ => v = .bl true) fun _ _ _ => False)
    (hCX : ∀ H e s', CX [] H s₁ (fun _ _ _ => False) e s' → False) :
    codeAny (model P w) callerA (.call (.ref fa) ⟨[.ref a], []⟩) (fun r s' => r = .ok (.ret (.bool true)) ∧ OldK s₁.heap s'.heap ∧ s'.os = s₁.os ∧ AllBare s'.gens) s₁ := by
  have rv := vals_ints hi
  have lenV := hi.length
  have at' := fun {H : Hp} (hO : Only H) (hq : SqL K H a (ns.map V.int)) h1 h2 h3 => call_at (P := P) (w := w) KX hns hb hbb hlim hg ha F hbind hCX hO (hsp H hO hq) h1 h2 h3
  cases hk : K.lookup a with
  | some o =>
    have e := KX a o hk
    rw [ha] at e
    cases e
    exact at' (H := fun _ => none) (fun _ => .inl rfl) (.inr ⟨_, vs.toArray, _, hk, rfl, rfl, rfl, by rw [List.size_toArray, lenV]; exact hl, by simpa using rv⟩) (fun b u z => nomatch (show (none : Option HO) = some u from z)) (fun b z => absurd rfl z) fun z => absurd rfl z
  | none =>
    have is : ∀ {b : Addr} {u : HO}, (if b = a then some (HO.frz { cls := .type "list", data := .seq vs.toArray } (.lst (ns.map V.int))) else none) = some u → b = a ∧ u = .frz { cls := .type "list", data := .seq vs.toArray } (.lst (ns.map V.int)) := fun {b u} z => by
      by_cases c : b = a
      · rw [if_pos c] at z
        exact ⟨c, (Option.some.inj z).symm⟩
      · rw [if_neg c] at z
        cases z
    refine at' (H := fun b => if b = a then some (.frz { cls := .type "list", data := .seq vs.toArray } (.lst (ns.map V.int))) else none) (fun b => ?_) (.inl (.inr ⟨{ cls := .type "list", data := .seq vs.toArray }, if_pos rfl⟩)) (fun b u z => ?_) (fun b z => ?_) fun _ => hk
    · by_cases c : b = a
      · exact .inr ⟨_, _, if_pos c⟩
      · exact .inl (if_neg c)
    · obtain ⟨rfl, rfl⟩ := is z
      exact ⟨ha, by rw [List.length_map]; exact hl, vs, _, rv, ha⟩
    · by_cases c : b = a
      · exact c
      · exact absurd (if_neg c) z
end
theorem walk_top {l : PySem.W.OpenLaw} {n : Nat} {q : Program} {loose : List Str} {XP : (Str → Option Value) → Heap → Prop} {YP : World → Heap → Prop} {d : DefRec} {K : Params → PySem.W.Frag} {CX : World → CXT} {sp : World → Sp} {x : Str}
    (hn : l.most = some n) (hn2 : n ≤ sizeLine) (hdf : d.params.defaults = [])
    (hY : ∀ (w : World) (h : Heap), YP w h → (K w.params).In h)
    (F : ∀ (w : World) (mg : Str → Option Value) (fa : Addr) (h : Heap), (K w.params).In h → h.Ns mainGlobals mg → mg d.name = some (.ref fa) →
      ∃ fd : FuncData, (∀ (s : Shared) (u : Value), BindsTo s fd ⟨[u], []⟩ [(x, u)]) ∧
        ∀ base : Heap, (K w.params).In base → base.Ns mainGlobals mg → TopOk l.prog w (K w.params) mg base (CX w) fa fd [x] (sp w))
    (hsp : ∀ (w : World) (H : Hp) (a : Addr) (ns : List Int), ns.length ≤ n → Only H → SqL (K w.params) H a (ns.map V.int) → sp w [.ref a] H (fun v _ => v = .bl true) fun _ _ _ => False)
    (hCX : ∀ (w : World) (H : Hp) (s : Shared) (e : Value) (s' : Shared), CX w [] H s (fun _ _ _ => False) e s' → False) :
    PySem.W.WalkO q loose XP YP l.row.toRowW d [] (fun f vs => PySem.call f vs) := by
  refine Att.attach_call hn hdf fun w s₀ s₁ mg mb fa o pm cd doc a vs ns G Y ho hd hcd hmg hobj hints hlen hg => ?_
  have KX := hY w _ Y
  obtain ⟨fd, hb, hF⟩ := F w mg fa _ KX G.T.g hmg
  exact call_top KX G.T.g G.T.b G.T.builtins G.T.nolimit hg hobj hints (Nat.le_trans hlen hn2) hF hb (fun H hO hS => hsp w H a ns hlen hO hS) fun H e s' => hCX w H s₁ e s'
/-- a def of the law, promised at the caller alone -/
theorem fun_top {P : Program} {w : World} {K : PySem.W.Frag} {mg : Str → Option Value} {base : Heap} {x qual : Str} {st : Stmt} {f : Addr} {fd : FuncData} {N ps : List Str} {k : Nat} {sp : Sp} (F : Fun K x qual st f fd) (hr : Room (k + 1) callerA) (S : FnScope N ps (defScope st)) (len : ∀ vs H Q E, sp vs H Q E → vs.length = ps.length)
    (hbody : ∀ (cdv : Value) (outer : List Env) (s : Shared) (H : Hp) (vs : List V) (Q : VK) (E : XK), Room k (callerA.deeper (envOfC qual (defScope st) s.heap.objs.size f cdv)) → sp vs H Q E →
      ∃ t, PSs (cxOf CX0 P w K mg base N qual (defScope st) f cdv callerA outer s H E).nox (defBody st) t ∧ t { nx := fun _ H' => Q .non H', rt := Q } (L2.start N vs) H) : TopOk P w K mg base CX0 f fd ps sp := by
  obtain ⟨oc, od, kV, doc, pm, an, cdv, ct, osl, rfl, lk, hcd⟩ := F.ex
  exact top_of hr lk hcd S len fun outer s H vs Q E hr hsp => (hbody cdv outer s H vs Q E hr hsp).elim fun t h => ⟨t, h.1.nox, h.2⟩
end ST

set_option linter.all false
set_option maxRecDepth 100000
namespace G
open PySem L2 TL NumText
/-! clocks and shifts as texts, by their signs -/
/-- a number's signs -/
def numS (n : Int) : List Nat := tl (Str.ofString (toString n))
theorem numS_nn {n : Int} (h : 0 ≤ n) : numS n = numL n.toNat := by
  obtain ⟨k, rfl⟩ := Int.eq_ofNat_of_zero_le h
  exact tl_num k
theorem numS_neg {n : Int} (h : n < 0) : numS n = 45 :: numL (0 - n).toNat := by
  have e := PyProof.Rows.toString_neg h
  unfold numS
  rw [e, tl_ofString, String.toList_append, List.map_append]
  have e2 : (toString (0 - n)).toList.map Char.toNat = numL (0 - n).toNat := by
    rw [← tl_ofString]
    exact numS_nn (by omega)
  rw [e2]
  rfl
theorem num_head : ∀ (n : Nat), (numL n).head? = some 48 → n = 0 := by
  intro n
  induction n using Nat.strongRecOn with
  | _ n ih =>
    intro h
    by_cases hn : n < 10
    · rw [numL_lt hn] at h
      simp at h
      omega
    · rw [numL_step (by omega)] at h
      have h2 : (numL (n / 10)).head? = some 48 := by
        have hne := numL_ne (n / 10)
        cases e : numL (n / 10) with
        | nil => exact absurd e hne
        | cons c r => rw [e] at h; exact h
      have := ih (n / 10) (by omega) h2
      omega
theorem figs_all {l : List Nat} (h : AllDigits l) : l.all isFig = true := List.all_eq_true.mpr fun c hc => isFig_iff.mpr (h c hc)
theorem num_nohead {n : Nat} {c : Nat} (hc : c < 48 ∨ 57 < c) : ¬ (numL n).head? = some c := fun h => numL_free hc (by
  cases e : numL n with
  | nil => rw [e] at h; cases h
  | cons d r => rw [e] at h; cases h; exact List.mem_cons_self)
theorem num_one {n : Nat} : 1 ≤ (numL n).length := by
  have := numL_ne n
  cases e : numL n with
  | nil => exact absurd e this
  | cons c r => rw [List.length_cons]; omega
theorem val_num {n : Nat} (h : n < 10 ^ 30) : valO (numL n) = some (n : Int) := by
  have hf : figsL (numL n) = numL n := figsL_n (num_nohead (by omega))
  have hp : plainL (numL n) = true := by
    unfold plainL
    rw [hf, decide_eq_true (num_one), decide_eq_true (numL_len (by decide) h), figs_all (numL_digits n), Bool.true_and, Bool.true_and, Bool.true_and]
    by_cases hh : (numL n).head? = some 48
    · have := num_head n hh
      subst this
      decide +kernel
    · rw [decide_eq_false hh]; rfl
  unfold valO valL
  rw [if_pos hp, if_neg (num_nohead (by omega)), hf, numL_val]
theorem val_neg {n : Nat} (h0 : 0 < n) (h : n < 10 ^ 30) : valO (45 :: numL n) = some (-(n : Int)) := by
  have hf : figsL (45 :: numL n) = numL n := figsL_y rfl
  have hp : plainL (45 :: numL n) = true := by
    unfold plainL
    rw [hf, decide_eq_true (num_one), decide_eq_true (numL_len (by decide) h), figs_all (numL_digits n), Bool.true_and, Bool.true_and, Bool.true_and]
    by_cases hh : (numL n).head? = some 48
    · have := num_head n hh
      omega
    · rw [decide_eq_false hh]; rfl
  unfold valO valL
  rw [if_pos hp, if_pos (show (45 :: numL n).head? = some 45 from rfl), hf, numL_val]
theorem val_numS {n : Int} (h1 : -(10 ^ 30) < n) (h2 : n < 10 ^ 30) : valO (numS n) = some n := by
  by_cases h : 0 ≤ n
  · rw [numS_nn h, val_num (by omega)]
    congr 1
    omega
  · rw [numS_neg (by omega), val_neg (by omega) (by omega)]
    congr 1
    omega
theorem numS_free {n : Int} {c : Nat} (h : c ≠ 45 ∧ (c < 48 ∨ 57 < c)) : c ∉ numS n := by
  by_cases hn : 0 ≤ n
  · rw [numS_nn hn]; exact numL_free h.2
  · rw [numS_neg (by omega)]
    intro hm
    rcases List.mem_cons.mp hm with e | hm
    · exact h.1 e
    · exact numL_free h.2 hm
/-- two figures -/
def twoL (n : Int) : List Nat := [48 + (n / 10).toNat, 48 + (n % 10).toNat]
theorem zf2 : ∀ n : Nat, n < 100 → tl (PySem.Txt.zfill (Str.ofString (toString ((n : Nat) : Int))) 2) = [48 + n / 10, 48 + n % 10] := by decide +kernel
theorem zf2_two {n : Int} (h0 : 0 ≤ n) (h1 : n < 100) : tl (PySem.Txt.zfill (Str.ofString (toString n)) 2) = twoL n := by
  obtain ⟨k, rfl⟩ := Int.eq_ofNat_of_zero_le h0
  rw [zf2 k (by omega)]
  unfold twoL
  have e1 : (((k : Nat) : Int) / 10).toNat = k / 10 := by omega
  have e2 : (((k : Nat) : Int) % 10).toNat = k % 10 := by omega
  rw [e1, e2]
/-- the number below a limit that two figures write -/
def belowO (l : List Nat) (lim : Int) : Option Int := match l with
  | [a, b] => if (isFig a && isFig b) = true then (if 10 * ((a - 48 : Nat) : Int) + ((b - 48 : Nat) : Int) < lim then some (10 * ((a - 48 : Nat) : Int) + ((b - 48 : Nat) : Int)) else none) else none
  | _ => none
theorem below_two {n lim : Int} (h0 : 0 ≤ n) (h1 : n < 100) (h2 : n < lim) : belowO (twoL n) lim = some n := by
  have e1 : isFig (48 + (n / 10).toNat) = true := isFig_iff.mpr (by omega)
  have e2 : isFig (48 + (n % 10).toNat) = true := isFig_iff.mpr (by omega)
  have e3 : 10 * ((48 + (n / 10).toNat - 48 : Nat) : Int) + ((48 + (n % 10).toNat - 48 : Nat) : Int) = n := by omega
  show (if (isFig (48 + (n / 10).toNat) && isFig (48 + (n % 10).toNat)) = true then (if 10 * ((48 + (n / 10).toNat - 48 : Nat) : Int) + ((48 + (n % 10).toNat - 48 : Nat) : Int) < lim then some (10 * ((48 + (n / 10).toNat - 48 : Nat) : Int) + ((48 + (n % 10).toNat - 48 : Nat) : Int)) else none) else none) = some n
  rw [e1, e2, e3, if_pos (show (true && true) = true from rfl), if_pos h2]
theorem below_len {l : List Nat} {lim : Int} (h : l.length ≠ 2) : belowO l lim = none := by
  unfold belowO
  split
  · exact absurd rfl h
  · rfl
theorem below_bad {l : List Nat} {lim : Int} {c : Nat} (h : c ∈ l) (hf : isFig c = false) : belowO l lim = none := by
  unfold belowO
  split
  · rename_i a b
    simp only [List.mem_cons, List.not_mem_nil, or_false] at h
    rcases h with rfl | rfl
    · rw [hf]; rfl
    · rw [hf, Bool.and_false]; rfl
  · rfl
/-- cut at the points -/
def dots (l : List Nat) : List (List Nat) := spl [46] 0 [] l
theorem dots_split {z : Str} : (PySem.Txt.split z (Str.ofString ".")).map tl = dots (tl z) := by
  have e : tl (Str.ofString ".") = [46] := by decide +kernel
  rw [split_spl _ _ (by rw [e]; simp) (kind_ok (by decide +kernel)), e]
  rfl
theorem dots_one {a : List Nat} (h : 46 ∉ a) : dots a = [a] := by unfold dots; rw [spl_last1 h]; rfl
theorem dots_cons {a b : List Nat} (h : 46 ∉ a) : dots (a ++ 46 :: b) = a :: dots b := by
  unfold dots
  rw [show a ++ 46 :: b = a ++ ([46] ++ b) from rfl, spl_part1 h]
  rfl
theorem dots_two {a b : List Nat} (h : 46 ∉ a) (k : 46 ∉ b) : dots (a ++ 46 :: b) = [a, b] := by rw [dots_cons h, dots_one k]
theorem dots_three {a b c : List Nat} (h : 46 ∉ a) (k : 46 ∉ b) (m : 46 ∉ c) : dots (a ++ 46 :: (b ++ 46 :: c)) = [a, b, c] := by rw [dots_cons h, dots_cons k, dots_one m]
theorem two_free {n : Int} {c : Nat} (h0 : 0 ≤ n) (h1 : n < 100) (h : c < 48 ∨ 57 < c) : c ∉ twoL n := by
  unfold twoL
  simp only [List.mem_cons, List.not_mem_nil, or_false]
  omega
/-- a shift, read -/
def shiftOf (c : Nat) (h m : Option Int) : Option Int := match h, m with
  | some h, some m => if 60 * h + m > 2880 ∨ (60 * h + m = 0 ∧ c = 45) then none else if c = 45 then some (0 - (60 * h + m)) else some (60 * h + m)
  | _, _ => none
def shiftP (c : Nat) : List (List Nat) → Option Int
  | [h, m] => shiftOf c (inB 0 48 (valO h)) (belowO m 60)
  | _ => none
def shiftIn : List Nat → Option Int
  | [] => none
  | c :: r => if c = 43 ∨ c = 45 then shiftP c (dots r) else none
def shiftInD (d : PyData) : Option Int := match d with
  | .str z => shiftIn (tl z)
  | _ => none
/-- a shift, written -/
def shiftL (n : Int) : List Nat := (if n < 0 then 45 else 43) :: (numS (n.natAbs / 60 : Nat) ++ 46 :: twoL (n.natAbs % 60 : Nat))
theorem sn_head {c : Nat} {r : List Nat} (h1 : c ≠ 43) (h2 : c ≠ 45) : shiftIn (c :: r) = none := if_neg (by omega)
theorem shiftOf_n1 {c : Nat} {m : Option Int} : shiftOf c none m = none := by unfold shiftOf; rfl
theorem shiftOf_n2 {c : Nat} {h : Option Int} : shiftOf c h none = none := by unfold shiftOf; cases h <;> rfl
theorem shiftP_len {c : Nat} {l : List (List Nat)} (h : l.length ≠ 2) : shiftP c l = none := by
  unfold shiftP
  split
  · exact absurd rfl h
  · rfl
theorem sn_len {c : Nat} {r : List Nat} (h : (dots r).length ≠ 2) : shiftIn (c :: r) = none := by
  show (if c = 43 ∨ c = 45 then shiftP c (dots r) else none) = none
  rw [shiftP_len h, ite_self]
theorem sn_two {c : Nat} {r a b : List Nat} (h : dots r = [a, b]) (k : shiftOf c (inB 0 48 (valO a)) (belowO b 60) = none) : shiftIn (c :: r) = none := by
  show (if c = 43 ∨ c = 45 then shiftP c (dots r) else none) = none
  rw [h]
  show (if c = 43 ∨ c = 45 then shiftOf c (inB 0 48 (valO a)) (belowO b 60) else none) = none
  rw [k, ite_self]
theorem shift_back {n : Int} (c : Nat) (h1 : -2880 ≤ n) (h2 : n ≤ 2880) (hc : c = 43 ∨ c = 45) (hz : n ≠ 0 ∨ c = 43) :
    shiftIn (c :: (numS (n.natAbs / 60 : Nat) ++ 46 :: twoL (n.natAbs % 60 : Nat))) = some (if c = 45 then 0 - (n.natAbs : Int) else (n.natAbs : Int)) := by
  have e := dots_two (numS_free (n := ((n.natAbs / 60 : Nat) : Int)) (c := 46) (by omega)) (two_free (n := ((n.natAbs % 60 : Nat) : Int)) (c := 46) (by omega) (by omega) (by omega))
  have e2 : inB 0 48 (valO (numS ((n.natAbs / 60 : Nat) : Int))) = some ((n.natAbs / 60 : Nat) : Int) := by
    rw [val_numS (by omega) (by omega)]
    exact if_pos (by omega)
  have e3 : belowO (twoL ((n.natAbs % 60 : Nat) : Int)) 60 = some ((n.natAbs % 60 : Nat) : Int) := below_two (by omega) (by omega) (by omega)
  show (if c = 43 ∨ c = 45 then shiftP c (dots _) else none) = _
  rw [if_pos hc, e]
  show shiftOf c (inB 0 48 (valO (numS ((n.natAbs / 60 : Nat) : Int)))) (belowO (twoL ((n.natAbs % 60 : Nat) : Int)) 60) = _
  rw [e2, e3]
  unfold shiftOf
  have e4 : 60 * ((n.natAbs / 60 : Nat) : Int) + ((n.natAbs % 60 : Nat) : Int) = (n.natAbs : Int) := by omega
  show (if 60 * ((n.natAbs / 60 : Nat) : Int) + ((n.natAbs % 60 : Nat) : Int) > 2880 ∨ (60 * ((n.natAbs / 60 : Nat) : Int) + ((n.natAbs % 60 : Nat) : Int) = 0 ∧ c = 45) then none else if c = 45 then some (0 - (60 * ((n.natAbs / 60 : Nat) : Int) + ((n.natAbs % 60 : Nat) : Int))) else some (60 * ((n.natAbs / 60 : Nat) : Int) + ((n.natAbs % 60 : Nat) : Int))) = _
  rw [e4, if_neg (by omega)]
  split <;> rfl
theorem tx_of {z : Str} {l : List Nat} {n : Nat} (h : tl z = l) (k : l.length ≤ n) (m : l.all (fun c => decide (c < 128)) = true) : Tx n z := by
  subst h
  exact Tx.litN m k
theorem two_128 {n : Int} (h0 : 0 ≤ n) (h1 : n < 100) : (twoL n).all (fun c => decide (c < 128)) = true := by
  unfold twoL
  simp only [List.all_cons, List.all_nil, Bool.and_true, Bool.and_eq_true, decide_eq_true_eq]
  omega
theorem tx_two {z : Str} {n : Int} (h : tl z = twoL n) (h0 : 0 ≤ n) (h1 : n < 100) : Tx 2 z := tx_of h (Nat.le_refl 2) (two_128 h0 h1)
theorem tl_dot : tl (Str.ofString ".") = [46] := by decide +kernel
theorem tl_dash : tl (Str.ofString "-") = [45] := by decide +kernel
theorem tl_plus : tl (Str.ofString "+") = [43] := by decide +kernel
theorem tl_emp : tl Str.empty = [] := rfl
theorem below_at {a b : Nat} {lim : Int} (h1 : isFig a = true) (h2 : isFig b = true) : belowO [a, b] lim = if 10 * ((a - 48 : Nat) : Int) + ((b - 48 : Nat) : Int) < lim then some (10 * ((a - 48 : Nat) : Int) + ((b - 48 : Nat) : Int)) else none := by
  show (if (isFig a && isFig b) = true then (if 10 * ((a - 48 : Nat) : Int) + ((b - 48 : Nat) : Int) < lim then some (10 * ((a - 48 : Nat) : Int) + ((b - 48 : Nat) : Int)) else none) else none) = _
  rw [h1, h2, if_pos (show (true && true) = true from rfl)]
theorem fig_at : ∀ k : Nat, k < 10 → (tl (Str.ofString "0123456789"))[k]? = some (48 + k) := by decide +kernel
theorem one_sign {z y : Str} {c : Nat} (h : tl y = [c]) : cutS z none (some 1) = y ↔ (tl z).head? = some c := by
  rw [str_iff, cutZ_to (by decide), h]
  show (tl z).take 1 = [c] ↔ _
  cases tl z with
  | nil => simp
  | cons c r => simp
theorem spl_sub : ∀ (l acc : List Nat), ∀ p ∈ spl [46] 0 acc l, p.length ≤ acc.length + l.length ∧ ∀ c ∈ p, c ∈ acc ∨ c ∈ l
  | [], acc, p, h => by
    rw [spl_nil] at h
    obtain rfl := List.mem_singleton.mp h
    exact ⟨by simp, fun c hc => .inl hc⟩
  | d :: r, acc, p, h => by
    have e : spl [46] 0 acc (d :: r) = if pre [46] (d :: r) = true then acc :: spl [46] 0 [] r else spl [46] 0 (acc ++ [d]) r := rfl
    rw [e] at h
    split at h
    · rcases List.mem_cons.mp h with rfl | h
      · exact ⟨by simp, fun c hc => .inl hc⟩
      · have := spl_sub r [] p h
        refine ⟨?_, fun c hc => .inr (List.mem_cons_of_mem _ ?_)⟩
        · have := this.1
          simp at this ⊢
          omega
        · rcases this.2 c hc with h | h
          · cases h
          · exact h
    · have := spl_sub r (acc ++ [d]) p h
      refine ⟨?_, fun c hc => ?_⟩
      · have := this.1
        simp at this ⊢
        omega
      · rcases this.2 c hc with h | h
        · rcases List.mem_append.mp h with h | h
          · exact .inl h
          · exact .inr (by rw [List.mem_singleton.mp h]; exact List.mem_cons_self)
        · exact .inr (List.mem_cons_of_mem _ h)
theorem split_tx {n : Nat} {z y : Str} (h : Tx n z) (hy : y ∈ PySem.Txt.split z (Str.ofString ".")) : Tx n y := by
  have h1 : tl y ∈ dots (tl z) := by rw [← dots_split]; exact List.mem_map_of_mem hy
  have h2 := spl_sub (tl z) [] (tl y) h1
  have e1 := len_tl y
  have e2 := len_tl z
  have h3 := h.1
  refine ⟨?_, fun c hc => ?_⟩
  · have := h2.1
    rw [List.length_nil] at this
    omega
  · rcases h2.2 c hc with k | k
    · cases k
    · exact h.2 c k
theorem inB_at {lo hi n : Int} {o : Option Int} (h : inB lo hi o = some n) : o = some n ∧ lo ≤ n ∧ n ≤ hi := by
  cases o with
  | none => cases h
  | some m =>
    have h' : (if lo ≤ m ∧ m ≤ hi then some m else none) = some n := h
    by_cases hb : lo ≤ m ∧ m ≤ hi
    · rw [if_pos hb] at h'; cases h'; exact ⟨rfl, hb.1, hb.2⟩
    · rw [if_neg hb] at h'; cases h'
theorem below_range {l : List Nat} {lim n : Int} (h : belowO l lim = some n) : 0 ≤ n ∧ n < 100 ∧ n < lim := by
  unfold belowO at h
  split at h
  · rename_i a b
    split at h
    · rename_i hf
      simp only [Bool.and_eq_true] at hf
      have h1 := isFig_iff.mp hf.1
      have h2 := isFig_iff.mp hf.2
      split at h
      · cases h
        omega
      · cases h
    · cases h
  · cases h
theorem two_of {l : List Str} (h : l.length = 2) : ∃ a b, l = [a, b] := by
  match l, h with
  | [a, b], _ => exact ⟨a, b, rfl⟩
theorem three_of {l : List Str} (h : l.length = 3) : ∃ a b c, l = [a, b, c] := by
  match l, h with
  | [a, b, c], _ => exact ⟨a, b, c, rfl⟩
theorem shift_at {c : Nat} {r a b : List Nat} {hh mm : Int} (hc : c = 43 ∨ c = 45) (h : dots r = [a, b]) (h1 : inB 0 48 (valO a) = some hh) (h2 : belowO b 60 = some mm) :
    shiftIn (c :: r) = if 60 * hh + mm > 2880 ∨ (60 * hh + mm = 0 ∧ c = 45) then none else if c = 45 then some (0 - (60 * hh + mm)) else some (60 * hh + mm) := by
  show (if c = 43 ∨ c = 45 then shiftP c (dots r) else none) = _
  rw [if_pos hc, h]
  show shiftOf c (inB 0 48 (valO a)) (belowO b 60) = _
  rw [h1, h2]
  rfl
theorem sign_is {c d : Nat} {y : Str} (h : tl y = [d]) : (⟨#[c]⟩ : Str) = y ↔ c = d := by
  rw [str_iff, tl_one, h]
  simp
end G

set_option linter.all false
set_option maxRecDepth 100000
namespace G
open PySem L2 TL NumText
/-! clocks -/
def clockL (n : Int) : List Nat := numS (n / 1440) ++ 46 :: (twoL (n % 1440 / 60) ++ 46 :: twoL (n % 1440 % 60))
def clockOf (lo hi : Int) (d h m : Option Int) : Option Int := match d, h, m with
  | some d, some h, some m => inB lo hi (some (1440 * d + 60 * h + m))
  | _, _, _ => none
def clockP (lo hi : Int) : List (List Nat) → Option Int
  | [d, h, m] => clockOf lo hi (inB (lo / 1440) (hi / 1440) (valO d)) (belowO h 24) (belowO m 60)
  | _ => none
def clockIn (l : List Nat) (lo hi : Int) : Option Int := clockP lo hi (dots l)
def clockInD (d : PyData) (lo hi : Int) : Option Int := match d with
  | .str z => clockIn (tl z) lo hi
  | _ => none
theorem clockOf_n1 {lo hi : Int} {h m : Option Int} : clockOf lo hi none h m = none := by unfold clockOf; rfl
theorem clockOf_n2 {lo hi : Int} {d m : Option Int} : clockOf lo hi d none m = none := by unfold clockOf; cases d <;> rfl
theorem clockOf_n3 {lo hi : Int} {d h : Option Int} : clockOf lo hi d h none = none := by unfold clockOf; cases d <;> cases h <;> rfl
theorem clockP_len {lo hi : Int} {l : List (List Nat)} (h : l.length ≠ 3) : clockP lo hi l = none := by
  unfold clockP
  split
  · exact absurd rfl h
  · rfl
theorem clockD_no {d : PyData} (h : isStr d = false) (lo hi : Int) : clockInD d lo hi = none := by cases d <;> first | rfl | cases h
theorem ck_len {l : List Nat} {lo hi : Int} (h : (dots l).length ≠ 3) : clockIn l lo hi = none := clockP_len h
theorem ck_at {l d h m : List Nat} {lo hi : Int} (e : dots l = [d, h, m]) : clockIn l lo hi = clockOf lo hi (inB (lo / 1440) (hi / 1440) (valO d)) (belowO h 24) (belowO m 60) := by
  unfold clockIn
  rw [e]
  rfl
theorem clock_dots (n : Int) : dots (clockL n) = [numS (n / 1440), twoL (n % 1440 / 60), twoL (n % 1440 % 60)] :=
  dots_three (numS_free (by omega)) (two_free (by omega) (by omega) (by omega)) (two_free (by omega) (by omega) (by omega))
theorem clock_back {n : Int} (h1 : -(10 ^ 30) < n) (h2 : n < 10 ^ 30) (lo hi : Int) : clockIn (clockL n) lo hi = inB lo hi (some n) := by
  rw [ck_at (clock_dots n), val_numS (by omega) (by omega), below_two (by omega) (by omega) (by omega), below_two (by omega) (by omega) (by omega)]
  have e : 1440 * (n / 1440) + 60 * (n % 1440 / 60) + n % 1440 % 60 = n := by omega
  by_cases hb : lo / 1440 ≤ n / 1440 ∧ n / 1440 ≤ hi / 1440
  · rw [show inB (lo / 1440) (hi / 1440) (some (n / 1440)) = some (n / 1440) from if_pos hb]
    show inB lo hi (some (1440 * (n / 1440) + 60 * (n % 1440 / 60) + n % 1440 % 60)) = _
    rw [e]
  · rw [show inB (lo / 1440) (hi / 1440) (some (n / 1440)) = none from if_neg hb]
    exact (if_neg (by omega)).symm
theorem numS_ne (n : Int) : ∃ c r, numS n = c :: r ∧ c ≠ 46 := by
  by_cases h : 0 ≤ n
  · rw [numS_nn h]
    have h1 := numL_ne n.toNat
    have h2 := numL_digits n.toNat
    cases e : numL n.toNat with
    | nil => exact absurd e h1
    | cons c r => rw [e] at h2; exact ⟨c, r, rfl, by have := h2.head; omega⟩
  · rw [numS_neg (by omega)]
    exact ⟨45, _, rfl, by decide⟩
theorem numS_128 (n : Int) : ∀ c ∈ numS n, c = 45 ∨ (48 ≤ c ∧ c ≤ 57) := by
  intro c hc
  by_cases h : c = 45 ∨ (48 ≤ c ∧ c ≤ 57)
  · exact h
  · exact absurd hc (numS_free (by omega))
theorem val_bad {x : List Nat} {c : Nat} (hc : c ≠ 45) (k : c < 48 ∨ 57 < c ∨ (c = 48 ∧ x ≠ [])) : valO (c :: x) = none := by
  have e : figsL (c :: x) = c :: x := figsL_n fun z => hc (by cases z; rfl)
  have hp : plainL (c :: x) = false := by
    unfold plainL
    rw [e]
    rcases k with k | k | ⟨k, kx⟩
    · rw [show (c :: x).all isFig = false from by rw [List.all_cons, show isFig c = false from by unfold isFig; rw [decide_eq_false (by omega)]; rfl]; rfl]
      simp
    · rw [show (c :: x).all isFig = false from by rw [List.all_cons, show isFig c = false from by unfold isFig; rw [decide_eq_false (show ¬ c ≤ 57 by omega), Bool.and_false]]; rfl]
      simp
    · subst k
      rw [decide_eq_false (show ¬ (48 :: x) = [48] from fun z => kx (by cases z; rfl))]
      simp
  unfold valO
  rw [hp]
  rfl
section
variable (n lo hi : Int)
theorem ck_more {y : List Nat} (k : 46 ∉ y) (e : y ≠ []) : clockIn (clockL n ++ y) lo hi = none := by
  have e1 : clockL n ++ y = numS (n / 1440) ++ 46 :: (twoL (n % 1440 / 60) ++ 46 :: (twoL (n % 1440 % 60) ++ y)) := by simp [clockL]
  have hy : (twoL (n % 1440 % 60) ++ y).length ≠ 2 := by
    have : y.length ≠ 0 := fun z => e (List.length_eq_zero_iff.mp z)
    rw [List.length_append]
    show 2 + y.length ≠ 2
    omega
  rw [e1, ck_at (dots_three (numS_free (by omega)) (two_free (by omega) (by omega) (by omega)) fun z => (List.mem_append.mp z).elim (two_free (by omega) (by omega) (by omega)) k), below_len hy]
  exact clockOf_n3
theorem ck_ahead {c : Nat} (hc : c ≠ 45 ∧ c ≠ 46) (k : c < 48 ∨ 57 < c ∨ c = 48) : clockIn (c :: clockL n) lo hi = none := by
  have e1 : c :: clockL n = (c :: numS (n / 1440)) ++ 46 :: (twoL (n % 1440 / 60) ++ 46 :: twoL (n % 1440 % 60)) := rfl
  obtain ⟨d, r, hn, _⟩ := numS_ne (n / 1440)
  rw [e1, ck_at (dots_three (fun z => (List.mem_cons.mp z).elim (fun z => hc.2 z.symm) (numS_free (by omega))) (two_free (by omega) (by omega) (by omega)) (two_free (by omega) (by omega) (by omega))),
    val_bad hc.1 (by rw [hn]; rcases k with k | k | k <;> simp [k])]
  exact clockOf_n1
theorem ck_less : clockIn (clockL n).dropLast lo hi = none := by
  have e1 : (clockL n).dropLast = numS (n / 1440) ++ 46 :: (twoL (n % 1440 / 60) ++ 46 :: [48 + (n % 1440 % 60 / 10).toNat]) := by
    have e2 : clockL n = (numS (n / 1440) ++ 46 :: (twoL (n % 1440 / 60) ++ 46 :: [48 + (n % 1440 % 60 / 10).toNat])) ++ [48 + (n % 1440 % 60 % 10).toNat] := by simp [clockL, twoL]
    rw [e2, List.dropLast_concat]
  have h46 : 46 ∉ [48 + (n % 1440 % 60 / 10).toNat] := by simp; omega
  rw [e1, ck_at (dots_three (numS_free (by omega)) (two_free (by omega) (by omega) (by omega)) h46), below_len (l := [48 + (n % 1440 % 60 / 10).toNat]) (by simp)]
  exact clockOf_n3
theorem ck_turn : clockIn ((clockL n).drop 1 ++ [46]) lo hi = none := by
  obtain ⟨d, r, hn, _⟩ := numS_ne (n / 1440)
  have hr : 46 ∉ r := fun z => numS_free (n := n / 1440) (c := 46) (by omega) (by rw [hn]; exact List.mem_cons_of_mem _ z)
  have e1 : (clockL n).drop 1 ++ [46] = r ++ 46 :: (twoL (n % 1440 / 60) ++ 46 :: (twoL (n % 1440 % 60) ++ 46 :: [])) := by
    unfold clockL
    rw [hn]
    simp
  refine ck_len ?_
  rw [e1, dots_cons hr, dots_three (two_free (by omega) (by omega) (by omega)) (two_free (by omega) (by omega) (by omega)) (by simp)]
  simp
end
end G

set_option linter.all false
set_option maxRecDepth 100000
namespace G
open PySem L2 TL NumText
/-! the law's own readers agree -/
theorem spl_some : ∀ (r a : List Nat), spl [46] 0 a r ≠ [] := by
  intro r
  induction r with
  | nil => intro a; rw [spl_nil]; simp
  | cons c r ih =>
    intro a
    have e : spl [46] 0 a (c :: r) = if pre [46] (c :: r) = true then a :: spl [46] 0 [] r else spl [46] 0 (a ++ [c]) r := rfl
    rw [e]
    split
    · simp
    · exact ih _
theorem join_dots : ∀ (l acc : List Nat), joinL [46] (spl [46] 0 acc l) = acc ++ l
  | [], acc => by rw [spl_nil]; show acc = _; simp
  | d :: r, acc => by
    have e : spl [46] 0 acc (d :: r) = if pre [46] (d :: r) = true then acc :: spl [46] 0 [] r else spl [46] 0 (acc ++ [d]) r := rfl
    rw [e]
    have ep : pre [46] (d :: r) = decide (d = 46) := by
      show ([d] == [46]) = _
      rw [Bool.eq_iff_iff]
      simp
    rw [ep]
    by_cases hd : d = 46
    · subst hd
      have h := join_dots r []
      rw [if_pos (by decide)]
      cases e2 : spl [46] 0 [] r with
      | nil => exact absurd e2 (spl_some r [])
      | cons x y =>
        rw [e2] at h
        show acc ++ ([46] ++ joinL [46] (x :: y)) = _
        rw [h]
        simp
    · rw [if_neg (by simp [hd]), join_dots r (acc ++ [d])]
      simp
theorem dots_join (l : List Nat) : joinL [46] (dots l) = l := by
  have := join_dots l []
  simpa [dots] using this
theorem dots3 {l a b c : List Nat} (h : dots l = [a, b, c]) : l = a ++ 46 :: (b ++ 46 :: c) := by
  have := dots_join l
  rw [h] at this
  exact this.symm
theorem dots2 {l a b : List Nat} (h : dots l = [a, b]) : l = a ++ 46 :: b := by
  have := dots_join l
  rw [h] at this
  exact this.symm
theorem num_of_aux : ∀ (l : List Nat) (a : Nat), AllDigits l → 0 < a → numL (l.foldl (fun acc c => acc * 10 + (c - 48)) a) = numL a ++ l
  | [], a, _, _ => by simp
  | c :: r, a, h, ha => by
    have h1 := h.head
    rw [List.foldl_cons, num_of_aux r (a * 10 + (c - 48)) h.tail (by omega), numL_step (by omega)]
    have e1 : (a * 10 + (c - 48)) / 10 = a := by omega
    have e2 : 48 + (a * 10 + (c - 48)) % 10 = c := by omega
    rw [e1, e2]
    simp
theorem num_of {l : List Nat} (h : AllDigits l) (hn : l ≠ []) (hh : l.head? = some 48 → l = [48]) : numL (digitsVal l) = l := by
  cases l with
  | nil => exact absurd rfl hn
  | cons c r =>
    have h1 := h.head
    by_cases hc : c = 48
    · subst hc
      have := hh rfl
      cases this
      decide +kernel
    · show numL ((c :: r).foldl (fun acc c => acc * 10 + (c - 48)) 0) = _
      rw [List.foldl_cons, num_of_aux r _ h.tail (by omega), numL_lt (by omega)]
      have e : 48 + (0 * 10 + (c - 48)) = c := by omega
      rw [e]
      rfl
/-- what a plain text is -/
structure PlainAt (l : List Nat) (d : Int) : Prop where
  fd : AllDigits (figsL l)
  fn : figsL l ≠ []
  v : d = valL l
  s : numS d = l
theorem plain_of {l : List Nat} {d : Int} (h : valO l = some d) : PlainAt l d := by
  unfold valO at h
  by_cases hp : plainL l = true
  · rw [if_pos hp] at h
    have hd := (Option.some.inj h).symm
    unfold plainL at hp
    simp only [Bool.and_eq_true, Bool.or_eq_true, decide_eq_true_eq, Bool.not_eq_true', decide_eq_false_iff_not] at hp
    obtain ⟨h1, h2, h3, h4⟩ := hp
    have fd := all_fig h3
    have fn : figsL l ≠ [] := fun e => by rw [e] at h1; exact absurd h1 (by decide)
    refine ⟨fd, fn, hd, ?_⟩
    rw [hd]
    unfold valL
    by_cases hm : l.head? = some 45
    · rw [if_pos hm]
      have hl : l = 45 :: figsL l := by
        rw [figsL_y hm]
        cases l with
        | nil => cases hm
        | cons c r => cases hm; rfl
      have hne : ¬ (figsL l).head? = some 48 := by
        rcases h4 with h4 | h4
        · exact h4
        · rw [h4] at hm; cases hm
      have hv : numL (digitsVal (figsL l)) = figsL l := num_of fd fn fun e => absurd e hne
      have hpos : 0 < digitsVal (figsL l) := by
        rcases Nat.eq_zero_or_pos (digitsVal (figsL l)) with e | e
        · rw [e] at hv
          rw [← hv] at hne
          exact absurd (by decide +kernel) hne
        · exact e
      rw [numS_neg (by omega), show (0 - -((digitsVal (figsL l) : Nat) : Int)).toNat = digitsVal (figsL l) by omega, hv]
      exact hl.symm
    · rw [if_neg hm, numS_nn (by omega)]
      have e : figsL l = l := figsL_n hm
      rw [e] at fd fn h4 ⊢
      rw [Int.toNat_natCast]
      exact num_of fd fn fun hh => by
        rcases h4 with h4 | h4
        · exact absurd hh h4
        · exact h4
  · rw [if_neg hp] at h
    cases h
theorem two_back {l : List Nat} {lim m : Int} (h : belowO l lim = some m) : l = twoL m ∧ AllDigits l ∧ l ≠ [] ∧ ((digitsVal l : Nat) : Int) = m := by
  unfold belowO at h
  split at h
  · rename_i a b
    split at h
    · rename_i hf
      simp only [Bool.and_eq_true] at hf
      have h1 := isFig_iff.mp hf.1
      have h2 := isFig_iff.mp hf.2
      split at h
      · have h3 := Option.some.inj h
        refine ⟨?_, ?_, by simp, ?_⟩
        · unfold twoL
          congr 1
          · omega
          · congr 1
            omega
        · intro c hc
          simp only [List.mem_cons, List.not_mem_nil, or_false] at hc
          rcases hc with rfl | rfl
          · exact h1
          · exact h2
        · have : digitsVal [a, b] = (a - 48) * 10 + (b - 48) := by unfold digitsVal; simp
          omega
      · cases h
    · cases h
  · cases h
/-- the law's clock reader -/
def figsOk (l : List Nat) : Bool := l.all isFig && !l.isEmpty
def lClockN (a b c : List Nat) : Int := 1440 * valL a + 60 * ((digitsVal b : Nat) : Int) + ((digitsVal c : Nat) : Int)
def lClockP (l : List Nat) (lo hi : Int) : List (List Nat) → Option Int
  | [a, b, c] => if (!a.isEmpty && (figsOk (figsL a) && (figsOk b && figsOk c))) = true then (if clockL (lClockN a b c) = l ∧ lo ≤ lClockN a b c ∧ lClockN a b c ≤ hi then some (lClockN a b c) else none) else none
  | _ => none
def lClock (l : List Nat) (lo hi : Int) : Option Int := lClockP l lo hi (dots l)
theorem figsOk_of {l : List Nat} (h : AllDigits l) (k : l ≠ []) : figsOk l = true := by
  unfold figsOk
  rw [figs_all h]
  cases l with
  | nil => exact absurd rfl k
  | cons c r => rfl
theorem figsOk_at {l : List Nat} (h : figsOk l = true) : AllDigits l ∧ l ≠ [] := by
  unfold figsOk at h
  rw [Bool.and_eq_true] at h
  refine ⟨all_fig h.1, fun e => ?_⟩
  rw [e] at h
  exact absurd h.2 (by decide)
theorem clock_agree (l : List Nat) {lo hi : Int} (h1 : -(10 ^ 30) < lo) (h2 : hi < 10 ^ 30) : lClock l lo hi = clockIn l lo hi := by
  cases hk : clockIn l lo hi with
  | some n =>
    unfold clockIn clockP at hk
    split at hk
    · rename_i a b c hd
      unfold clockOf at hk
      split at hk
      · rename_i d h m e1 e2 e3
        obtain ⟨ea, _, _⟩ := inB_at e1
        have pa := plain_of ea
        obtain ⟨b1, b2, b3, b4⟩ := two_back e2
        obtain ⟨c1, c2, c3, c4⟩ := two_back e3
        obtain ⟨en, n1, n2⟩ := inB_at hk
        have en := Option.some.inj en
        have hn : lClockN a b c = n := by
          unfold lClockN
          rw [b4, c4, ← pa.v]
          exact en
        have rb := below_range e2
        have rc := below_range e3
        have hl : clockL n = l := by
          rw [dots3 hd]
          unfold clockL
          have q1 : n / 1440 = d := by omega
          have q2 : n % 1440 / 60 = h := by omega
          have q3 : n % 1440 % 60 = m := by omega
          rw [q1, q2, q3, pa.s, ← b1, ← c1]
        unfold lClock
        rw [hd]
        have ha : a.isEmpty = false := by
          cases a with
          | nil => exact absurd rfl pa.fn
          | cons _ _ => rfl
        show (if (!a.isEmpty && (figsOk (figsL a) && (figsOk b && figsOk c))) = true then (if clockL (lClockN a b c) = l ∧ lo ≤ lClockN a b c ∧ lClockN a b c ≤ hi then some (lClockN a b c) else none) else none) = some n
        rw [ha, figsOk_of pa.fd pa.fn, figsOk_of b2 b3, figsOk_of c2 c3, if_pos (by decide), hn, if_pos ⟨hl, n1, n2⟩]
      · cases hk
    · cases hk
  | none =>
    unfold lClock lClockP
    split
    · rename_i a b c hd
      split
      · split
        · rename_i h
          exfalso
          generalize lClockN a b c = q at h
          have := clock_back (n := q) (by omega) (by omega) lo hi
          rw [h.1, hk] at this
          rw [show inB lo hi (some q) = some q from if_pos h.2] at this
          cases this
        · rfl
      · rfl
    · rfl
/-- the law's shift reader -/
def lShiftN (c : Nat) (a b : List Nat) : Int := if c = 45 then 0 - (60 * ((digitsVal a : Nat) : Int) + ((digitsVal b : Nat) : Int)) else 60 * ((digitsVal a : Nat) : Int) + ((digitsVal b : Nat) : Int)
def lShiftP (l : List Nat) (c : Nat) : List (List Nat) → Option Int
  | [a, b] => if (figsOk a && figsOk b) = true then (if (-2880 ≤ lShiftN c a b ∧ lShiftN c a b ≤ 2880) ∧ shiftL (lShiftN c a b) = l then some (lShiftN c a b) else none) else none
  | _ => none
def lShift : List Nat → Option Int
  | [] => none
  | c :: r => lShiftP (c :: r) c (dots r)
theorem shift_own {n : Int} (h1 : -2880 ≤ n) (h2 : n ≤ 2880) : shiftIn (shiftL n) = some n := by
  unfold shiftL
  rw [shift_back (if n < 0 then 45 else 43) h1 h2 (by split <;> simp) (by by_cases c : n < 0 <;> simp [c]; omega)]
  by_cases c : n < 0
  · rw [if_pos c, if_pos rfl]
    congr 1
    omega
  · rw [if_neg c, if_neg (by decide)]
    congr 1
    omega
theorem shift_agree (l : List Nat) : lShift l = shiftIn l := by
  cases l with
  | nil => rfl
  | cons c r =>
    cases hk : shiftIn (c :: r) with
    | some n =>
      have hk2 : (if c = 43 ∨ c = 45 then shiftP c (dots r) else none) = some n := hk
      by_cases hc : c = 43 ∨ c = 45
      · rw [if_pos hc] at hk2
        unfold shiftP at hk2
        split at hk2
        · rename_i a b hd
          unfold shiftOf at hk2
          split at hk2
          · rename_i h m e1 e2
            obtain ⟨ea, h0, h48⟩ := inB_at e1
            have pa := plain_of ea
            have hm : ¬ a.head? = some 45 := by
              intro hm
              have s := pa.s
              rw [numS_nn h0] at s
              rw [← s] at hm
              exact num_nohead (by omega) hm
            have fa := pa.fd
            have fb := pa.fn
            rw [figsL_n hm] at fa fb
            have va : ((digitsVal a : Nat) : Int) = h := by
              rw [pa.v]
              unfold valL
              rw [if_neg hm, figsL_n hm]
            obtain ⟨b1, b2, b3, b4⟩ := two_back e2
            have rb := below_range e2
            have hn : lShiftN c a b = n ∧ -2880 ≤ n ∧ n ≤ 2880 ∧ (n < 0 ↔ c = 45) ∧ (n.natAbs : Int) = 60 * h + m := by
              unfold lShiftN
              rw [va, b4]
              split at hk2
              · cases hk2
              · rename_i hx
                split at hk2
                · rename_i hc5
                  have := Option.some.inj hk2
                  rw [if_pos hc5]
                  omega
                · rename_i hc5
                  have := Option.some.inj hk2
                  rw [if_neg hc5]
                  omega
            obtain ⟨q1, q2, q3, q4, q5⟩ := hn
            have hl : shiftL n = c :: r := by
              unfold shiftL
              have z1 : ((n.natAbs / 60 : Nat) : Int) = h := by omega
              have z2 : ((n.natAbs % 60 : Nat) : Int) = m := by omega
              rw [z1, z2, pa.s, ← b1, dots2 hd]
              congr 1
              by_cases c45 : n < 0
              · rw [if_pos c45, q4.mp c45]
              · rw [if_neg c45]
                rcases hc with hc | hc
                · exact hc.symm
                · exact absurd (q4.mpr hc) c45
            show lShiftP (c :: r) c (dots r) = some n
            rw [hd]
            show (if (figsOk a && figsOk b) = true then (if (-2880 ≤ lShiftN c a b ∧ lShiftN c a b ≤ 2880) ∧ shiftL (lShiftN c a b) = c :: r then some (lShiftN c a b) else none) else none) = some n
            rw [figsOk_of fa fb, figsOk_of b2 b3, if_pos (by decide), q1, if_pos ⟨⟨q2, q3⟩, hl⟩]
          · cases hk2
        · cases hk2
      · rw [if_neg hc] at hk2
        cases hk2
    | none =>
      show lShiftP (c :: r) c (dots r) = none
      unfold lShiftP
      split
      · split
        · split
          · rename_i h
            exfalso
            have := shift_own h.1.1 h.1.2
            rw [h.2, hk] at this
            cases this
          · rfl
        · rfl
      · rfl
theorem shiftL_tx {n : Int} (h1 : -2880 ≤ n) (h2 : n ≤ 2880) : (shiftL n).length ≤ 7 ∧ (shiftL n).all (fun c => decide (c < 128)) = true := by
  unfold shiftL
  have hl : (numS ((n.natAbs / 60 : Nat) : Int)).length ≤ 2 := by rw [numS_nn (by omega)]; exact numL_len (by decide) (by omega)
  refine ⟨?_, ?_⟩
  · rw [List.length_cons, List.length_append, List.length_cons]
    show _ + (2 + 1) + 1 ≤ 7
    omega
  · rw [List.all_cons, List.all_append, List.all_cons, two_128 (by omega) (by omega)]
    have h3 : (numS ((n.natAbs / 60 : Nat) : Int)).all (fun c => decide (c < 128)) = true := by
      rw [List.all_eq_true]
      intro c hc
      have := numS_128 _ c hc
      exact decide_eq_true (by omega)
    rw [h3]
    split <;> decide
theorem clockL_tx {n : Int} (h1 : -(10 ^ 26) < n) (h2 : n < 10 ^ 26) : (clockL n).length ≤ 33 ∧ (clockL n).all (fun c => decide (c < 128)) = true := by
  unfold clockL
  have hl : (numS (n / 1440)).length ≤ 27 := by
    by_cases h : 0 ≤ n / 1440
    · rw [numS_nn h]
      exact Nat.le_trans (numL_len (k := 26) (by decide) (by omega)) (by decide)
    · rw [numS_neg (by omega), List.length_cons]
      have := numL_len (n := (0 - n / 1440).toNat) (k := 26) (by decide) (by omega)
      omega
  have h3 : (numS (n / 1440)).all (fun c => decide (c < 128)) = true := by
    rw [List.all_eq_true]
    intro c hc
    have := numS_128 _ c hc
    exact decide_eq_true (by omega)
  refine ⟨?_, ?_⟩
  · rw [List.length_append, List.length_cons, List.length_append, List.length_cons]
    show _ + (2 + (2 + 1) + 1) ≤ 33
    omega
  · rw [List.all_append, List.all_cons, List.all_append, List.all_cons, two_128 (by omega) (by omega), two_128 (by omega) (by omega), h3]
    decide
end G

set_option linter.all false
set_option maxRecDepth 100000
namespace G
open PySem L2 TL
/-! tables -/
def wholeB (d : PyData) (lo hi : Int) : Bool := match d with
  | .int n => decide (lo ≤ n) && decide (n ≤ hi)
  | _ => false
theorem whole_no {d : PyData} {lo hi : Int} (h : isNum d = false) : wholeB d lo hi = false := by
  cases d <;> first | rfl | cases h
theorem whole_yes {d : PyData} {lo hi : Int} (h : wholeB d lo hi = true) : ∃ n : Int, d = .int n ∧ lo ≤ n ∧ n ≤ hi := by
  cases d <;> first | cases h | skip
  rename_i n
  unfold wholeB at h
  rw [Bool.and_eq_true, decide_eq_true_eq, decide_eq_true_eq] at h
  exact ⟨n, rfl, h⟩
def rowB : PyData → Bool
  | .tuple [a, b] => wholeB a 0 1000000000 && wholeB b (0 - 2880) 2880
  | _ => false
theorem row_yes {d : PyData} (h : rowB d = true) : ∃ m s : Int, d = .tuple [.int m, .int s] ∧ 0 ≤ m ∧ m ≤ 1000000000 ∧ -2880 ≤ s ∧ s ≤ 2880 := by
  unfold rowB at h
  split at h
  · rename_i a b
    rw [Bool.and_eq_true] at h
    obtain ⟨m, rfl, h1, h2⟩ := whole_yes h.1
    obtain ⟨s, rfl, h3, h4⟩ := whole_yes h.2
    exact ⟨m, s, rfl, h1, h2, by omega, h4⟩
  · cases h
theorem row_len {ds : List PyData} (h : ds.length ≠ 2) : rowB (.tuple ds) = false := by
  unfold rowB
  split
  · rename_i e
    cases e
    exact absurd rfl h
  · rfl
theorem row_notup {d : PyData} (h : isTup d = false) : rowB d = false := by cases d <;> first | rfl | cases h
def momD : PyData → Int
  | .tuple (.int m :: _) => m
  | _ => 0
def stepBad (ahead : Option Int) (m : Int) : Bool := match ahead with
  | none => decide (m ≠ 0)
  | some a => decide (m ≤ a)
def faultFrom : Option Int → Nat → List PyData → Option Int
  | _, _, [] => none
  | ahead, i, d :: r => if (!rowB d || stepBad ahead (momD d)) = true then some (i : Int) else faultFrom (some (momD d)) (i + 1) r
def faultD : PyData → Option Int
  | .list ds => if ds.length = 0 then some 0 else if ds.length > 21 then some 21 else faultFrom none 0 ds
  | _ => some 0
/-- rows of a table -/
def Rising : Option Int → List (Int × Int) → Prop
  | _, [] => True
  | a, p :: r => (0 ≤ p.1 ∧ p.1 ≤ 1000000000 ∧ -2880 ≤ p.2 ∧ p.2 ≤ 2880) ∧ stepBad a p.1 = false ∧ Rising (some p.1) r
structure TabOk (R : List (Int × Int)) : Prop where
  n : R ≠ []
  l : R.length ≤ 21
  r : Rising none R
theorem fault_from : ∀ (R : List (Int × Int)) (a : Option Int) (i : Nat), Rising a R → faultFrom a i (R.map fun p => .tuple [.int p.1, .int p.2]) = none
  | [], _, _, _ => rfl
  | p :: r, a, i, h => by
    have e1 : rowB (.tuple [.int p.1, .int p.2]) = true := by
      show (wholeB (.int p.1) 0 1000000000 && wholeB (.int p.2) (0 - 2880) 2880) = true
      simp only [wholeB, Bool.and_eq_true, decide_eq_true_eq]
      have := h.1
      omega
    have e2 : stepBad a p.1 = false := h.2.1
    show (if (!rowB (.tuple [.int p.1, .int p.2]) || stepBad a p.1) = true then some (i : Int) else faultFrom (some p.1) (i + 1) (r.map fun p => .tuple [.int p.1, .int p.2])) = none
    rw [e1, e2, if_neg (by decide)]
    exact fault_from r _ _ h.2.2
theorem fault_none {R : List (Int × Int)} (h : TabOk R) : faultD (.list (R.map fun p => .tuple [.int p.1, .int p.2])) = none := by
  show (if (R.map _).length = 0 then some 0 else if (R.map _).length > 21 then some 21 else faultFrom none 0 (R.map _)) = none
  have h1 := h.l
  have h2 : R.length ≠ 0 := fun e => h.n (List.length_eq_zero_iff.mp e)
  rw [List.length_map, if_neg h2, if_neg (by omega)]
  exact fault_from R none 0 h.r
theorem Rising.mem : ∀ {R : List (Int × Int)} {a : Option Int}, Rising a R → ∀ p ∈ R, 0 ≤ p.1 ∧ p.1 ≤ 1000000000 ∧ -2880 ≤ p.2 ∧ p.2 ≤ 2880
  | q :: r, a, h, p, hp => by
    rcases List.mem_cons.mp hp with rfl | hp
    · exact h.1
    · exact Rising.mem h.2.2 p hp
end G

set_option linter.all false
set_option maxRecDepth 100000
namespace G
open PySem L2 TL NumText
/-! table texts -/
def mkZ (l : List Nat) : Str := ⟨l.toArray⟩
theorem tl_mkZ (l : List Nat) : tl (mkZ l) = l := rfl
theorem mkZ_of {z : Str} {l : List Nat} (h : tl z = l) : z = mkZ l := ext_tl h
def rowL (p : Int × Int) : List Nat := clockL p.1 ++ 32 :: shiftL p.2
def tableL (R : List (Int × Int)) : List Nat := joinL [59, 32] (R.map rowL)
theorem rowL_tx {p : Int × Int} (h : 0 ≤ p.1 ∧ p.1 ≤ 1000000000 ∧ -2880 ≤ p.2 ∧ p.2 ≤ 2880) : (rowL p).length ≤ 41 ∧ (rowL p).all (fun c => decide (c < 128)) = true := by
  have h1 := clockL_tx (n := p.1) (by omega) (by omega)
  have h2 := shiftL_tx (n := p.2) h.2.2.1 h.2.2.2
  unfold rowL
  refine ⟨?_, ?_⟩
  · rw [List.length_append, List.length_cons]
    omega
  · rw [List.all_append, List.all_cons, h1.2, h2.2]
    decide
theorem clock_free {n : Int} {c : Nat} (h : c ≠ 45 ∧ c ≠ 46 ∧ (c < 48 ∨ 57 < c)) : c ∉ clockL n := by
  unfold clockL
  intro hm
  rcases List.mem_append.mp hm with hm | hm
  · exact numS_free ⟨h.1, h.2.2⟩ hm
  · rcases List.mem_cons.mp hm with hm | hm
    · exact h.2.1 hm
    · rcases List.mem_append.mp hm with hm | hm
      · exact two_free (by omega) (by omega) h.2.2 hm
      · rcases List.mem_cons.mp hm with hm | hm
        · exact h.2.1 hm
        · exact two_free (by omega) (by omega) h.2.2 hm
theorem shift_free {n : Int} {c : Nat} (h : c ≠ 43 ∧ c ≠ 45 ∧ c ≠ 46 ∧ (c < 48 ∨ 57 < c)) : c ∉ shiftL n := by
  unfold shiftL
  intro hm
  rcases List.mem_cons.mp hm with hm | hm
  · split at hm
    · exact h.2.1 hm
    · exact h.1 hm
  · rcases List.mem_append.mp hm with hm | hm
    · exact numS_free ⟨h.2.1, h.2.2.2⟩ hm
    · rcases List.mem_cons.mp hm with hm | hm
      · exact h.2.2.1 hm
      · exact two_free (by omega) (by omega) h.2.2.2 hm
theorem row_free {p : Int × Int} : 59 ∉ rowL p := by
  unfold rowL
  intro hm
  rcases List.mem_append.mp hm with hm | hm
  · exact clock_free (by omega) hm
  · rcases List.mem_cons.mp hm with hm | hm
    · cases hm
    · exact shift_free (by omega) hm
theorem tl_semi : tl (Str.ofString "; ") = [59, 32] := by decide +kernel
theorem tl_sp : tl (Str.ofString " ") = [32] := by decide +kernel
theorem split_rows {z : Str} {R : List (Int × Int)} (h : tl z = tableL R) (hn : R ≠ []) : PySem.Txt.split z (Str.ofString "; ") = R.map fun p => mkZ (rowL p) := by
  refine map_tl_inj ?_
  rw [split_spl _ _ (by rw [tl_semi]; simp) (kind_ok (by decide +kernel)), tl_semi, h]
  unfold tableL
  rw [spl_join (by simpa using hn) (by intro p hp; obtain ⟨q, _, rfl⟩ := List.mem_map.mp hp; exact row_free), List.map_map]
  rfl
theorem split_row {p : Int × Int} : PySem.Txt.split (mkZ (rowL p)) (Str.ofString " ") = [mkZ (clockL p.1), mkZ (shiftL p.2)] := by
  refine map_tl_inj ?_
  rw [split_spl _ _ (by rw [tl_sp]; simp) (kind_ok (by decide +kernel)), tl_sp, tl_mkZ]
  unfold rowL
  rw [show clockL p.1 ++ 32 :: shiftL p.2 = clockL p.1 ++ ([32] ++ shiftL p.2) from rfl, spl_part1 (clock_free (by omega)), spl_last1 (shift_free (by omega))]
  rfl
theorem join_rows (R : List (Int × Int)) : Str.join (Str.ofString "; ") (R.map fun p => mkZ (rowL p)) = mkZ (tableL R) := by
  refine ext_tl ?_
  rw [tl_join, tl_semi, List.map_map]
  rfl
theorem sum_le : ∀ {l : List Nat} {n : Nat}, (∀ x ∈ l, x ≤ n) → l.sum ≤ l.length * n
  | [], n, _ => by simp
  | x :: r, n, h => by
    have h1 := sum_le (l := r) fun y hy => h y (List.mem_cons_of_mem _ hy)
    have h2 := h x List.mem_cons_self
    rw [List.sum_cons, List.length_cons, Nat.succ_mul]
    omega
theorem joinL_len : ∀ (S : List Nat) (ps : List (List Nat)), (joinL S ps).length ≤ (ps.map List.length).sum + ps.length * S.length
  | S, [] => by simp [joinL]
  | S, [p] => by simp [joinL]
  | S, p :: q :: r => by
    have h := joinL_len S (q :: r)
    show (p ++ (S ++ joinL S (q :: r))).length ≤ _
    rw [List.length_append, List.length_append, List.map_cons, List.sum_cons, List.length_cons (a := p), Nat.succ_mul]
    omega
theorem joinL_all {f : Nat → Bool} : ∀ (S : List Nat) (ps : List (List Nat)), S.all f = true → (∀ p ∈ ps, p.all f = true) → (joinL S ps).all f = true
  | S, [], _, _ => rfl
  | S, [p], _, h => h p (by simp)
  | S, p :: q :: r, hS, h => by
    have h1 := joinL_all S (q :: r) hS fun y hy => h y (List.mem_cons_of_mem _ hy)
    show (p ++ (S ++ joinL S (q :: r))).all f = true
    rw [List.all_append, List.all_append, hS, h1, h p (by simp)]
    rfl
theorem tableL_tx {R : List (Int × Int)} (h : TabOk R) : Tx 2000 (mkZ (tableL R)) := by
  have hr : ∀ p ∈ R, (rowL p).length ≤ 41 ∧ (rowL p).all (fun c => decide (c < 128)) = true := fun p hp => rowL_tx (h.r.mem p hp)
  refine tx_of (tl_mkZ _) ?_ ?_
  · have h1 := joinL_len [59, 32] (R.map rowL)
    have h2 : ((R.map rowL).map List.length).sum ≤ ((R.map rowL).map List.length).length * 41 := sum_le (by
      intro x hx
      obtain ⟨l, hl, rfl⟩ := List.mem_map.mp hx
      obtain ⟨p, hp, rfl⟩ := List.mem_map.mp hl
      exact (hr p hp).1)
    rw [List.length_map, List.length_map] at h2
    rw [List.length_map] at h1
    have h3 := h.l
    have h4 : [59, 32].length = 2 := rfl
    unfold tableL
    rw [h4] at h1
    omega
  · exact joinL_all _ _ (by decide) fun l hl => by
      obtain ⟨p, hp, rfl⟩ := List.mem_map.mp hl
      exact (hr p hp).2
/-- a table at x for good -/
def TbS (C : Addr) (S : Hp) (x : V) (R : List (Int × Int)) : Prop := ∃ a dx, ∃ y : V, x = .ref a ∧ S a = some (.ins C dx [("kept_rows", y)]) ∧ Rp S y (.list (R.map prD))
theorem TbS.go {C : Addr} {w v : Wd} {x : V} {R : List (Int × Int)} {m : Addr → Prop} (e : Ext m w v) (h : TbS C w.S x R) : TbS C v.S x R := by
  obtain ⟨a, dx, y, rfl, h1, h2⟩ := h
  exact ⟨a, dx, y, rfl, st_go e h1, h2.go e⟩
theorem rising_snoc : ∀ {R : List (Int × Int)} {a : Option Int} {p : Int × Int}, Rising a R → (0 ≤ p.1 ∧ p.1 ≤ 1000000000 ∧ -2880 ≤ p.2 ∧ p.2 ≤ 2880) → (R = [] → stepBad a p.1 = false) → (∀ q, R.getLast? = some q → q.1 < p.1) → Rising a (R ++ [p])
  | [], a, p, _, hb, h0, _ => ⟨hb, h0 rfl, trivial⟩
  | q :: r, a, p, h, hb, _, hl => by
    refine ⟨h.1, h.2.1, rising_snoc h.2.2 hb (fun e => ?_) (fun q' hq' => ?_)⟩
    · subst e
      have := hl q rfl
      exact decide_eq_false (by omega)
    · refine hl q' ?_
      cases r with
      | nil => cases hq'
      | cons x y => rw [List.getLast?_cons_cons]; exact hq'
theorem rising_init : ∀ {R : List (Int × Int)} {a : Option Int} {p : Int × Int}, Rising a (R ++ [p]) → Rising a R ∧ (∀ q, R.getLast? = some q → q.1 < p.1) ∧ (0 ≤ p.1 ∧ p.1 ≤ 1000000000 ∧ -2880 ≤ p.2 ∧ p.2 ≤ 2880)
  | [], a, p, h => ⟨trivial, (fun q e => by cases e), h.1⟩
  | [x], a, p, h => ⟨⟨h.1, h.2.1, trivial⟩, (fun q e => by
      obtain rfl : x = q := Option.some.inj e
      have : stepBad (some x.1) p.1 = false := h.2.2.2.1
      have := of_decide_eq_false this
      omega), h.2.2.1⟩
  | x :: y :: r, a, p, h => by
    obtain ⟨h1, h2, h3⟩ := rising_init (R := y :: r) h.2.2
    exact ⟨⟨h.1, h.2.1, h1⟩, (fun q e => h2 q (by rw [List.getLast?_cons_cons] at e; exact e)), h3⟩
theorem rising_last {R : List (Int × Int)} {p : Int × Int} (h : Rising none (R ++ [p])) (hn : R ≠ []) : Rising none (R ++ [(1000000000, p.2)]) := by
  obtain ⟨h1, h2, h3⟩ := rising_init h
  refine rising_snoc h1 ⟨show (0 : Int) ≤ 1000000000 by decide, show (1000000000 : Int) ≤ 1000000000 by decide, h3.2.2⟩ (fun e => absurd e hn) fun q hq => ?_
  have := h2 q hq
  show q.1 < 1000000000
  omega
theorem ixN_last {α : Type} {xs : List α} {x : α} : ixN (xs ++ [x]).length (-1) = some xs.length := by
  unfold ixN
  rw [if_neg (by decide), List.length_append, List.length_singleton, if_pos (by omega)]
  congr 1
  omega
theorem set_last {α : Type} {xs : List α} {x y : α} : (xs ++ [x]).set xs.length y = xs ++ [y] := by
  induction xs with
  | nil => rfl
  | cons a r ih => rw [List.cons_append, List.length_cons, List.set_cons_succ, ih]; rfl
theorem rpa_split {S : Hp} : ∀ {ds : List PyData} {vs : List V} {d : PyData}, RpA S vs (ds ++ [d]) → ∃ vs0 vy, vs = vs0 ++ [vy] ∧ RpA S vs0 ds ∧ ∃ y, vy = y ∧ Rp S y d
  | [], vs, d, h => by
    cases h with
    | cons h1 h2 =>
      cases h2
      exact ⟨[], _, rfl, .nil, _, rfl, h1⟩
  | e :: r, vs, d, h => by
    cases h with
    | cons h1 h2 =>
      obtain ⟨vs0, vy, rfl, h3, h4⟩ := rpa_split (ds := r) h2
      exact ⟨_ :: vs0, vy, rfl, .cons h1 h3, h4⟩
end G

set_option linter.all false
set_option maxRecDepth 100000
namespace G
open PySem L2 TL NumText
/-! what a table shows -/
/-- the shift of the last row not above a moment -/
def lastLe (R : List (Int × Int)) (m : Int) : Int := R.foldl (fun acc p => if p.1 ≤ m then p.2 else acc) 0
theorem fold_above : ∀ (R : List (Int × Int)) (m a : Int), (∀ p ∈ R, m < p.1) → R.foldl (fun acc p => if p.1 ≤ m then p.2 else acc) a = a
  | [], _, _, _ => rfl
  | p :: r, m, a, h => by
    have h1 := h p List.mem_cons_self
    rw [List.foldl_cons, if_neg (by omega)]
    exact fold_above r m a fun q hq => h q (List.mem_cons_of_mem _ hq)
theorem rising_all : ∀ {R : List (Int × Int)} {a : Int}, Rising (some a) R → ∀ p ∈ R, a < p.1
  | q :: r, a, h, p, hp => by
    have h1 : stepBad (some a) q.1 = false := h.2.1
    have h1 := of_decide_eq_false h1
    rcases List.mem_cons.mp hp with rfl | hp
    · omega
    · have := rising_all h.2.2 p hp
      omega
theorem rising_drop : ∀ {R : List (Int × Int)} {a : Option Int} {i : Nat} {p : Int × Int}, Rising a R → R[i]? = some p → Rising (some p.1) (R.drop (i + 1))
  | q :: r, a, 0, p, h, hp => by
    cases hp
    exact h.2.2
  | q :: r, a, i + 1, p, h, hp => rising_drop (R := r) h.2.2 hp
/-- the row found by halving is the last one not above -/
theorem last_at {R : List (Int × Int)} {a : Option Int} {m : Int} {i : Nat} {p : Int × Int} (h : Rising a R) (hp : R[i]? = some p) (h1 : p.1 ≤ m) (h2 : ∀ q, R[i + 1]? = some q → m < q.1) : lastLe R m = p.2 := by
  have e : R = R.take (i + 1) ++ R.drop (i + 1) := (List.take_append_drop (i + 1) R).symm
  have ht : R.take (i + 1) = R.take i ++ [p] := by rw [List.take_succ, hp]; rfl
  unfold lastLe
  rw [e, List.foldl_append, ht, List.foldl_append]
  show (R.drop (i + 1)).foldl _ (if p.1 ≤ m then p.2 else _) = p.2
  rw [if_pos h1]
  refine fold_above _ m _ fun q hq => ?_
  cases hd : R.drop (i + 1) with
  | nil => rw [hd] at hq; cases hq
  | cons x r =>
    have hx : R[i + 1]? = some x := by
      have : (R.drop (i + 1))[0]? = some x := by rw [hd]; rfl
      rw [List.getElem?_drop] at this
      simpa using this
    have h3 := h2 x hx
    rw [hd] at hq
    rcases List.mem_cons.mp hq with rfl | hq
    · exact h3
    · have h4 := rising_drop h hx
      have h5 : R.drop (i + 1 + 1) = r := by
        have : (R.drop (i + 1)).drop 1 = r := by rw [hd]; rfl
        rw [List.drop_drop] at this
        rw [← this]
      rw [h5] at h4
      have := rising_all h4 q hq
      omega
end G

set_option linter.all false
set_option maxRecDepth 100000
namespace G
open PySem L2 TL NumText
/-! pieces of a table, the moments of a reading -/
def lastOf (R : List (Int × Int)) (i : Nat) : Int := match R[i + 1]? with
  | some q => q.1 - 1
  | none => 1000000000
def pcAt (R : List (Int × Int)) (i : Nat) : Int × Int × Int := ((R.getD i (0, 0)).1, lastOf R i, (R.getD i (0, 0)).2)
def pcsI (R : List (Int × Int)) : List (Int × Int × Int) := (List.range R.length).map (pcAt R)
def inPc (rd : Int) (t : Int × Int × Int) : Bool := decide (t.1 ≤ rd - t.2.2) && decide (rd - t.2.2 ≤ t.2.1)
def moms (R : List (Int × Int)) (rd : Int) : List Int := ((pcsI R).filter (inPc rd)).map fun t => rd - t.2.2
abbrev trD3 (t : Int × Int × Int) : PyData := .tuple [.int t.1, .int t.2.1, .int t.2.2]
theorem pc_mem {R : List (Int × Int)} {t : Int × Int × Int} (h : t ∈ pcsI R) : ∃ i p, R[i]? = some p ∧ t = (p.1, lastOf R i, p.2) := by
  obtain ⟨i, hi, rfl⟩ := List.mem_map.mp h
  have hi := List.mem_range.mp hi
  refine ⟨i, R[i], List.getElem?_eq_getElem hi, ?_⟩
  unfold pcAt
  rw [List.getD_eq_getElem?_getD, List.getElem?_eq_getElem hi]
  rfl
theorem mem_pc {R : List (Int × Int)} {i : Nat} {p : Int × Int} (h : R[i]? = some p) : (p.1, lastOf R i, p.2) ∈ pcsI R := by
  have hi := (List.getElem?_eq_some_iff.mp h).1
  refine List.mem_map.mpr ⟨i, List.mem_range.mpr hi, ?_⟩
  unfold pcAt
  rw [List.getD_eq_getElem?_getD, h]
  rfl
theorem last_le {R : List (Int × Int)} {i : Nat} (h : TabOk R) : lastOf R i ≤ 1000000000 := by
  unfold lastOf
  split
  · rename_i q hq
    have := (h.r.mem q (List.mem_of_getElem? hq)).2.1
    omega
  · exact Int.le_refl _
theorem pc_shift {R : List (Int × Int)} {i : Nat} {p : Int × Int} {m : Int} (h : TabOk R) (hp : R[i]? = some p) (h1 : p.1 ≤ m) (h2 : m ≤ lastOf R i) : lastLe R m = p.2 := by
  refine last_at h.r hp h1 fun q hq => ?_
  unfold lastOf at h2
  rw [hq] at h2
  have h2 : m ≤ q.1 - 1 := h2
  omega
theorem moms_ok {R : List (Int × Int)} {rd m : Int} (h : TabOk R) (hm : m ∈ moms R rd) : 0 ≤ m ∧ m ≤ 1000000000 ∧ m + lastLe R m = rd := by
  obtain ⟨t, ht, rfl⟩ := List.mem_map.mp hm
  obtain ⟨ht, hin⟩ := List.mem_filter.mp ht
  obtain ⟨i, p, hp, rfl⟩ := pc_mem ht
  unfold inPc at hin
  rw [Bool.and_eq_true, decide_eq_true_eq, decide_eq_true_eq] at hin
  have hb := h.r.mem p (List.mem_of_getElem? hp)
  have hl := last_le (i := i) h
  have e := pc_shift h hp hin.1 hin.2
  have i1 : p.1 ≤ rd - p.2 := hin.1
  have i2 : rd - p.2 ≤ lastOf R i := hin.2
  refine ⟨by show 0 ≤ rd - p.2; omega, by show rd - p.2 ≤ _; omega, ?_⟩
  show rd - p.2 + lastLe R (rd - p.2) = rd
  rw [e]
  omega
theorem pc_ex : ∀ {R : List (Int × Int)} {p : Int × Int} {m : Int}, p.1 ≤ m → ∃ (i : Nat) (q : Int × Int), (p :: R)[i]? = some q ∧ q.1 ≤ m ∧ ∀ z, (p :: R)[i + 1]? = some z → m < z.1
  | [], p, m, h => ⟨0, p, rfl, h, fun z hz => by cases hz⟩
  | q :: r, p, m, h => by
    by_cases hq : q.1 ≤ m
    · obtain ⟨i, z, h1, h2, h3⟩ := pc_ex (R := r) hq
      exact ⟨i + 1, z, h1, h2, h3⟩
    · refine ⟨0, p, rfl, h, fun z hz => ?_⟩
      have hz : some q = some z := hz
      cases hz
      omega
theorem moms_all {R : List (Int × Int)} {rd m : Int} (h : TabOk R) (h0 : 0 ≤ m) (h1 : m ≤ 1000000000) (e : m + lastLe R m = rd) : m ∈ moms R rd := by
  cases R with
  | nil => exact absurd rfl h.n
  | cons p r =>
    have hp : stepBad none p.1 = false := h.r.2.1
    have hp : ¬ (p.1 ≠ 0) := of_decide_eq_false hp
    obtain ⟨i, q, hq, q1, q2⟩ := pc_ex (R := r) (p := p) (m := m) (by omega)
    have el := last_at h.r hq q1 q2
    have hml : m ≤ lastOf (p :: r) i := by
      unfold lastOf
      split
      · rename_i z hz
        have := q2 z hz
        omega
      · exact h1
    refine List.mem_map.mpr ⟨_, List.mem_filter.mpr ⟨mem_pc hq, ?_⟩, ?_⟩
    · show (decide (q.1 ≤ rd - q.2) && decide (rd - q.2 ≤ lastOf (p :: r) i)) = true
      rw [Bool.and_eq_true, decide_eq_true_eq, decide_eq_true_eq]
      omega
    · show rd - q.2 = m
      omega
/-- rising -/
def Up : Int → List Int → Prop
  | _, [] => True
  | a, m :: r => a < m ∧ Up m r
theorem up_moms_from {R : List (Int × Int)} (h : TabOk R) (rd : Int) : ∀ (n k : Nat) (a : Int), k + n = R.length → (∀ p, R[k]? = some p → a < p.1) → Up a ((((List.range' k n).map (pcAt R)).filter (inPc rd)).map fun t => rd - t.2.2)
  | 0, _, _, _, _ => trivial
  | n + 1, k, a, hk, ha => by
    have hkl : k < R.length := by omega
    have hp : R[k]? = some R[k] := List.getElem?_eq_getElem hkl
    generalize R[k] = p at hp
    have epc : pcAt R k = (p.1, lastOf R k, p.2) := by
      unfold pcAt
      rw [List.getD_eq_getElem?_getD, hp]
      rfl
    have hap := ha p hp
    have nxt : ∀ b : Int, b ≤ lastOf R k → ∀ q, R[k + 1]? = some q → b < q.1 := by
      intro b hb q hq
      unfold lastOf at hb
      rw [hq] at hb
      have hb : b ≤ q.1 - 1 := hb
      omega
    have lt1 : ∀ q, R[k + 1]? = some q → p.1 < q.1 := by
      intro q hq
      have h5 := rising_drop h.r hp
      cases hd : R.drop (k + 1) with
      | nil =>
        have : (R.drop (k + 1))[0]? = some q := by rw [List.getElem?_drop]; simpa using hq
        rw [hd] at this
        cases this
      | cons x r =>
        have : (R.drop (k + 1))[0]? = some q := by rw [List.getElem?_drop]; simpa using hq
        rw [hd] at this h5
        cases this
        exact rising_all h5 q List.mem_cons_self
    rw [List.range'_succ, List.map_cons, epc]
    by_cases hin : inPc rd (p.1, lastOf R k, p.2) = true
    · rw [List.filter_cons_of_pos hin, List.map_cons]
      have h2 := hin
      unfold inPc at h2
      rw [Bool.and_eq_true, decide_eq_true_eq, decide_eq_true_eq] at h2
      have i1 : p.1 ≤ rd - p.2 := h2.1
      have i2 : rd - p.2 ≤ lastOf R k := h2.2
      exact ⟨by show a < rd - p.2; omega, up_moms_from h rd n (k + 1) _ (by omega) (nxt _ i2)⟩
    · rw [List.filter_cons_of_neg hin]
      exact up_moms_from h rd n (k + 1) a (by omega) fun q hq => by have := lt1 q hq; omega
theorem up_moms {R : List (Int × Int)} (h : TabOk R) (rd : Int) : Up (-1) (moms R rd) := by
  unfold moms pcsI
  rw [List.range_eq_range']
  exact up_moms_from h rd R.length 0 (-1) (by omega) fun p hp => by
    have := (h.r.mem p (List.mem_of_getElem? hp)).1
    omega
theorem Up.get : ∀ {l : List Int} {a : Int} {i : Nat} {x : Int}, Up a l → l[i]? = some x → (match i with | 0 => a | j + 1 => l.getD j 0) < x
  | m :: r, a, 0, x, h, e => by cases e; exact h.1
  | m :: r, a, i + 1, x, h, e => by
    have h2 := Up.get (l := r) (i := i) h.2 e
    cases i with
    | zero => exact h2
    | succ j => exact h2
theorem moms_far {R : List (Int × Int)} {rd : Int} (h : TabOk R) (hr : rd < -2880 ∨ 1000002880 < rd) : moms R rd = [] := by
  cases e : moms R rd with
  | nil => rfl
  | cons m r =>
    exfalso
    have hm : m ∈ moms R rd := by rw [e]; exact List.mem_cons_self
    obtain ⟨t, ht, rfl⟩ := List.mem_map.mp hm
    obtain ⟨ht, _⟩ := List.mem_filter.mp ht
    obtain ⟨i, p, hp, rfl⟩ := pc_mem ht
    have hb := h.r.mem p (List.mem_of_getElem? hp)
    have hm2 := moms_ok h hm
    have q1 : 0 ≤ rd - p.2 := hm2.1
    have q2 : rd - p.2 ≤ 1000000000 := hm2.2.1
    omega
section
variable {K : PySem.W.Frag} {w : Wd} {Q : VK} {p : Addr}
theorem inV_ints (m : Int) : ∀ ns : List Int, inV (.int m) (ns.map V.int) = decide (m ∈ ns)
  | [] => by simp [inV]
  | n :: r => by
    have h := inV_ints m r
    unfold inV at h ⊢
    rw [List.map_cons, List.any_cons, h, Bool.eq_iff_iff]
    simp only [Bool.or_eq_true, decide_eq_true_eq, List.mem_cons]
    show ((n == m) = true ∨ m ∈ r) ↔ _
    rw [beq_iff_eq]
    exact ⟨fun h => h.imp Eq.symm id, fun h => h.imp Eq.symm id⟩
theorem flat_ints (ns : List Int) : (ns.map V.int).all flatV = true := by
  rw [List.all_eq_true]
  intro x hx
  obtain ⟨n, _, rfl⟩ := List.mem_map.mp hx
  rfl
theorem s_ninI {m : Int} {ns : List Int} (h : SqL K w.H p (ns.map V.int)) (k : Q (.bl (!decide (m ∈ ns))) w.H) : gNotIn K (.int m) (.ref p) w.H Q := by
  refine ⟨p, _, rfl, .inl h, rfl, flat_ints ns, ?_⟩
  show Q (.bl (!inV (.int m) (ns.map V.int))) w.H
  rw [inV_ints]
  exact k
end
theorem rpa_ints {S : Hp} : ∀ xs : List Int, RpA S (xs.map V.int) (xs.map PyData.int)
  | [] => .nil
  | x :: r => .cons (.int x) (rpa_ints r)
theorem can_ints : ∀ xs : List Int, PyData.canLayAll0 (xs.map PyData.int) = true
  | [] => by simp [PyData.canLayAll0]
  | x :: r => by simp [PyData.canLayAll0, PyData.canLay0, can_ints r]
theorem dep_ints : ∀ xs : List Int, PyData.depthAll (xs.map PyData.int) ≤ 1
  | [] => by simp [PyData.depthAll]
  | z :: r => by
    have := dep_ints r
    simp only [List.map_cons, PyData.depthAll, PyData.depth]
    omega
theorem shaped_ints (xs : List Int) : SeqAt.shaped (.list (xs.map PyData.int)) = true := by
  have h1 := dep_ints xs
  have h2 : PyData.depth (.list (xs.map PyData.int)) ≤ 64 := by simp only [PyData.depth]; omega
  show (PyData.canLay0 (.list (xs.map PyData.int)) && decide (PyData.depth (.list (xs.map PyData.int)) ≤ 64)) = true
  rw [Bool.and_eq_true]
  exact ⟨by simp only [PyData.canLay0]; exact can_ints xs, decide_eq_true h2⟩
end G

namespace G
open PySem L2
/-! spans: plain -/
def spansFrom (last : Option Int) : List PyData → Bool
  | [] => true
  | .tuple [.int lo, .int hi] :: r => decide (lo ≤ hi) && (match last with | none => true | some l => decide (l + 2 ≤ lo)) && spansFrom (some hi) r
  | _ :: _ => false
def optV : Option Int → V
  | none => .non
  | some i => .int i
theorem drop_at {α : Type} {xs : List α} {i : Nat} {x : α} (h : xs[i]? = some x) : xs.drop i = x :: xs.drop (i + 1) := by
  obtain ⟨h1, rfl⟩ := List.getElem?_eq_some_iff.mp h
  exact List.drop_eq_getElem_cons h1
def lastHi (l : Option Int) : List (Int × Int) → Option Int
  | [] => l
  | p :: r => lastHi (some p.2) r
def Sp : Option Int → List (Int × Int) → Prop
  | _, [] => True
  | l, q :: r => q.1 ≤ q.2 ∧ (∀ h, l = some h → h + 2 ≤ q.1) ∧ Sp (some q.2) r
def ins (rows : List (Int × Int)) (n : Int) : Prop := ∃ q ∈ rows, q.1 ≤ n ∧ n ≤ q.2
def insB (rows : List (Int × Int)) (n : Int) : Bool := rows.any fun q => decide (q.1 ≤ n) && decide (n ≤ q.2)
theorem insB_iff {rows : List (Int × Int)} {n : Int} : insB rows n = true ↔ ins rows n := by
  simp [insB, ins, List.any_eq_true]
theorem insB_of {rows : List (Int × Int)} {n : Int} {b : Bool} (h : ins rows n ↔ b = true) : insB rows n = b := by
  rw [Bool.eq_iff_iff, insB_iff]
  exact h
section
variable {A B fs : List (Int × Int)} {n : Int} {l : Option Int} {q s : Int × Int} {i : Nat}
theorem ins_nil : ¬ ins [] n := fun ⟨_, h, _⟩ => by cases h
theorem ins_cons : ins (q :: A) n ↔ (q.1 ≤ n ∧ n ≤ q.2) ∨ ins A n := by simp [ins]
theorem ins_app : ins (A ++ B) n ↔ ins A n ∨ ins B n := by
  simp only [ins, List.mem_append, or_and_right, exists_or]
theorem ins_one : ins [q] n ↔ q.1 ≤ n ∧ n ≤ q.2 := by simp [ins]
theorem ins_take (h : A[i]? = some q) : ins (A.take (i + 1)) n ↔ ins (A.take i) n ∨ (q.1 ≤ n ∧ n ≤ q.2) := by
  rw [List.take_add_one, h, ins_app]
  exact or_congr Iff.rfl ins_one
theorem ins_perm (p : A.Perm B) : ins A n ↔ ins B n := by
  simp only [ins, p.mem_iff]
theorem ins_split (h : A[i]? = some q) : ins A n ↔ ins (A.take i) n ∨ (q.1 ≤ n ∧ n ≤ q.2) ∨ ins (A.drop (i + 1)) n := by
  have e : ins A n ↔ ins (A.take i ++ A.drop i) n := by rw [List.take_append_drop]
  rw [e, ins_app, drop_at h, ins_cons]
theorem Sp.weak (h : Sp l A) : Sp none A := by
  cases A with
  | nil => trivial
  | cons q r => exact ⟨h.1, (fun _ z => by cases z), h.2.2⟩
theorem Sp.wf : ∀ {A : List (Int × Int)} {l : Option Int}, Sp l A → ∀ q ∈ A, q.1 ≤ q.2
  | [], _, _, q, h => by cases h
  | p :: r, _, h, q, hq => by
    cases hq with
    | head => exact h.1
    | tail _ hq => exact Sp.wf h.2.2 q hq
theorem Sp.low : ∀ {A : List (Int × Int)} {h : Int}, Sp (some h) A → ∀ q ∈ A, h + 2 ≤ q.1
  | [], _, _, q, hq => by cases hq
  | p :: r, h, hs, q, hq => by
    have h1 := hs.2.1 h rfl
    cases hq with
    | head => exact h1
    | tail _ hq =>
      have := Sp.low hs.2.2 q hq
      have := hs.1
      omega
theorem Sp.low_ins {h : Int} (hs : Sp (some h) A) (hn : ins A n) : h + 2 ≤ n := by
  obtain ⟨q, hq, h1, h2⟩ := hn
  have := hs.low q hq
  omega
theorem Sp.drop : ∀ {A : List (Int × Int)} {l : Option Int} (i : Nat), Sp l A → Sp none (A.drop i)
  | _, _, 0, h => h.weak
  | [], _, _ + 1, _ => trivial
  | _ :: r, _, i + 1, h => Sp.drop (A := r) i h.2.2
theorem Sp.after (hs : Sp l A) (h : A[i]? = some q) : Sp (some q.2) (A.drop (i + 1)) := by
  have := hs.drop i
  rw [drop_at h] at this
  exact this.2.2
theorem Sp.after_low (hs : Sp l A) (h : A[i]? = some q) (hn : ins (A.drop (i + 1)) n) : q.2 + 2 ≤ n := (hs.after h).low_ins hn
theorem Sp.next (hs : Sp l A) (h : A[i]? = some q) (h2 : A[i + 1]? = some s) : q.2 + 2 ≤ s.1 := (hs.after h).low s (by
  rw [drop_at h2]
  exact List.mem_cons_self)
theorem Sp.get (hs : Sp l A) (h : A[i]? = some q) : q.1 ≤ q.2 := hs.wf q (List.mem_of_getElem? h)
theorem Sp.before : ∀ {A : List (Int × Int)} {l : Option Int} {i : Nat}, Sp l A → A[i]? = some q → ∀ s ∈ A.take i, s.2 + 2 ≤ q.1
  | [], _, _, _, h, _, _ => by simp at h
  | p :: r, _, 0, _, _, _, hs => by simp at hs
  | p :: r, _, i + 1, hp, h, s, hs => by
    have h' : r[i]? = some q := by simpa using h
    rw [List.take_succ_cons] at hs
    cases hs with
    | head => exact hp.2.2.low q (List.mem_of_getElem? h')
    | tail _ hs => exact Sp.before hp.2.2 h' s hs
theorem Sp.before_ins (hs : Sp l A) (h : A[i]? = some q) (hn : ins (A.take i) n) : n + 2 ≤ q.1 := by
  obtain ⟨s, h1, h2, h3⟩ := hn
  have := hs.before h s h1
  omega
theorem Sp.snoc {a b : Int} : ∀ {l : Option Int} {A : List (Int × Int)}, Sp l A → a ≤ b → (∀ h, lastHi l A = some h → h + 2 ≤ a) → Sp l (A ++ [(a, b)])
  | l, [], _, h1, h2 => ⟨h1, h2, trivial⟩
  | _, p :: r, h, h1, h2 => ⟨h.1, h.2.1, Sp.snoc h.2.2 h1 h2⟩
theorem lastHi_snoc {a b : Int} : ∀ {l : Option Int} {A : List (Int × Int)}, lastHi l (A ++ [(a, b)]) = some b
  | _, [] => rfl
  | _, _ :: r => lastHi_snoc (A := r)
theorem Sp.last {a b c : Int} : ∀ {l : Option Int} {A : List (Int × Int)}, Sp l (A ++ [(a, b)]) → b ≤ c → Sp l (A ++ [(a, c)])
  | l, [], h, k => ⟨by have := h.1; simp at this ⊢; omega, h.2.1, trivial⟩
  | _, p :: r, h, k => ⟨h.1, h.2.1, Sp.last (A := r) h.2.2 k⟩
theorem Sp.init {a b : Int} : ∀ {l : Option Int} {A : List (Int × Int)}, Sp l (A ++ [(a, b)]) → Sp l A
  | _, [], _ => trivial
  | _, p :: r, h => ⟨h.1, h.2.1, Sp.init (A := r) h.2.2⟩
theorem Sp.last_lo {a b : Int} : ∀ {l : Option Int} {A : List (Int × Int)}, Sp l (A ++ [(a, b)]) → ∀ h, lastHi l A = some h → h + 2 ≤ a
  | _, [], h, k, hk => h.2.1 k hk
  | _, p :: r, h, k, hk => Sp.last_lo (A := r) h.2.2 k hk
theorem canon : ∀ {A B : List (Int × Int)} {l k : Option Int}, Sp l A → Sp k B → (∀ n, ins A n ↔ ins B n) → A = B
  | [], [], _, _, _, _, _ => rfl
  | [], q :: r, _, _, _, hb, e => by
    have := (e q.1).mpr (ins_cons.mpr (.inl ⟨Int.le_refl _, hb.1⟩))
    exact absurd this ins_nil
  | q :: r, [], _, _, ha, _, e => by
    have := (e q.1).mp (ins_cons.mpr (.inl ⟨Int.le_refl _, ha.1⟩))
    exact absurd this ins_nil
  | (a, b) :: A, (c, d) :: B, _, _, ha, hb, e => by
    have hab : a ≤ b := ha.1
    have hcd : c ≤ d := hb.1
    have la : ∀ n, ins A n → b + 2 ≤ n := fun n => ha.2.2.low_ins
    have lb : ∀ n, ins B n → d + 2 ≤ n := fun n => hb.2.2.low_ins
    have e' : ∀ n, ((a ≤ n ∧ n ≤ b) ∨ ins A n) ↔ ((c ≤ n ∧ n ≤ d) ∨ ins B n) := fun n => by
      have := e n
      rw [ins_cons, ins_cons] at this
      exact this
    have h1 : a = c := by
      have x1 := (e' a).mp (.inl ⟨Int.le_refl _, hab⟩)
      have x2 := (e' c).mpr (.inl ⟨Int.le_refl _, hcd⟩)
      have y1 : c ≤ a := by
        rcases x1 with x | x
        · exact x.1
        · have := lb a x; omega
      have y2 : a ≤ c := by
        rcases x2 with x | x
        · exact x.1
        · have := la c x; omega
      omega
    subst h1
    have h2 : b = d := by
      by_cases hlt : b < d
      · have x := (e' (b + 1)).mpr (.inl ⟨by omega, by omega⟩)
        rcases x with x | x
        · omega
        · have := la _ x; omega
      · by_cases hgt : d < b
        · have x := (e' (d + 1)).mp (.inl ⟨by omega, by omega⟩)
          rcases x with x | x
          · omega
          · have := lb _ x; omega
        · omega
    subst h2
    rw [canon ha.2.2 hb.2.2 fun n => ?_]
    constructor
    · intro x
      have := la n x
      rcases (e' n).mp (.inr x) with y | y
      · omega
      · exact y
    · intro x
      have := lb n x
      rcases (e' n).mpr (.inr x) with y | y
      · omega
      · exact y
theorem Sp.erase : ∀ {A : List (Int × Int)} {l : Option Int} (i : Nat), Sp l A → Sp l (A.take i ++ A.drop (i + 1))
  | [], _, _, _ => by simp [Sp]
  | p :: r, l, 0, h => by
    rw [List.take_zero, List.nil_append, List.drop_succ_cons, List.drop_zero]
    cases r with
    | nil => trivial
    | cons q r => exact ⟨h.2.2.1, fun x hx => by have h1 := h.2.1 x hx; have h2 := h.2.2.2.1 p.2 rfl; have h3 := h.1; omega, h.2.2.2.2⟩
  | p :: r, l, i + 1, h => by
    rw [List.take_succ_cons, List.drop_succ_cons, List.cons_append]
    exact ⟨h.1, h.2.1, Sp.erase i h.2.2⟩
/-! joined -/
structure JInv (S : List (Int × Int)) (i : Nat) (fs : List (Int × Int)) : Prop where
  sp : Sp none fs
  len : fs.length ≤ i
  mem : ∀ n, ins fs n ↔ ins (S.take i) n
  low : ∀ f ∈ fs, ∀ j q, i ≤ j → S[j]? = some q → f.1 ≤ q.1
theorem JInv.nil {S : List (Int × Int)} : JInv S 0 [] := ⟨trivial, Nat.le_refl _, fun n => by simp [ins], fun f h => by cases h⟩
theorem lows {S : List (Int × Int)} (h : S.Pairwise leP) (hi : S[i]? = some q) {j : Nat} (hij : i ≤ j) (hj : S[j]? = some s) : q.1 ≤ s.1 := by
  obtain ⟨h1, rfl⟩ := List.getElem?_eq_some_iff.mp hi
  obtain ⟨h2, rfl⟩ := List.getElem?_eq_some_iff.mp hj
  by_cases e : i = j
  · subst e; exact Int.le_refl _
  · have := List.pairwise_iff_getElem.mp h i j h1 h2 (by omega)
    unfold leP at this
    omega
theorem JInv.app {S : List (Int × Int)} (h : JInv S i fs) (hs : S.Pairwise leP) (hi : S[i]? = some q) (hw : q.1 ≤ q.2) (hl : ∀ x, lastHi none fs = some x → x + 2 ≤ q.1) : JInv S (i + 1) (fs ++ [q]) := by
  refine ⟨h.sp.snoc hw hl, by simp; exact h.len, fun n => ?_, fun f hf j s hj hjs => ?_⟩
  · rw [ins_app, ins_take hi, h.mem, ins_one]
  · rcases List.mem_append.mp hf with hf | hf
    · exact h.low f hf j s (by omega) hjs
    · rw [List.mem_singleton.mp hf]
      exact lows hs hi (by omega) hjs
theorem JInv.mrg {S : List (Int × Int)} {a b : Int} (h : JInv S i (fs ++ [(a, b)])) (hi : S[i]? = some q) (hw : q.1 ≤ q.2) (hl : q.1 ≤ b + 1) : JInv S (i + 1) (fs ++ [(a, max b q.2)]) := by
  have hlo : a ≤ q.1 := h.low (a, b) (by simp) i q (Nat.le_refl _) hi
  have hab : a ≤ b := h.sp.wf (a, b) (by simp)
  refine ⟨h.sp.last (by omega), by have := h.len; simp at this ⊢; omega, fun n => ?_, fun f hf j s hj hjs => ?_⟩
  · have h1 := h.mem n
    rw [ins_app, ins_one] at h1
    rw [ins_app, ins_one, ins_take hi, ← h1]
    have : (a ≤ n ∧ n ≤ max b q.2) ↔ (a ≤ n ∧ n ≤ b) ∨ (q.1 ≤ n ∧ n ≤ q.2) := by omega
    show ins fs n ∨ (a ≤ n ∧ n ≤ max b q.2) ↔ (ins fs n ∨ (a ≤ n ∧ n ≤ b)) ∨ (q.1 ≤ n ∧ n ≤ q.2)
    rw [this, or_assoc]
  · rcases List.mem_append.mp hf with hf | hf
    · exact h.low f (List.mem_append.mpr (.inl hf)) j s (by omega) hjs
    · obtain rfl := List.mem_singleton.mp hf
      exact h.low (a, b) (by simp) j s (by omega) hjs
/-! both -/
structure BInv (A B : List (Int × Int)) (h t : Nat) (fs : List (Int × Int)) : Prop where
  sp : Sp none fs
  len : fs.length ≤ h + t
  last : ∀ x, lastHi none fs = some x → (∀ q, A[h]? = some q → x + 2 ≤ q.1) ∨ (∀ q, B[t]? = some q → x + 2 ≤ q.1)
  mem : ∀ n, (ins A n ∧ ins B n) ↔ ins fs n ∨ (ins (A.drop h) n ∧ ins (B.drop t) n)
theorem BInv.nil : BInv A B 0 0 [] := ⟨trivial, Nat.le_refl _, (fun _ z => by cases z), fun n => by simp [ins]⟩
theorem BInv.end {h t : Nat} (b : BInv A B h t fs) (e : ¬ (h < A.length) ∨ ¬ (t < B.length)) (n : Int) : ins fs n ↔ ins A n ∧ ins B n := by
  rw [b.mem]
  rcases e with e | e
  · rw [List.drop_eq_nil_of_le (as := A) (by omega)]
    simp [ins_nil]
  · rw [List.drop_eq_nil_of_le (as := B) (by omega)]
    simp [ins_nil]
theorem BInv.stepA {h t : Nat} (b : BInv A B h t fs) (sA : Sp none A) (sB : Sp none B) (hq : A[h]? = some q) (hs : B[t]? = some s) (lt : q.2 < s.2) :
    BInv A B (h + 1) t (if max q.1 s.1 ≤ min q.2 s.2 then fs ++ [(max q.1 s.1, min q.2 s.2)] else fs) := by
  have wq := sA.get hq
  have ws := sB.get hs
  have key : ∀ n, (ins (A.drop h) n ∧ ins (B.drop t) n) ↔ (max q.1 s.1 ≤ n ∧ n ≤ min q.2 s.2) ∨ (ins (A.drop (h + 1)) n ∧ ins (B.drop t) n) := fun n => by
    rw [drop_at hq, drop_at hs, ins_cons, ins_cons]
    have l1 := fun x => sA.after_low hq (n := n) x
    have l2 := fun x => sB.after_low hs (n := n) x
    constructor
    · rintro ⟨x | x, y | y⟩
      · left; omega
      · have := l2 y; omega
      · exact .inr ⟨x, .inl y⟩
      · exact .inr ⟨x, .inr y⟩
    · rintro (x | ⟨x, y⟩)
      · exact ⟨.inl (by omega), .inl (by omega)⟩
      · exact ⟨.inr x, y⟩
  by_cases c : max q.1 s.1 ≤ min q.2 s.2
  · rw [if_pos c]
    refine ⟨b.sp.snoc c fun x hx => ?_, by have := b.len; simp; omega, fun x hx => ?_, fun n => ?_⟩
    · rcases b.last x hx with k | k
      · have := k q hq; omega
      · have := k s hs; omega
    · rw [lastHi_snoc] at hx
      cases hx
      left
      intro q' hq'
      have := sA.next hq hq'
      omega
    · rw [b.mem, key, ins_app, ins_one, or_assoc]
  · rw [if_neg c]
    refine ⟨b.sp, by have := b.len; omega, fun x hx => ?_, fun n => ?_⟩
    · rcases b.last x hx with k | k
      · left
        intro q' hq'
        have := k q hq
        have := sA.next hq hq'
        omega
      · exact .inr k
    · rw [b.mem, key]
      have : ¬ (max q.1 s.1 ≤ n ∧ n ≤ min q.2 s.2) := by omega
      simp [this]
theorem BInv.stepB {h t : Nat} (b : BInv A B h t fs) (sA : Sp none A) (sB : Sp none B) (hq : A[h]? = some q) (hs : B[t]? = some s) (lt : ¬ q.2 < s.2) :
    BInv A B h (t + 1) (if max q.1 s.1 ≤ min q.2 s.2 then fs ++ [(max q.1 s.1, min q.2 s.2)] else fs) := by
  have wq := sA.get hq
  have ws := sB.get hs
  have key : ∀ n, (ins (A.drop h) n ∧ ins (B.drop t) n) ↔ (max q.1 s.1 ≤ n ∧ n ≤ min q.2 s.2) ∨ (ins (A.drop h) n ∧ ins (B.drop (t + 1)) n) := fun n => by
    rw [drop_at hq, drop_at hs, ins_cons, ins_cons]
    have l1 := fun x => sA.after_low hq (n := n) x
    have l2 := fun x => sB.after_low hs (n := n) x
    constructor
    · rintro ⟨x | x, y | y⟩
      · left; omega
      · exact .inr ⟨.inl x, y⟩
      · have := l1 x; omega
      · exact .inr ⟨.inr x, y⟩
    · rintro (x | ⟨x, y⟩)
      · exact ⟨.inl (by omega), .inl (by omega)⟩
      · exact ⟨x, .inr y⟩
  by_cases c : max q.1 s.1 ≤ min q.2 s.2
  · rw [if_pos c]
    refine ⟨b.sp.snoc c fun x hx => ?_, by have := b.len; simp; omega, fun x hx => ?_, fun n => ?_⟩
    · rcases b.last x hx with k | k
      · have := k q hq; omega
      · have := k s hs; omega
    · rw [lastHi_snoc] at hx
      cases hx
      right
      intro q' hq'
      have := sB.next hs hq'
      omega
    · rw [b.mem, key, ins_app, ins_one, or_assoc]
  · rw [if_neg c]
    refine ⟨b.sp, by have := b.len; omega, fun x hx => ?_, fun n => ?_⟩
    · rcases b.last x hx with k | k
      · exact .inl k
      · right
        intro q' hq'
        have := k s hs
        have := sB.next hs hq'
        omega
    · rw [b.mem, key]
      have : ¬ (max q.1 s.1 ≤ n ∧ n ≤ min q.2 s.2) := by omega
      simp [this]
/-! less -/
structure LInv (A B : List (Int × Int)) (i t : Nat) (fs : List (Int × Int)) : Prop where
  sp : Sp none fs
  len : fs.length ≤ i * (B.length + 1)
  last : ∀ x, lastHi none fs = some x → ∀ q, A[i]? = some q → x + 2 ≤ q.1
  mem : ∀ n, ins fs n ↔ ins (A.take i) n ∧ ¬ ins B n
  tl : t ≤ B.length
  skp : ∀ q, A[i]? = some q → ∀ s ∈ B.take t, s.2 < q.1
theorem LInv.nil : LInv A B 0 0 [] := ⟨trivial, (by simp), (fun _ z => by cases z), (fun n => by simp [ins]), Nat.zero_le _, fun _ _ s h => by simp at h⟩
theorem LInv.skip {t : Nat} (h : LInv A B i t fs) (hq : A[i]? = some q) (hs : B[t]? = some s) (lt : s.2 < q.1) : LInv A B i (t + 1) fs := by
  refine ⟨h.sp, h.len, h.last, h.mem, (List.getElem?_eq_some_iff.mp hs).1, fun q' hq' s' hs' => ?_⟩
  rw [hq] at hq'
  cases hq'
  rw [List.take_add_one, hs] at hs'
  rcases List.mem_append.mp hs' with x | x
  · exact h.skp q hq s' x
  · have : s' = s := by simpa using x
    rw [this]; exact lt
structure LIn2 (A B : List (Int × Int)) (i : Nat) (q : Int × Int) (lo : Int) (t : Nat) (fs : List (Int × Int)) : Prop where
  sp : Sp none fs
  len : fs.length ≤ i * (B.length + 1) + t
  last : ∀ x, lastHi none fs = some x → x + 2 ≤ lo ∧ x ≤ q.2
  mem : ∀ n, ins fs n ↔ (ins (A.take i) n ∧ ¬ ins B n) ∨ (q.1 ≤ n ∧ n < lo ∧ n ≤ q.2 ∧ ¬ ins B n)
  qlo : q.1 ≤ lo
  tl : t ≤ B.length
  bef : ∀ s ∈ B.take t, s.2 < lo
  aft : ∀ s, B[t]? = some s → lo ≤ s.2
theorem LIn2.start {t : Nat} (h : LInv A B i t fs) (sA : Sp none A) (hq : A[i]? = some q) (e : ∀ s, B[t]? = some s → ¬ s.2 < q.1) : LIn2 A B i q q.1 t fs := by
  have wq := sA.get hq
  refine ⟨h.sp, by have := h.len; omega, fun x hx => ?_, fun n => ?_, Int.le_refl _, h.tl, h.skp q hq, fun s hs => ?_⟩
  · have := h.last x hx q hq
    omega
  · rw [h.mem]
    have : ¬ (q.1 ≤ n ∧ n < q.1 ∧ n ≤ q.2 ∧ ¬ ins B n) := by omega
    simp [this]
  · have := e s hs
    omega
theorem not_ins {n : Int} {B : List (Int × Int)} {t : Nat} {s : Int × Int} {lo : Int} (sB : Sp none B) (bef : ∀ s ∈ B.take t, s.2 < lo) (hs : B[t]? = some s) (h1 : lo ≤ n) (h2 : n < s.1) : ¬ ins B n := by
  rw [ins_split hs]
  rintro (⟨x, hx, h3, h4⟩ | x | x)
  · have := bef x hx; omega
  · omega
  · have := sB.after_low hs x
    have := sB.get hs
    omega
theorem LIn2.step {t : Nat} {lo : Int} (h : LIn2 A B i q lo t fs) (sB : Sp none B) (hs : B[t]? = some s) (le : s.1 ≤ q.2) :
    LIn2 A B i q (s.2 + 1) (t + 1) (if lo < s.1 then fs ++ [(lo, s.1 - 1)] else fs) := by
  have ws := sB.get hs
  have hlo := h.aft s hs
  have hin : ins B s.1 := (ins_split hs).mpr (.inr (.inl ⟨Int.le_refl _, ws⟩))
  have hin2 : ∀ n, s.1 ≤ n → n ≤ s.2 → ins B n := fun n h1 h2 => (ins_split hs).mpr (.inr (.inl ⟨h1, h2⟩))
  have hno : ∀ n, lo ≤ n → n < s.1 → ¬ ins B n := fun n h1 h2 => not_ins sB h.bef hs h1 h2
  have hbef : ∀ s' ∈ B.take (t + 1), s'.2 < s.2 + 1 := fun s' hs' => by
    rw [List.take_add_one, hs] at hs'
    rcases List.mem_append.mp hs' with x | x
    · have := h.bef s' x; omega
    · have : s' = s := by simpa using x
      rw [this]; omega
  have haft : ∀ s', B[t + 1]? = some s' → s.2 + 1 ≤ s'.2 := fun s' hs' => by
    have := sB.next hs hs'
    have := sB.get hs'
    omega
  have htl : t + 1 ≤ B.length := (List.getElem?_eq_some_iff.mp hs).1
  have hq := h.qlo
  by_cases c : lo < s.1
  · rw [if_pos c]
    refine ⟨h.sp.snoc (by omega) fun x hx => (h.last x hx).1, by have := h.len; simp; omega, fun x hx => ?_, fun n => ?_, by omega, htl, hbef, haft⟩
    · rw [lastHi_snoc] at hx
      cases hx
      omega
    · rw [ins_app, h.mem, ins_one, or_assoc]
      refine or_congr Iff.rfl ?_
      constructor
      · rintro (⟨h1, h2, h3, h4⟩ | ⟨h1, h2⟩)
        · exact ⟨h1, by omega, h3, h4⟩
        · simp at h1 h2
          exact ⟨by omega, by omega, by omega, hno n h1 (by omega)⟩
      · rintro ⟨h1, h2, h3, h4⟩
        by_cases hn : n < lo
        · exact .inl ⟨h1, hn, h3, h4⟩
        · by_cases hn2 : n < s.1
          · exact .inr ⟨by simp; omega, by simp; omega⟩
          · exact absurd (hin2 n (by omega) (by omega)) h4
  · rw [if_neg c]
    refine ⟨h.sp, by have := h.len; omega, fun x hx => ?_, fun n => ?_, by omega, htl, hbef, haft⟩
    · have := h.last x hx
      omega
    · rw [h.mem]
      refine or_congr Iff.rfl ?_
      constructor
      · rintro ⟨h1, h2, h3, h4⟩
        exact ⟨h1, by omega, h3, h4⟩
      · rintro ⟨h1, h2, h3, h4⟩
        by_cases hn : n < lo
        · exact ⟨h1, hn, h3, h4⟩
        · exact absurd (hin2 n (by omega) (by omega)) h4
theorem LIn2.end {t t0 : Nat} {lo : Int} (h : LIn2 A B i q lo t fs) (sA : Sp none A) (sB : Sp none B) (hq : A[i]? = some q) (e : ∀ s, B[t]? = some s → ¬ s.1 ≤ q.2) (h0 : t0 ≤ B.length) (hsk : ∀ s ∈ B.take t0, s.2 < q.1) :
    LInv A B (i + 1) t0 (if lo ≤ q.2 then fs ++ [(lo, q.2)] else fs) := by
  have wq := sA.get hq
  have hno : ∀ n, lo ≤ n → n ≤ q.2 → ¬ ins B n := fun n h1 h2 => by
    by_cases ht : t < B.length
    · have hs : B[t]? = some B[t] := List.getElem?_eq_getElem ht
      exact not_ins sB h.bef hs h1 (by have := e _ hs; omega)
    · rintro ⟨x, hx, h3, h4⟩
      have := h.bef x (by rw [List.take_of_length_le (by omega)]; exact hx)
      omega
  have hlen : i * (B.length + 1) + t + 1 ≤ (i + 1) * (B.length + 1) := by
    have := h.tl
    rw [Nat.add_mul, Nat.one_mul]
    omega
  have hsk2 : ∀ q', A[i + 1]? = some q' → ∀ s ∈ B.take t0, s.2 < q'.1 := fun q' hq' s hs => by
    have := sA.next hq hq'
    have := hsk s hs
    omega
  by_cases c : lo ≤ q.2
  · rw [if_pos c]
    refine ⟨h.sp.snoc c fun x hx => (h.last x hx).1, by have := h.len; simp; omega, fun x hx q' hq' => ?_, fun n => ?_, h0, hsk2⟩
    · rw [lastHi_snoc] at hx
      cases hx
      exact sA.next hq hq'
    · rw [ins_app, h.mem, ins_one, ins_take hq, or_and_right, or_assoc]
      refine or_congr Iff.rfl ?_
      constructor
      · rintro (⟨h1, h2, h3, h4⟩ | ⟨h1, h2⟩)
        · exact ⟨⟨h1, h3⟩, h4⟩
        · have := h.qlo
          simp at h1 h2
          exact ⟨⟨by omega, h2⟩, hno n h1 h2⟩
      · rintro ⟨⟨h1, h2⟩, h4⟩
        by_cases hn : n < lo
        · exact .inl ⟨h1, hn, h2, h4⟩
        · exact .inr ⟨by simp; omega, h2⟩
  · rw [if_neg c]
    refine ⟨h.sp, by have := h.len; omega, fun x hx q' hq' => ?_, fun n => ?_, h0, hsk2⟩
    · have := (h.last x hx).2
      have := sA.next hq hq'
      omega
    · rw [h.mem, ins_take hq, or_and_right]
      refine or_congr Iff.rfl ?_
      constructor
      · rintro ⟨h1, h2, h3, h4⟩
        exact ⟨⟨h1, h3⟩, h4⟩
      · rintro ⟨⟨h1, h2⟩, h4⟩
        exact ⟨h1, by omega, h2, h4⟩
end
end G

set_option linter.all false
set_option maxRecDepth 100000
namespace G
open PySem L2 TL
/-! the moments of readings between two -/
def stR (R : List (Int × Int)) (lo hi : Int) (i : Nat) : Int × Int := (max (pcAt R i).1 (lo - (pcAt R i).2.2), min (pcAt R i).2.1 (hi - (pcAt R i).2.2))
def strsR (R : List (Int × Int)) (lo hi : Int) (n : Nat) : List (Int × Int) := (List.range n).map (stR R lo hi)
def ne2 (p : Int × Int) : Bool := decide (p.1 ≤ p.2)
theorem strs_succ (R : List (Int × Int)) (lo hi : Int) (n : Nat) : strsR R lo hi (n + 1) = strsR R lo hi n ++ [stR R lo hi n] := by
  unfold strsR
  rw [List.range_succ, List.map_append]
  rfl
theorem pc_low {R : List (Int × Int)} {i : Nat} {p : Int × Int} (h : R[i]? = some p) : pcAt R i = (p.1, lastOf R i, p.2) := by
  unfold pcAt
  rw [List.getD_eq_getElem?_getD, h]
  rfl
structure DInv (R : List (Int × Int)) (lo hi : Int) (i : Nat) (fs : List (Int × Int)) : Prop where
  sp : Sp none fs
  m : ∀ n, ins fs n ↔ ins ((strsR R lo hi i).filter ne2) n
  b : ∀ x, lastHi none fs = some x → ∀ p, R[i]? = some p → x < p.1
  l : fs.length ≤ i
theorem DInv.nil {R : List (Int × Int)} {lo hi : Int} : DInv R lo hi 0 [] := ⟨trivial, fun n => Iff.rfl, (fun x h => by cases h), Nat.le_refl _⟩
theorem rising_next : ∀ {R : List (Int × Int)} {a : Option Int} {i : Nat} {p q : Int × Int}, Rising a R → R[i]? = some p → R[i + 1]? = some q → p.1 < q.1
  | [], _, _, _, _, _, h, _ => by simp at h
  | x :: r, a, 0, p, q, h, h1, h2 => by
    have : x = p := by simpa using h1
    subst this
    cases r with
    | nil => simp at h2
    | cons y r =>
      have : y = q := by simpa using h2
      subst this
      have h3 : stepBad (some x.1) y.1 = false := h.2.2.2.1
      have := of_decide_eq_false h3
      omega
  | x :: r, a, i + 1, p, q, h, h1, h2 => rising_next h.2.2 (by simpa using h1) (by simpa using h2)
theorem last_next {R : List (Int × Int)} {i : Nat} {q : Int × Int} (h : R[i + 1]? = some q) : lastOf R i = q.1 - 1 := by unfold lastOf; rw [h]
theorem DInv.skip {R : List (Int × Int)} {lo hi : Int} {i : Nat} {fs : List (Int × Int)} {p : Int × Int} (d : DInv R lo hi i fs) (hR : Rising none R) (hp : R[i]? = some p) (h : ¬ (stR R lo hi i).1 ≤ (stR R lo hi i).2) : DInv R lo hi (i + 1) fs := by
  refine ⟨d.sp, fun n => ?_, fun x hx q hq => ?_, by have := d.l; omega⟩
  · rw [strs_succ, List.filter_append, List.filter_cons_of_neg (by unfold ne2; simpa using h), List.filter_nil, List.append_nil]
    exact d.m n
  · have := d.b x hx p hp
    have := rising_next hR hp hq
    omega
theorem stR_bd {R : List (Int × Int)} {lo hi : Int} {i : Nat} {p : Int × Int} (hp : R[i]? = some p) : p.1 ≤ (stR R lo hi i).1 ∧ (stR R lo hi i).2 ≤ lastOf R i := by
  unfold stR
  rw [pc_low hp]
  dsimp only
  omega
theorem DInv.add {R : List (Int × Int)} {lo hi : Int} {i : Nat} {fs : List (Int × Int)} {p : Int × Int} (d : DInv R lo hi i fs) (hp : R[i]? = some p) (h : (stR R lo hi i).1 ≤ (stR R lo hi i).2) (hl : ∀ x, lastHi none fs = some x → x ≠ (stR R lo hi i).1 - 1) : DInv R lo hi (i + 1) (fs ++ [stR R lo hi i]) := by
  obtain ⟨b1, b2⟩ := stR_bd (lo := lo) (hi := hi) hp
  refine ⟨Sp.snoc d.sp h fun x hx => ?_, fun n => ?_, fun x hx q hq => ?_, by have := d.l; simp; omega⟩
  · have := d.b x hx p hp
    have := hl x hx
    show x + 2 ≤ (stR R lo hi i).1
    omega
  · rw [strs_succ, List.filter_append, List.filter_cons_of_pos (by unfold ne2; simpa using h), List.filter_nil, ins_app, ins_app, d.m n]
  · have hx2 : lastHi none (fs ++ [stR R lo hi i]) = some (stR R lo hi i).2 := lastHi_snoc
    rw [hx2] at hx
    cases hx
    have := last_next hq
    omega
theorem DInv.mrg {R : List (Int × Int)} {lo hi a b : Int} {i : Nat} {fs : List (Int × Int)} {p : Int × Int} (d : DInv R lo hi i (fs ++ [(a, b)])) (hp : R[i]? = some p) (h : (stR R lo hi i).1 ≤ (stR R lo hi i).2) (hl : b = (stR R lo hi i).1 - 1) : DInv R lo hi (i + 1) (fs ++ [(a, (stR R lo hi i).2)]) := by
  obtain ⟨b1, b2⟩ := stR_bd (lo := lo) (hi := hi) hp
  have hab : a ≤ b := d.sp.wf (a, b) (by simp)
  refine ⟨Sp.last d.sp (by omega), fun n => ?_, fun x hx q hq => ?_, by have := d.l; simp at this ⊢; omega⟩
  · rw [strs_succ, List.filter_append, List.filter_cons_of_pos (by unfold ne2; simpa using h), List.filter_nil, ins_app, ins_app, ← d.m n, ins_app, ins_one, ins_one, ins_one]
    dsimp only
    constructor
    · rintro (z | z)
      · exact .inl (.inl z)
      · by_cases c : n ≤ b
        · exact .inl (.inr ⟨z.1, c⟩)
        · exact .inr ⟨by omega, z.2⟩
    · rintro ((z | z) | z)
      · exact .inl z
      · exact .inr ⟨z.1, by omega⟩
      · exact .inr ⟨by omega, z.2⟩
  · rw [lastHi_snoc] at hx
    cases hx
    have := last_next hq
    omega
end G

set_option linter.all false
set_option maxRecDepth 100000
namespace G
open PySem L2 TL
/-! tables made shortest -/
def short (l : Option Int) : List (Int × Int) → List (Int × Int)
  | [] => []
  | p :: r => if l = some p.2 then short l r else p :: short (some p.2) r
theorem short_sub : ∀ (R : List (Int × Int)) (l : Option Int), ∀ p ∈ short l R, p ∈ R
  | [], _, p, h => by cases h
  | q :: r, l, p, h => by
    have e : short l (q :: r) = if l = some q.2 then short l r else q :: short (some q.2) r := rfl
    rw [e] at h
    split at h
    · exact List.mem_cons_of_mem _ (short_sub r l p h)
    · rcases List.mem_cons.mp h with rfl | h
      · exact List.mem_cons_self
      · exact List.mem_cons_of_mem _ (short_sub r _ p h)
theorem rising_less : ∀ {R : List (Int × Int)} {x y : Int}, Rising (some y) R → x ≤ y → Rising (some x) R
  | [], _, _, _, _ => trivial
  | p :: r, x, y, h, k => by
    have h1 : stepBad (some y) p.1 = false := h.2.1
    have h1 := of_decide_eq_false h1
    exact ⟨h.1, decide_eq_false (by omega), h.2.2⟩
theorem rising_short : ∀ {R : List (Int × Int)} {x : Int} {l : Option Int}, Rising (some x) R → Rising (some x) (short l R)
  | [], _, _, _ => trivial
  | p :: r, x, l, h => by
    have h1 : stepBad (some x) p.1 = false := h.2.1
    have h2 := of_decide_eq_false h1
    have e : short l (p :: r) = if l = some p.2 then short l r else p :: short (some p.2) r := rfl
    rw [e]
    split
    · exact rising_less (rising_short (l := l) h.2.2) (by omega)
    · exact ⟨h.1, h1, rising_short h.2.2⟩
theorem short_len : ∀ (R : List (Int × Int)) (l : Option Int), (short l R).length ≤ R.length
  | [], _ => Nat.le_refl _
  | p :: r, l => by
    have e : short l (p :: r) = if l = some p.2 then short l r else p :: short (some p.2) r := rfl
    rw [e]
    split
    · exact Nat.le_succ_of_le (short_len r l)
    · rw [List.length_cons, List.length_cons]
      exact Nat.succ_le_succ (short_len r _)
theorem short_ok {R : List (Int × Int)} (h : TabOk R) : TabOk (short none R) := by
  cases R with
  | nil => exact absurd rfl h.n
  | cons p r =>
    have e : short none (p :: r) = p :: short (some p.2) r := rfl
    rw [e]
    have hl := h.l
    have h2 := short_len r (some p.2)
    exact ⟨by simp, by rw [List.length_cons] at hl ⊢; omega, ⟨h.r.1, h.r.2.1, rising_short h.r.2.2⟩⟩
theorem short_fold (m : Int) : ∀ (R : List (Int × Int)) (x a : Int), Rising (some x) R → (short (some a) R).foldl (fun acc p => if p.1 ≤ m then p.2 else acc) a = R.foldl (fun acc p => if p.1 ≤ m then p.2 else acc) a
  | [], _, _, _ => rfl
  | p :: r, x, a, h => by
    have e : short (some a) (p :: r) = if some a = some p.2 then short (some a) r else p :: short (some p.2) r := rfl
    rw [e]
    by_cases ha : a = p.2
    · subst ha
      rw [if_pos rfl, short_fold m r p.1 p.2 h.2.2, List.foldl_cons]
      split <;> rfl
    · rw [if_neg (fun z => ha (Option.some.inj z)), List.foldl_cons, List.foldl_cons]
      by_cases hm : p.1 ≤ m
      · rw [if_pos hm]
        exact short_fold m r p.1 p.2 h.2.2
      · rw [if_neg hm]
        have ab : ∀ q ∈ r, m < q.1 := fun q hq => by have := rising_all h.2.2 q hq; omega
        rw [fold_above r m a ab, fold_above _ m a fun q hq => ab q (short_sub r _ q hq)]
theorem fold_first {p : Int × Int} {r : List (Int × Int)} {m a b : Int} (h : p.1 ≤ m) : (p :: r).foldl (fun acc p => if p.1 ≤ m then p.2 else acc) a = (p :: r).foldl (fun acc p => if p.1 ≤ m then p.2 else acc) b := by
  rw [List.foldl_cons, List.foldl_cons, if_pos h, if_pos h]
theorem first_nought {p : Int × Int} {r : List (Int × Int)} (h : TabOk (p :: r)) : p.1 = 0 := by
  have hp : stepBad none p.1 = false := h.r.2.1
  have hp : ¬ (p.1 ≠ 0) := of_decide_eq_false hp
  omega
theorem short_last {R : List (Int × Int)} {m : Int} (h : TabOk R) (h0 : 0 ≤ m) : lastLe (short none R) m = lastLe R m := by
  cases R with
  | nil => exact absurd rfl h.n
  | cons p r =>
    have hp := first_nought h
    show (p :: short (some p.2) r).foldl _ 0 = (p :: r).foldl _ 0
    rw [List.foldl_cons, List.foldl_cons, if_pos (by omega)]
    exact short_fold m r p.1 p.2 h.r.2.2
theorem short_two : ∀ (R : List (Int × Int)) (l : Option Int), short l (short l R) = short l R
  | [], _ => rfl
  | p :: r, l => by
    have e : short l (p :: r) = if l = some p.2 then short l r else p :: short (some p.2) r := rfl
    rw [e]
    split
    · exact short_two r l
    · rename_i hl
      show (if l = some p.2 then short l (short (some p.2) r) else p :: short (some p.2) (short (some p.2) r)) = _
      rw [if_neg hl, short_two r]
/-- one more row behind -/
theorem short_snoc : ∀ (R : List (Int × Int)) (l : Option Int) (p : Int × Int), short l (R ++ [p]) = if ((short l R).getLast?.map (·.2) <|> l) = some p.2 then short l R else short l R ++ [p]
  | [], l, p => by
    show (if l = some p.2 then [] else [p]) = _
    simp [short]
  | q :: r, l, p => by
    have e : ∀ R', short l (q :: R') = if l = some q.2 then short l R' else q :: short (some q.2) R' := fun _ => rfl
    rw [List.cons_append, e, e]
    by_cases h : l = some q.2
    · rw [if_pos h, if_pos h]
      exact short_snoc r l p
    · rw [if_neg h, if_neg h, short_snoc r (some q.2) p]
      have e2 : ((q :: short (some q.2) r).getLast?.map (·.2) <|> l) = ((short (some q.2) r).getLast?.map (·.2) <|> some q.2) := by
        cases hs : short (some q.2) r with
        | nil => rfl
        | cons x y => rw [List.getLast?_cons_cons]; cases hg : (x :: y).getLast? with
          | none => simp at hg
          | some z => rfl
      rw [e2]
      split <;> rfl
end G

set_option linter.all false
set_option maxRecDepth 100000
namespace G
open PySem L2 TL
/-! the first moment at which two tables are unlike -/
def unlike : List (Int × Int) → List (Int × Int) → Option Int
  | [], [] => none
  | p :: _, [] => some p.1
  | [], q :: _ => some q.1
  | p :: r, q :: s => if p.1 ≠ q.1 then some (min p.1 q.1) else if p.2 ≠ q.2 then some p.1 else unlike r s
def foldLe (R : List (Int × Int)) (m a : Int) : Int := R.foldl (fun acc p => if p.1 ≤ m then p.2 else acc) a
def Alt : Int → List (Int × Int) → Prop
  | _, [] => True
  | a, p :: r => p.2 ≠ a ∧ Alt p.2 r
theorem alt_short : ∀ (R : List (Int × Int)) (a : Int), Alt a (short (some a) R)
  | [], _ => trivial
  | p :: r, a => by
    have e : short (some a) (p :: r) = if some a = some p.2 then short (some a) r else p :: short (some p.2) r := rfl
    rw [e]
    split
    · exact alt_short r a
    · rename_i h
      exact ⟨fun z => h (by rw [z]), alt_short r p.2⟩
theorem fold_cons {p : Int × Int} {r : List (Int × Int)} {m a : Int} : foldLe (p :: r) m a = foldLe r m (if p.1 ≤ m then p.2 else a) := rfl
theorem rising_step {p : Int × Int} {r : List (Int × Int)} {x : Int} (h : Rising (some x) (p :: r)) : x < p.1 := by
  have h1 : stepBad (some x) p.1 = false := h.2.1
  have h1 := of_decide_eq_false h1
  omega
theorem fold_up {p : Int × Int} {r : List (Int × Int)} {x m a : Int} (h : Rising (some x) (p :: r)) (hm : m < p.1) : foldLe (p :: r) m a = a :=
  fold_above _ m a fun q hq => by
    rcases List.mem_cons.mp hq with rfl | hq
    · exact hm
    · have := rising_all h.2.2 q hq
      omega
theorem fold_on {p : Int × Int} {r : List (Int × Int)} {x a : Int} (h : Rising (some x) (p :: r)) : foldLe (p :: r) p.1 a = p.2 := by
  rw [fold_cons, if_pos (Int.le_refl _)]
  exact fold_above _ _ _ fun q hq => rising_all h.2.2 q hq
structure Unl (K L : List (Int × Int)) (a m : Int) : Prop where
  i : m ∈ K.map (·.1) ∨ m ∈ L.map (·.1)
  d : foldLe K m a ≠ foldLe L m a
  l : ∀ z, z < m → foldLe K z a = foldLe L z a
theorem unlike_some : ∀ {K L : List (Int × Int)} {x a m : Int}, Rising (some x) K → Rising (some x) L → Alt a K → Alt a L → unlike K L = some m → x < m ∧ Unl K L a m
  | [], [], _, _, _, _, _, _, _, h => by cases h
  | p :: r, [], x, a, m, hK, _, aK, _, h => by
    cases h
    exact ⟨rising_step hK, .inl (by simp), by rw [fold_on hK]; exact aK.1, fun z hz => by rw [fold_up hK hz]; rfl⟩
  | [], q :: s, x, a, m, _, hL, _, aL, h => by
    cases h
    exact ⟨rising_step hL, .inr (by simp), by rw [fold_on hL]; exact fun z => aL.1 z.symm, fun z hz => by rw [fold_up hL hz]; rfl⟩
  | p :: r, q :: s, x, a, m, hK, hL, aK, aL, h => by
    have e : unlike (p :: r) (q :: s) = if p.1 ≠ q.1 then some (min p.1 q.1) else if p.2 ≠ q.2 then some p.1 else unlike r s := rfl
    rw [e] at h
    have h1 := rising_step hK
    have h2 := rising_step hL
    by_cases c1 : p.1 = q.1
    · rw [if_neg (fun z => z c1)] at h
      by_cases c2 : p.2 = q.2
      · rw [if_neg (fun z => z c2)] at h
        obtain ⟨hm, u⟩ := unlike_some (x := p.1) (a := p.2) hK.2.2 (by rw [c1]; exact hL.2.2) aK.2 (by rw [c2]; exact aL.2) h
        refine ⟨by omega, ?_, ?_, fun z hz => ?_⟩
        · rcases u.i with i | i
          · exact .inl (List.mem_cons_of_mem _ i)
          · exact .inr (List.mem_cons_of_mem _ i)
        · rw [fold_cons, fold_cons, if_pos (by omega), if_pos (by omega), ← c2]
          exact u.d
        · by_cases c3 : p.1 ≤ z
          · rw [fold_cons, fold_cons, if_pos c3, if_pos (by omega), ← c2]
            exact u.l z hz
          · rw [fold_up hK (by omega), fold_up hL (by omega)]
      · rw [if_pos c2] at h
        cases h
        refine ⟨h1, .inl (by simp), ?_, fun z hz => by rw [fold_up hK hz, fold_up hL (by omega)]⟩
        rw [fold_on hK, c1, fold_on hL]
        exact c2
    · rw [if_pos c1] at h
      cases h
      by_cases c2 : p.1 < q.1
      · rw [show min p.1 q.1 = p.1 by omega]
        exact ⟨h1, .inl (by simp), by rw [fold_on hK, fold_up hL c2]; exact aK.1, fun z hz => by rw [fold_up hK hz, fold_up hL (by omega)]⟩
      · rw [show min p.1 q.1 = q.1 by omega]
        exact ⟨h2, .inr (by simp), by rw [fold_on hL, fold_up hK (by omega)]; exact fun z => aL.1 z.symm, fun z hz => by rw [fold_up hL hz, fold_up hK (by omega)]⟩
theorem unlike_none : ∀ {K L : List (Int × Int)}, unlike K L = none → K = L
  | [], [], _ => rfl
  | p :: r, [], h => by cases h
  | [], q :: s, h => by cases h
  | p :: r, q :: s, h => by
    have e : unlike (p :: r) (q :: s) = if p.1 ≠ q.1 then some (min p.1 q.1) else if p.2 ≠ q.2 then some p.1 else unlike r s := rfl
    rw [e] at h
    by_cases c1 : p.1 = q.1
    · rw [if_neg (fun z => z c1)] at h
      by_cases c2 : p.2 = q.2
      · rw [if_neg (fun z => z c2)] at h
        rw [unlike_none h, show p = q from Prod.ext c1 c2]
      · rw [if_pos c2] at h
        cases h
    · rw [if_pos c1] at h
      cases h
theorem unlike_refl : ∀ (K : List (Int × Int)), unlike K K = none
  | [] => rfl
  | p :: r => by
    have e : unlike (p :: r) (p :: r) = if p.1 ≠ p.1 then some (min p.1 p.1) else if p.2 ≠ p.2 then some p.1 else unlike r r := rfl
    rw [e, if_neg (fun z => z rfl), if_neg (fun z => z rfl)]
    exact unlike_refl r
theorem unlike_comm : ∀ (K L : List (Int × Int)), unlike K L = unlike L K
  | [], [] => rfl
  | p :: r, [] => rfl
  | [], q :: s => rfl
  | p :: r, q :: s => by
    have e : ∀ p q : Int × Int, ∀ r s, unlike (p :: r) (q :: s) = if p.1 ≠ q.1 then some (min p.1 q.1) else if p.2 ≠ q.2 then some p.1 else unlike r s := fun _ _ _ _ => rfl
    by_cases c1 : p.1 = q.1
    · have a1 : unlike (p :: r) (q :: s) = if p.2 ≠ q.2 then some p.1 else unlike r s := by rw [e, if_neg (fun z => z c1)]
      have a2 : unlike (q :: s) (p :: r) = if q.2 ≠ p.2 then some q.1 else unlike s r := by rw [e, if_neg (fun z => z c1.symm)]
      rw [a1, a2, unlike_comm r s, c1]
      by_cases c2 : p.2 = q.2
      · rw [if_neg (fun z => z c2), if_neg (fun z => z c2.symm)]
      · rw [if_pos c2, if_pos (fun z => c2 z.symm)]
    · rw [e, e, if_pos c1, if_pos (fun z => c1 z.symm), show min p.1 q.1 = min q.1 p.1 by omega]
/-- what is due: the first moment among the starts at which the numbers differ -/
structure Due (R S : List (Int × Int)) (d : Option Int) : Prop where
  s : ∀ m, d = some m → 0 ≤ m ∧ (m ∈ R.map (·.1) ∨ m ∈ S.map (·.1)) ∧ lastLe R m ≠ lastLe S m ∧ ∀ z, z < m → (z ∈ R.map (·.1) ∨ z ∈ S.map (·.1)) → lastLe R z = lastLe S z
  n : d = none → ∀ z, (z ∈ R.map (·.1) ∨ z ∈ S.map (·.1)) → lastLe R z = lastLe S z
theorem short_cons {R : List (Int × Int)} (h : TabOk R) : short none R = short (some 10000) R := by
  cases R with
  | nil => rfl
  | cons p r =>
    have e : ∀ l, short l (p :: r) = if l = some p.2 then short l r else p :: short (some p.2) r := fun _ => rfl
    have hb := h.r.1
    rw [e, e, if_neg (by simp), if_neg (fun z => by have := Option.some.inj z; omega)]
theorem rising_first {R : List (Int × Int)} (h : TabOk R) : Rising (some (-1)) R := by
  cases R with
  | nil => trivial
  | cons p r => exact ⟨h.r.1, decide_eq_false (by have := h.r.1; omega), h.r.2.2⟩
theorem fold_last {R : List (Int × Int)} {m : Int} (h : TabOk R) (h0 : 0 ≤ m) : foldLe R m 10000 = lastLe R m := by
  cases R with
  | nil => exact absurd rfl h.n
  | cons p r => exact fold_first (by have := first_nought h; omega)
theorem tab_mem {R : List (Int × Int)} (h : TabOk R) {z : Int} (hz : z ∈ R.map (·.1)) : 0 ≤ z := by
  obtain ⟨p, hp, rfl⟩ := List.mem_map.mp hz
  exact (h.r.mem p hp).1
theorem unlike_due {R S : List (Int × Int)} (h1 : TabOk R) (h2 : TabOk S) {d : Option Int} (hd : Due R S d) : unlike (short none R) (short none S) = d := by
  have k1 := short_ok h1
  have k2 := short_ok h2
  have f1 : ∀ z : Int, 0 ≤ z → foldLe (short none R) z 10000 = lastLe R z := fun z hz => by rw [fold_last k1 hz, short_last h1 hz]
  have f2 : ∀ z : Int, 0 ≤ z → foldLe (short none S) z 10000 = lastLe S z := fun z hz => by rw [fold_last k2 hz, short_last h2 hz]
  cases hu : unlike (short none R) (short none S) with
  | none =>
    have e := unlike_none hu
    cases d with
    | none => rfl
    | some m =>
      obtain ⟨h0, _, hne, _⟩ := hd.s m rfl
      exact absurd (by rw [← f1 m h0, ← f2 m h0, e]) hne
  | some x =>
    obtain ⟨hx, u⟩ := unlike_some (rising_first k1) (rising_first k2) (by rw [short_cons h1]; exact alt_short _ _) (by rw [short_cons h2]; exact alt_short _ _) hu
    have hi : x ∈ R.map (·.1) ∨ x ∈ S.map (·.1) := by
      rcases u.i with i | i
      · obtain ⟨p, hp, rfl⟩ := List.mem_map.mp i
        exact .inl (List.mem_map.mpr ⟨p, short_sub _ _ p hp, rfl⟩)
      · obtain ⟨p, hp, rfl⟩ := List.mem_map.mp i
        exact .inr (List.mem_map.mpr ⟨p, short_sub _ _ p hp, rfl⟩)
    have hdx : lastLe R x ≠ lastLe S x := by rw [← f1 x (by omega), ← f2 x (by omega)]; exact u.d
    cases d with
    | none => exact absurd (hd.n rfl x hi) hdx
    | some m =>
      obtain ⟨h0, hm, hne, hlt⟩ := hd.s m rfl
      rcases Int.lt_trichotomy x m with c | c | c
      · exact absurd (hlt x c hi) hdx
      · rw [c]
      · exact absurd (by rw [← f1 m h0, ← f2 m h0]; exact u.l m c) hne
theorem due_symm {R S : List (Int × Int)} {d : Option Int} (h : Due R S d) : Due S R d :=
  ⟨fun m e => by
    obtain ⟨h0, hm, hn, hl⟩ := h.s m e
    exact ⟨h0, hm.symm, fun z => hn z.symm, fun z hz hi => (hl z hz hi.symm).symm⟩, fun e z hi => (h.n e z hi.symm).symm⟩
theorem due_refl {R : List (Int × Int)} : Due R R none := ⟨(fun m e => by cases e), fun _ _ _ => rfl⟩
/-! a row put in, a row told anew -/
theorem rising_more : ∀ {B : List (Int × Int)} {a x : Int}, Rising (some a) B → (∀ q, B[0]? = some q → x < q.1) → Rising (some x) B
  | [], _, _, _, _ => trivial
  | p :: r, a, x, h, k => ⟨h.1, decide_eq_false (by have := k p rfl; omega), h.2.2⟩
theorem rising_ins {x : Int} : ∀ {R : List (Int × Int)} {l : Option Int} {i : Nat} {p : Int × Int}, Rising l R → R[i]? = some p → p.1 < x → x ≤ 1000000000 → (∀ q, R[i + 1]? = some q → x < q.1) → Rising l (R.take (i + 1) ++ [(x, p.2)] ++ R.drop (i + 1))
  | q :: r, l, 0, p, h, hp, h1, h2, h3 => by
    cases hp
    refine ⟨h.1, h.2.1, ⟨?_, h2, h.1.2.2⟩, decide_eq_false (by show ¬ x ≤ q.1; omega), rising_more h.2.2 fun z hz => h3 z hz⟩
    have := h.1
    show 0 ≤ x
    omega
  | q :: r, l, i + 1, p, h, hp, h1, h2, h3 => ⟨h.1, h.2.1, rising_ins (R := r) h.2.2 hp h1 h2 h3⟩
theorem rising_setS {s : Int} (h0 : -2880 ≤ s) (h1 : s ≤ 2880) : ∀ {R : List (Int × Int)} {l : Option Int} {i : Nat} {p : Int × Int}, Rising l R → R[i]? = some p → Rising l (R.set i (p.1, s))
  | q :: r, l, 0, p, h, hp => by
    cases hp
    exact ⟨⟨h.1.1, h.1.2.1, h0, h1⟩, h.2.1, h.2.2⟩
  | q :: r, l, i + 1, p, h, hp => ⟨h.1, h.2.1, rising_setS h0 h1 (R := r) h.2.2 hp⟩
theorem rising_setM {x : Int} : ∀ {R : List (Int × Int)} {l : Option Int} {i : Nat} {p : Int × Int}, Rising l R → R[i]? = some p → p.1 < x → x ≤ 1000000000 → (∀ q, R[i + 1]? = some q → x < q.1) → (l ≠ none ∨ 0 < i) → Rising l (R.set i (x, p.2))
  | q :: r, l, 0, p, h, hp, h1, h2, h3, h4 => by
    cases hp
    have hb := h.1
    cases l with
    | none => rcases h4 with h4 | h4
              · exact absurd rfl h4
              · omega
    | some y =>
      have := rising_step h
      exact ⟨⟨by show 0 ≤ x; omega, h2, h.1.2.2⟩, decide_eq_false (by show ¬ x ≤ y; omega), rising_more h.2.2 fun z hz => h3 z hz⟩
  | q :: r, l, i + 1, p, h, hp, h1, h2, h3, h4 => ⟨h.1, h.2.1, rising_setM (R := r) h.2.2 hp h1 h2 h3 (.inl (by simp))⟩
theorem tab_ins {x : Int} {R : List (Int × Int)} {i : Nat} {p : Int × Int} (h : TabOk R) (hp : R[i]? = some p) (h1 : p.1 < x) (h2 : x ≤ 1000000000) (h3 : ∀ q, R[i + 1]? = some q → x < q.1) (hl : R.length < 21) : TabOk (R.take (i + 1) ++ [(x, p.2)] ++ R.drop (i + 1)) :=
  ⟨by simp, by simp; omega, rising_ins h.r hp h1 h2 h3⟩
theorem tab_setS {s : Int} {R : List (Int × Int)} {i : Nat} {p : Int × Int} (h : TabOk R) (hp : R[i]? = some p) (h0 : -2880 ≤ s) (h1 : s ≤ 2880) : TabOk (R.set i (p.1, s)) :=
  ⟨fun e => h.n (by have := congrArg List.length e; rw [List.length_set] at this; exact List.length_eq_zero_iff.mp this), by rw [List.length_set]; exact h.l, rising_setS h0 h1 h.r hp⟩
theorem tab_setM {x : Int} {R : List (Int × Int)} {i : Nat} {p : Int × Int} (h : TabOk R) (hp : R[i]? = some p) (h1 : p.1 < x) (h2 : x ≤ 1000000000) (h3 : ∀ q, R[i + 1]? = some q → x < q.1) (h4 : 0 < i) : TabOk (R.set i (x, p.2)) :=
  ⟨fun e => h.n (by have := congrArg List.length e; rw [List.length_set] at this; exact List.length_eq_zero_iff.mp this), by rw [List.length_set]; exact h.l, rising_setM h.r hp h1 h2 h3 (.inr h4)⟩
theorem unlike_rest {A B : List (Int × Int)} {n : Nat} (h : A.drop n = [] ∨ B.drop n = []) {r : Int × Int} (e : (A.drop n ++ B.drop n)[0]? = some r) : unlike (A.drop n) (B.drop n) = some r.1 := by
  generalize A.drop n = X at *
  generalize B.drop n = Y at *
  rcases h with rfl | rfl
  · cases Y with
    | nil => cases e
    | cons y t => cases e; rfl
  · cases X with
    | nil => cases e
    | cons y t => cases e; rfl
theorem unlike_end {A B : List (Int × Int)} {n : Nat} (e : (A.drop n ++ B.drop n).length = 0) : unlike (A.drop n) (B.drop n) = none := by
  have h := List.append_eq_nil_iff.mp (List.length_eq_zero_iff.mp e)
  rw [h.1, h.2]
  rfl
theorem sorted_take {ns : List Int} {i : Nat} {m z : Int} (h : ns.Pairwise (· ≤ ·)) (hm : ns[i]? = some m) (hz : z ∈ ns) (hl : z < m) : z ∈ ns.take i := by
  obtain ⟨j, hj⟩ := List.mem_iff_getElem?.mp hz
  by_cases c : j < i
  · refine List.mem_iff_getElem?.mpr ⟨j, ?_⟩
    rw [List.getElem?_take, if_pos c]
    exact hj
  · exfalso
    obtain ⟨hi, ei⟩ := List.getElem?_eq_some_iff.mp hm
    obtain ⟨hj2, ej⟩ := List.getElem?_eq_some_iff.mp hj
    by_cases c2 : i = j
    · subst c2
      rw [ei] at ej
      omega
    · have := List.pairwise_iff_getElem.mp h i j hi hj2 (by omega)
      omega
end G

set_option linter.all false
set_option maxRecDepth 100000
namespace G
open PySem L2 TL
/-! two tables spliced at a moment -/
def splR (R S : List (Int × Int)) (m : Int) : List (Int × Int) := R.filter (fun p => decide (p.1 < m)) ++ [(m, lastLe S m)] ++ S.filter (fun p => decide (p.1 > m))
theorem filter_none_lt : ∀ {R : List (Int × Int)} {x m : Int}, Rising (some x) R → m ≤ x + 1 → R.filter (fun p => decide (p.1 < m)) = []
  | [], _, _, _, _ => rfl
  | p :: r, x, m, h, hm => by
    have h1 := rising_step h
    rw [List.filter_cons_of_neg (by simp; omega)]
    exact filter_none_lt h.2.2 (by omega)
theorem filter_none_ge {p : Int × Int} {R : List (Int × Int)} {x m : Int} (h : Rising (some x) (p :: R)) (hm : m ≤ p.1) : (p :: R).filter (fun p => decide (p.1 < m)) = [] := by
  rw [List.filter_cons_of_neg (by simp; omega)]
  exact filter_none_lt h.2.2 (by omega)
theorem filter_all_gt : ∀ {R : List (Int × Int)} {x m : Int}, Rising (some x) R → m ≤ x → R.filter (fun p => decide (p.1 > m)) = R
  | [], _, _, _, _ => rfl
  | p :: r, x, m, h, hm => by
    have h1 := rising_step h
    rw [List.filter_cons_of_pos (by simp; omega), filter_all_gt h.2.2 (by omega)]
theorem rising_gt : ∀ {R : List (Int × Int)} {x m : Int}, Rising (some x) R → Rising (some m) (R.filter (fun p => decide (p.1 > m)))
  | [], _, _, _ => trivial
  | p :: r, x, m, h => by
    by_cases c : m < p.1
    · rw [List.filter_cons_of_pos (by simpa using c)]
      refine ⟨h.1, decide_eq_false (by omega), ?_⟩
      rw [filter_all_gt h.2.2 (by omega)]
      exact h.2.2
    · rw [List.filter_cons_of_neg (by simpa using c)]
      exact rising_gt h.2.2
theorem rising_join {m : Int} {T : List (Int × Int)} (hm : (0 ≤ m ∧ m ≤ 1000000000)) {s : Int} (hs : -2880 ≤ s ∧ s ≤ 2880) (hT : Rising (some m) T) : ∀ {R : List (Int × Int)} {x : Int}, Rising (some x) R → x < m → Rising (some x) (R.filter (fun p => decide (p.1 < m)) ++ [(m, s)] ++ T)
  | [], x, _, hx => ⟨⟨hm.1, hm.2, hs.1, hs.2⟩, decide_eq_false (by show ¬ m ≤ x; omega), hT⟩
  | p :: r, x, h, hx => by
    by_cases c : p.1 < m
    · rw [List.filter_cons_of_pos (by simpa using c)]
      exact ⟨h.1, h.2.1, rising_join hm hs hT h.2.2 c⟩
    · rw [filter_none_ge h (by omega)]
      exact ⟨⟨hm.1, hm.2, hs.1, hs.2⟩, decide_eq_false (by show ¬ m ≤ x; omega), hT⟩
theorem lastLe_bd {R : List (Int × Int)} (h : TabOk R) (m : Int) : -2880 ≤ lastLe R m ∧ lastLe R m ≤ 2880 := by
  have g : ∀ (X : List (Int × Int)) (a : Int), -2880 ≤ a → a ≤ 2880 → (∀ p ∈ X, -2880 ≤ p.2 ∧ p.2 ≤ 2880) → -2880 ≤ X.foldl (fun acc p => if p.1 ≤ m then p.2 else acc) a ∧ X.foldl (fun acc p => if p.1 ≤ m then p.2 else acc) a ≤ 2880 := by
    intro X
    induction X with
    | nil => exact fun a h0 h1 _ => ⟨h0, h1⟩
    | cons p r ih =>
      intro a h0 h1 hx
      have hp := hx p List.mem_cons_self
      rw [List.foldl_cons]
      split
      · exact ih _ hp.1 hp.2 fun q hq => hx q (List.mem_cons_of_mem _ hq)
      · exact ih _ h0 h1 fun q hq => hx q (List.mem_cons_of_mem _ hq)
  exact g R 0 (by omega) (by omega) fun p hp => ⟨(h.r.mem p hp).2.2.1, (h.r.mem p hp).2.2.2⟩
/-- what is spliced rises -/
theorem spl_rising {R S : List (Int × Int)} {m : Int} (h : TabOk R) (h2 : TabOk S) (h0 : 0 ≤ m) (h1 : m ≤ 1000000000) : Rising none (splR R S m) := by
  have hb := lastLe_bd h2 m
  have hT : Rising (some m) (S.filter (fun p => decide (p.1 > m))) := rising_gt (rising_first h2)
  cases R with
  | nil => exact absurd rfl h.n
  | cons p r =>
    have hp := first_nought h
    unfold splR
    by_cases c : p.1 < m
    · rw [List.filter_cons_of_pos (by simpa using c)]
      exact ⟨h.r.1, h.r.2.1, rising_join ⟨h0, h1⟩ hb hT h.r.2.2 c⟩
    · rw [List.filter_cons_of_neg (by simpa using c), filter_none_lt h.r.2.2 (by omega)]
      refine ⟨⟨h0, h1, hb.1, hb.2⟩, ?_, hT⟩
      show stepBad none m = false
      exact decide_eq_false (by omega)
theorem spl_ne {R S : List (Int × Int)} {m : Int} : splR R S m ≠ [] := by unfold splR; simp
theorem spl_len {R S : List (Int × Int)} {m : Int} : (splR R S m).length ≤ R.length + S.length + 1 := by
  unfold splR
  have h1 := List.length_filter_le (fun p : Int × Int => decide (p.1 < m)) R
  have h2 := List.length_filter_le (fun p : Int × Int => decide (p.1 > m)) S
  rw [List.length_append, List.length_append, List.length_singleton]
  omega
theorem short_ok2 {R : List (Int × Int)} (h : Rising none R) (hn : R ≠ []) (hl : (short none R).length ≤ 21) : TabOk (short none R) := by
  cases R with
  | nil => exact absurd rfl hn
  | cons p r =>
    have e : short none (p :: r) = p :: short (some p.2) r := rfl
    rw [e] at hl ⊢
    exact ⟨by simp, hl, ⟨h.1, h.2.1, rising_short h.2.2⟩⟩
theorem short_rising {R : List (Int × Int)} (h : Rising none R) : Rising none (short none R) := by
  cases R with
  | nil => exact trivial
  | cons p r => exact ⟨h.1, h.2.1, rising_short h.2.2⟩
theorem spl_zero {R S : List (Int × Int)} (h : TabOk R) (h2 : TabOk S) : splR R S 0 = S := by
  unfold splR
  rw [filter_none_lt (rising_first h) (by omega)]
  cases S with
  | nil => exact absurd rfl h2.n
  | cons q s =>
    have hq := first_nought h2
    rw [List.filter_cons_of_neg (by simp; omega), filter_all_gt h2.r.2.2 (by omega)]
    have e : lastLe (q :: s) 0 = q.2 := by
      show s.foldl (fun acc p => if p.1 ≤ 0 then p.2 else acc) (if q.1 ≤ 0 then q.2 else 0) = q.2
      rw [if_pos (by omega)]
      exact fold_above _ _ _ fun p hp => by have := rising_all h2.r.2.2 p hp; omega
    rw [e]
    show [((0 : Int), q.2)] ++ s = q :: s
    rw [← hq]
    rfl
theorem short_cut {m : Int} : ∀ {R : List (Int × Int)} {x a : Int}, Rising (some x) R → short (some a) (R.filter (fun p => decide (p.1 < m)) ++ [(m, foldLe R m a)] ++ R.filter (fun p => decide (p.1 > m))) = short (some a) R
  | [], x, a, _ => by
    show (if some a = some a then [] else _) = []
    rw [if_pos rfl]
  | p :: r, x, a, h => by
    have e : ∀ (l : Option Int) (q : Int × Int) (r : List (Int × Int)), short l (q :: r) = if l = some q.2 then short l r else q :: short (some q.2) r := fun _ _ _ => rfl
    rcases Int.lt_trichotomy p.1 m with c | c | c
    · rw [List.filter_cons_of_pos (by simpa using c), List.filter_cons_of_neg (by simp; omega), fold_cons, if_pos (by omega)]
      have ih := short_cut (m := m) (a := p.2) h.2.2
      rw [List.cons_append, List.cons_append, e, e, ih]
      by_cases ha : some a = some p.2
      · rw [if_pos ha, if_pos ha, Option.some.inj ha, ih]
      · rw [if_neg ha, if_neg ha]
    · rw [List.filter_cons_of_neg (by simp; omega), List.filter_cons_of_neg (by simp; omega), filter_none_lt h.2.2 (by omega), filter_all_gt h.2.2 (by omega), ← c, fold_on h]
      rfl
    · rw [filter_none_ge h (by omega), fold_up h c]
      by_cases hx : m ≤ x
      · rw [filter_all_gt h hx, List.nil_append, List.singleton_append, e, if_pos rfl]
      · rw [List.filter_cons_of_pos (by simpa using c), filter_all_gt h.2.2 (by omega), List.nil_append, List.singleton_append, e, if_pos rfl]
theorem spl_self {R : List (Int × Int)} {m : Int} (h : TabOk R) (h0 : 0 ≤ m) : short none (splR R R m) = short none R := by
  have e0 : splR R R m = R.filter (fun p => decide (p.1 < m)) ++ [(m, foldLe R m 10000)] ++ R.filter (fun p => decide (p.1 > m)) := by
    unfold splR
    rw [fold_last h h0]
  have hn : ∀ X : List (Int × Int), (∀ p ∈ X, p.2 ≤ 2880) → short none X = short (some 10000) X := by
    intro X hX
    cases X with
    | nil => rfl
    | cons p r =>
      have := hX p List.mem_cons_self
      show p :: short (some p.2) r = (if some (10000 : Int) = some p.2 then short (some 10000) r else p :: short (some p.2) r)
      rw [if_neg (fun z => by have := Option.some.inj z; omega)]
  have hb := lastLe_bd h m
  rw [hn (splR R R m), hn R, e0]
  · exact short_cut (rising_first h)
  · exact fun p hp => (h.r.mem p hp).2.2.2
  · intro p hp
    unfold splR at hp
    simp only [List.mem_append, List.mem_filter, List.mem_singleton] at hp
    rcases hp with (⟨hp, _⟩ | rfl) | ⟨hp, _⟩
    · exact (h.r.mem p hp).2.2.2
    · exact hb.2
    · exact (h.r.mem p hp).2.2.2
/-- the first row whose shift is beyond two days -/
def farAt : Nat → List (Int × Int) → Option Nat
  | _, [] => none
  | i, p :: r => if p.2 < -2880 ∨ 2880 < p.2 then some i else farAt (i + 1) r
theorem far_none : ∀ {R : List (Int × Int)} {l : Option Int} {i : Nat}, Rising l R → farAt i R = none
  | [], _, _, _ => rfl
  | p :: r, l, i, h => by
    show (if p.2 < -2880 ∨ 2880 < p.2 then some i else farAt (i + 1) r) = none
    rw [if_neg (by have := h.1; omega)]
    exact far_none h.2.2
end G

set_option linter.all false
set_option maxRecDepth 100000
namespace G
open PySem L2 TL
/-! rows whose moments rise, whatever their shifts -/
def RiseM : Option Int → List (Int × Int) → Prop
  | _, [] => True
  | a, p :: r => (0 ≤ p.1 ∧ p.1 ≤ 1000000000) ∧ stepBad a p.1 = false ∧ RiseM (some p.1) r
theorem riseM_of : ∀ {R : List (Int × Int)} {a : Option Int}, Rising a R → RiseM a R
  | [], _, _ => trivial
  | p :: r, a, h => ⟨⟨h.1.1, h.1.2.1⟩, h.2.1, riseM_of h.2.2⟩
theorem riseM_far : ∀ {R : List (Int × Int)} {a : Option Int} {i : Nat}, RiseM a R → farAt i R = none → Rising a R
  | [], _, _, _, _ => trivial
  | p :: r, a, i, h, f => by
    have e : farAt i (p :: r) = if p.2 < -2880 ∨ 2880 < p.2 then some i else farAt (i + 1) r := rfl
    rw [e] at f
    by_cases c : p.2 < -2880 ∨ 2880 < p.2
    · rw [if_pos c] at f; cases f
    · rw [if_neg c] at f
      exact ⟨⟨h.1.1, h.1.2, by omega, by omega⟩, h.2.1, riseM_far h.2.2 f⟩
theorem stepM {p : Int × Int} {r : List (Int × Int)} {x : Int} (h : RiseM (some x) (p :: r)) : x < p.1 := by
  have h1 : stepBad (some x) p.1 = false := h.2.1
  have h1 := of_decide_eq_false h1
  omega
theorem riseM_less : ∀ {R : List (Int × Int)} {x y : Int}, RiseM (some y) R → x ≤ y → RiseM (some x) R
  | [], _, _, _, _ => trivial
  | p :: r, x, y, h, k => ⟨h.1, decide_eq_false (by have := stepM h; omega), h.2.2⟩
theorem riseM_short : ∀ {R : List (Int × Int)} {x : Int} {l : Option Int}, RiseM (some x) R → RiseM (some x) (short l R)
  | [], _, _, _ => trivial
  | p :: r, x, l, h => by
    have h2 := stepM h
    have e : short l (p :: r) = if l = some p.2 then short l r else p :: short (some p.2) r := rfl
    rw [e]
    split
    · exact riseM_less (riseM_short (l := l) h.2.2) (by omega)
    · exact ⟨h.1, h.2.1, riseM_short h.2.2⟩
theorem shortM {R : List (Int × Int)} (h : RiseM none R) : RiseM none (short none R) := by
  cases R with
  | nil => exact trivial
  | cons p r => exact ⟨h.1, h.2.1, riseM_short h.2.2⟩
theorem short_ne {R : List (Int × Int)} (h : R ≠ []) : short none R ≠ [] := by
  cases R with
  | nil => exact absurd rfl h
  | cons p r =>
    have e2 : short none (p :: r) = p :: short (some p.2) r := rfl
    rw [e2]
    exact List.cons_ne_nil _ _
theorem tab_of {R : List (Int × Int)} (h : RiseM none R) (hn : R ≠ []) (f : farAt 0 R = none) (hl : R.length ≤ 21) : TabOk R := ⟨hn, hl, riseM_far h f⟩
theorem riseM_map {g : Int × Int → Int} : ∀ {R : List (Int × Int)} {a : Option Int}, RiseM a R → RiseM a (R.map fun p => (p.1, g p))
  | [], _, _ => trivial
  | p :: r, a, h => ⟨h.1, h.2.1, riseM_map h.2.2⟩
theorem riseM_join {m : Int} {T : List (Int × Int)} (hm : (0 ≤ m ∧ m ≤ 1000000000)) {s : Int} (hT : RiseM (some m) T) : ∀ {R : List (Int × Int)} {x : Int}, Rising (some x) R → x < m → RiseM (some x) (R.filter (fun p => decide (p.1 < m)) ++ [(m, s)] ++ T)
  | [], x, _, hx => ⟨⟨hm.1, hm.2⟩, decide_eq_false (by show ¬ m ≤ x; omega), hT⟩
  | p :: r, x, h, hx => by
    by_cases c : p.1 < m
    · rw [List.filter_cons_of_pos (by simpa using c)]
      exact ⟨⟨h.1.1, h.1.2.1⟩, h.2.1, riseM_join hm hT h.2.2 c⟩
    · rw [filter_none_ge h (by omega)]
      exact ⟨⟨hm.1, hm.2⟩, decide_eq_false (by show ¬ m ≤ x; omega), hT⟩
/-- minutes put on from a moment on -/
def putR (R : List (Int × Int)) (m k : Int) : List (Int × Int) := R.filter (fun p => decide (p.1 < m)) ++ [(m, lastLe R m + k)] ++ (R.filter (fun p => decide (p.1 > m))).map fun p => (p.1, p.2 + k)
theorem put_rise {R : List (Int × Int)} {m k : Int} (h : TabOk R) (h0 : 0 ≤ m) (h1 : m ≤ 1000000000) : RiseM none (putR R m k) := by
  have hT : RiseM (some m) ((R.filter (fun p => decide (p.1 > m))).map fun p => (p.1, p.2 + k)) := riseM_map (riseM_of (rising_gt (rising_first h)))
  cases R with
  | nil => exact absurd rfl h.n
  | cons p r =>
    have hp := first_nought h
    unfold putR
    by_cases c : p.1 < m
    · rw [List.filter_cons_of_pos (by simpa using c)]
      exact ⟨⟨h.r.1.1, h.r.1.2.1⟩, h.r.2.1, riseM_join ⟨h0, h1⟩ hT h.r.2.2 c⟩
    · rw [List.filter_cons_of_neg (by simpa using c), filter_none_lt h.r.2.2 (by omega)]
      refine ⟨⟨h0, h1⟩, ?_, hT⟩
      show stepBad none m = false
      exact decide_eq_false (by omega)
theorem put_ne {R : List (Int × Int)} {m k : Int} : putR R m k ≠ [] := by unfold putR; simp
theorem put_len {R : List (Int × Int)} {m k : Int} : (putR R m k).length ≤ R.length + R.length + 1 := by
  unfold putR
  have h1 := List.length_filter_le (fun p : Int × Int => decide (p.1 < m)) R
  have h2 := List.length_filter_le (fun p : Int × Int => decide (p.1 > m)) R
  rw [List.length_append, List.length_append, List.length_singleton, List.length_map]
  omega
theorem put_nought {R : List (Int × Int)} (h : TabOk R) : putR R 0 0 = R := by
  have e := spl_zero h h
  unfold splR at e
  unfold putR
  have hm : (R.filter (fun p => decide (p.1 > 0))).map (fun p => (p.1, p.2 + 0)) = R.filter (fun p => decide (p.1 > 0)) := by
    have : (fun p : Int × Int => (p.1, p.2 + 0)) = id := by funext p; show (p.1, p.2 + 0) = p; rw [Int.add_zero]
    rw [this, List.map_id]
  rw [hm, Int.add_zero]
  exact e
/-- the rows beyond two days, as the laws look for them -/
def farB (T : List (Int × Int)) (k : Nat) : Bool := match T[k]? with
  | some p => decide (p.2 < -2880) || decide (p.2 > 2880)
  | none => false
theorem far_list : ∀ (T : List (Int × Int)) (j : Nat), ((List.range' j T.length).filter (fun k => farB (List.replicate j (0, 0) ++ T) k)).head? = farAt j T
  | [], j => rfl
  | p :: r, j => by
    have e : farAt j (p :: r) = if p.2 < -2880 ∨ 2880 < p.2 then some j else farAt (j + 1) r := rfl
    have eb : farB (List.replicate j (0, 0) ++ p :: r) j = (decide (p.2 < -2880) || decide (p.2 > 2880)) := by
      unfold farB
      rw [List.getElem?_append_right (by simp), List.length_replicate, Nat.sub_self]
      rfl
    have en : ∀ k, j + 1 ≤ k → farB (List.replicate j (0, 0) ++ p :: r) k = farB (List.replicate (j + 1) (0, 0) ++ r) k := by
      intro k hk
      unfold farB
      rw [List.getElem?_append_right (by simp; omega), List.getElem?_append_right (by simp; omega), List.length_replicate, List.length_replicate]
      obtain ⟨d, rfl⟩ : ∃ d, k = j + 1 + d := ⟨k - (j + 1), by omega⟩
      rw [show j + 1 + d - j = d + 1 by omega, show j + 1 + d - (j + 1) = d by omega]
      rfl
    rw [e, List.length_cons, List.range'_succ]
    by_cases c : p.2 < -2880 ∨ 2880 < p.2
    · rw [if_pos c, List.filter_cons_of_pos (by rw [eb]; simpa using c)]
      rfl
    · rw [if_neg c, List.filter_cons_of_neg (by rw [eb]; simpa using c), ← far_list r (j + 1)]
      congr 1
      refine List.filter_congr fun k hk => ?_
      rw [en k (by have := List.mem_range'.mp hk; omega)]
theorem far_head (T : List (Int × Int)) : ((List.range T.length).filter (farB T)).head? = farAt 0 T := by
  rw [List.range_eq_range']
  exact far_list T 0
end G

set_option linter.all false
set_option maxRecDepth 100000
namespace G
open PySem L2 TL
/-! the moments of two lists of rows, rising; sums and differences of rows -/
def insZ (x : Int) : List Int → List Int
  | [] => [x]
  | y :: l => if x < y then x :: y :: l else if x = y then y :: l else y :: insZ x l
theorem insZ_e (x y : Int) (l : List Int) : insZ x (y :: l) = if x < y then x :: y :: l else if x = y then y :: l else y :: insZ x l := rfl
theorem insZ_mem {x z : Int} : ∀ (l : List Int), z ∈ insZ x l ↔ z = x ∨ z ∈ l
  | [] => by show z ∈ [x] ↔ _; simp
  | y :: l => by
    rw [insZ_e]
    split
    · simp
    · split
      · rename_i h
        subst h
        simp
      · rw [List.mem_cons, insZ_mem l, List.mem_cons]
        constructor <;> rintro (h | h | h) <;> simp [h]
theorem insZ_sorted {x : Int} : ∀ (l : List Int), l.Pairwise (· < ·) → (insZ x l).Pairwise (· < ·)
  | [], _ => List.pairwise_singleton _ _
  | y :: l, h => by
    obtain ⟨h1, h2⟩ := List.pairwise_cons.mp h
    rw [insZ_e]
    split
    · rename_i c
      exact List.pairwise_cons.mpr ⟨fun z hz => by rcases List.mem_cons.mp hz with rfl | hz; exact c; have := h1 z hz; omega, h⟩
    · split
      · exact h
      · refine List.pairwise_cons.mpr ⟨fun z hz => ?_, insZ_sorted l h2⟩
        rcases (insZ_mem l).mp hz with rfl | hz
        · omega
        · exact h1 z hz
theorem insZ_len {x : Int} : ∀ (l : List Int), (insZ x l).length ≤ l.length + 1
  | [] => Nat.le_refl _
  | y :: l => by
    have := insZ_len (x := x) l
    rw [insZ_e]
    split
    · exact Nat.le_refl _
    · split
      · simp
      · simp only [List.length_cons]; omega
theorem insZ_in {x : Int} : ∀ (l : List Int), l.Pairwise (· < ·) → x ∈ l → (insZ x l).length = l.length
  | [], _, h => by cases h
  | y :: l, h, hx => by
    obtain ⟨h1, h2⟩ := List.pairwise_cons.mp h
    rw [insZ_e]
    rcases List.mem_cons.mp hx with rfl | hx
    · rw [if_neg (by omega), if_pos rfl]
    · have := h1 x hx
      rw [if_neg (by omega), if_neg (by omega), List.length_cons, List.length_cons, insZ_in l h2 hx]
def startsL (l : List Int) : List Int := l.foldr insZ []
def starts (R S : List (Int × Int)) : List Int := startsL (R.map (·.1) ++ S.map (·.1))
theorem startsL_mem {z : Int} : ∀ (l : List Int), z ∈ startsL l ↔ z ∈ l
  | [] => Iff.rfl
  | x :: l => by
    show z ∈ insZ x (startsL l) ↔ _
    rw [insZ_mem, startsL_mem l, List.mem_cons]
theorem startsL_sorted : ∀ (l : List Int), (startsL l).Pairwise (· < ·)
  | [] => List.Pairwise.nil
  | x :: l => insZ_sorted _ (startsL_sorted l)
theorem startsL_len : ∀ (l : List Int), (startsL l).length ≤ l.length
  | [] => Nat.le_refl _
  | x :: l => by
    have h1 := insZ_len (x := x) (startsL l)
    have h2 := startsL_len l
    show (insZ x (startsL l)).length ≤ _
    rw [List.length_cons]
    omega
theorem starts_mem {R S : List (Int × Int)} {z : Int} : z ∈ starts R S ↔ z ∈ R.map (·.1) ∨ z ∈ S.map (·.1) := by
  unfold starts
  rw [startsL_mem, List.mem_append]
theorem starts_sorted {R S : List (Int × Int)} : (starts R S).Pairwise (· < ·) := startsL_sorted _
theorem starts_len {R S : List (Int × Int)} : (starts R S).length ≤ R.length + S.length := by
  have := startsL_len (R.map (·.1) ++ S.map (·.1))
  rw [List.length_append, List.length_map, List.length_map] at this
  exact this
theorem starts_len1 {p q : Int × Int} {R S : List (Int × Int)} (h : p.1 = q.1) : (starts (p :: R) (q :: S)).length ≤ R.length + S.length + 1 := by
  show (insZ p.1 (startsL (R.map (·.1) ++ (q :: S).map (·.1)))).length ≤ _
  rw [insZ_in _ (startsL_sorted _) ((startsL_mem _).mpr (by simp [h]))]
  have := startsL_len (R.map (·.1) ++ (q :: S).map (·.1))
  rw [List.length_append, List.length_map, List.length_map, List.length_cons] at this
  omega
theorem sorted_uniq : ∀ {l k : List Int}, l.Pairwise (· < ·) → k.Pairwise (· < ·) → (∀ z, z ∈ l ↔ z ∈ k) → l = k
  | [], [], _, _, _ => rfl
  | [], y :: k, _, _, h => by have := (h y).mpr (by simp); cases this
  | x :: l, [], _, _, h => by have := (h x).mp (by simp); cases this
  | x :: l, y :: k, h1, h2, h => by
    obtain ⟨a1, a2⟩ := List.pairwise_cons.mp h1
    obtain ⟨b1, b2⟩ := List.pairwise_cons.mp h2
    have e : x = y := by
      rcases List.mem_cons.mp ((h x).mp (by simp)) with e | e
      · exact e
      · rcases List.mem_cons.mp ((h y).mpr (by simp)) with e2 | e2
        · exact e2.symm
        · have := b1 x e
          have := a1 y e2
          omega
    subst e
    rw [sorted_uniq a2 b2 fun z => ?_]
    constructor
    · intro hz
      rcases List.mem_cons.mp ((h z).mp (List.mem_cons_of_mem _ hz)) with e | e
      · have := a1 z hz; omega
      · exact e
    · intro hz
      rcases List.mem_cons.mp ((h z).mpr (List.mem_cons_of_mem _ hz)) with e | e
      · have := b1 z hz; omega
      · exact e
/-- rows of gaps -/
def GapR : Option Int → List (Int × Int) → Prop
  | _, [] => True
  | a, p :: r => ((0 ≤ p.1 ∧ p.1 ≤ 1000000000) ∧ -5760 ≤ p.2 ∧ p.2 ≤ 5760) ∧ stepBad a p.1 = false ∧ GapR (some p.1) r
structure GapOk (S : List (Int × Int)) : Prop where
  n : S ≠ []
  l : S.length ≤ 41
  r : GapR none S
theorem gapR_M : ∀ {R : List (Int × Int)} {a : Option Int}, GapR a R → RiseM a R
  | [], _, _ => trivial
  | p :: r, a, h => ⟨h.1.1, h.2.1, gapR_M h.2.2⟩
theorem gapR_of : ∀ {R : List (Int × Int)} {a : Option Int}, Rising a R → GapR a R
  | [], _, _ => trivial
  | p :: r, a, h => ⟨⟨⟨h.1.1, h.1.2.1⟩, by have := h.1.2.2; omega, by have := h.1.2.2; omega⟩, h.2.1, gapR_of h.2.2⟩
theorem GapR.bd : ∀ {R : List (Int × Int)} {a : Option Int}, GapR a R → ∀ p ∈ R, -5760 ≤ p.2 ∧ p.2 ≤ 5760
  | p :: r, a, h, q, hq => by
    rcases List.mem_cons.mp hq with rfl | hq
    · exact h.1.2
    · exact GapR.bd h.2.2 q hq
theorem riseM_mom : ∀ {R : List (Int × Int)} {a : Option Int}, RiseM a R → ∀ p ∈ R, 0 ≤ p.1 ∧ p.1 ≤ 1000000000
  | p :: r, a, h, q, hq => by
    rcases List.mem_cons.mp hq with rfl | hq
    · exact h.1
    · exact riseM_mom h.2.2 q hq
theorem gapR_less : ∀ {R : List (Int × Int)} {x y : Int}, GapR (some y) R → x ≤ y → GapR (some x) R
  | [], _, _, _, _ => trivial
  | p :: r, x, y, h, k => ⟨h.1, decide_eq_false (by have := stepM (gapR_M h); omega), h.2.2⟩
theorem gapR_short : ∀ {R : List (Int × Int)} {x : Int} {l : Option Int}, GapR (some x) R → GapR (some x) (short l R)
  | [], _, _, _ => trivial
  | p :: r, x, l, h => by
    have h2 := stepM (gapR_M h)
    have e : short l (p :: r) = if l = some p.2 then short l r else p :: short (some p.2) r := rfl
    rw [e]
    split
    · exact gapR_less (gapR_short (l := l) h.2.2) (by omega)
    · exact ⟨h.1, h.2.1, gapR_short h.2.2⟩
theorem gapR_shortN {R : List (Int × Int)} (h : GapR none R) : GapR none (short none R) := by
  cases R with
  | nil => exact trivial
  | cons p r => exact ⟨h.1, h.2.1, gapR_short h.2.2⟩
theorem riseM_zero {p : Int × Int} {r : List (Int × Int)} (h : RiseM none (p :: r)) : p.1 = 0 := by
  have h1 : stepBad none p.1 = false := h.2.1
  have h1 := of_decide_eq_false h1
  omega
theorem riseM_above : ∀ {R : List (Int × Int)} {a : Int}, RiseM (some a) R → ∀ p ∈ R, a < p.1
  | p :: r, a, h, q, hq => by
    have h2 := stepM h
    rcases List.mem_cons.mp hq with rfl | hq
    · exact h2
    · have := riseM_above h.2.2 q hq
      omega
/-- rows at these moments -/
theorem riseM_at {f : Int → Int} : ∀ {ns : List Int} {a : Option Int}, ns.Pairwise (· < ·) → (∀ z ∈ ns, 0 ≤ z ∧ z ≤ 1000000000) → (∀ x, a = some x → ∀ z ∈ ns, x < z) → (a = none → ns = [] ∨ ns.head? = some 0) → RiseM a (ns.map fun m => (m, f m))
  | [], _, _, _, _, _ => trivial
  | x :: ns, a, h, hb, ha, hn => by
    obtain ⟨h1, h2⟩ := List.pairwise_cons.mp h
    refine ⟨hb x (by simp), ?_, riseM_at h2 (fun z hz => hb z (List.mem_cons_of_mem _ hz)) (fun y hy z hz => by cases hy; exact h1 z hz) (fun e => by cases e)⟩
    cases a with
    | none =>
      rcases hn rfl with e | e
      · cases e
      · cases e; rfl
    | some y => exact decide_eq_false (by have := ha y rfl x (by simp); dsimp only; omega)
theorem riseM_gap {f : Int → Int} : ∀ {ns : List Int} {a : Option Int}, RiseM a (ns.map fun m => (m, f m)) → (∀ z ∈ ns, -5760 ≤ f z ∧ f z ≤ 5760) → GapR a (ns.map fun m => (m, f m))
  | [], _, _, _ => trivial
  | x :: ns, a, h, hb => ⟨⟨h.1, hb x (by simp)⟩, h.2.1, riseM_gap h.2.2 fun z hz => hb z (List.mem_cons_of_mem _ hz)⟩
theorem riseM_rising {f : Int → Int} : ∀ {ns : List Int} {a : Option Int}, RiseM a (ns.map fun m => (m, f m)) → (∀ z ∈ ns, -2880 ≤ f z ∧ f z ≤ 2880) → Rising a (ns.map fun m => (m, f m))
  | [], _, _, _ => trivial
  | x :: ns, a, h, hb => ⟨⟨h.1.1, h.1.2, hb x (by simp)⟩, h.2.1, riseM_rising h.2.2 fun z hz => hb z (List.mem_cons_of_mem _ hz)⟩
theorem starts_head {R S : List (Int × Int)} (h : RiseM none R) (hn : R ≠ []) (h2 : RiseM none S) : (starts R S).head? = some 0 := by
  have h0 : (0 : Int) ∈ starts R S := by
    rw [starts_mem]
    cases R with
    | nil => exact absurd rfl hn
    | cons p r => exact .inl (by simp [riseM_zero h])
  have hs := starts_sorted (R := R) (S := S)
  have hb : ∀ z ∈ starts R S, 0 ≤ z := fun z hz => by
    rcases starts_mem.mp hz with q | q
    · obtain ⟨p, hp, rfl⟩ := List.mem_map.mp q
      exact (riseM_mom h p hp).1
    · obtain ⟨p, hp, rfl⟩ := List.mem_map.mp q
      exact (riseM_mom h2 p hp).1
  cases hq : starts R S with
  | nil => rw [hq] at h0; cases h0
  | cons x l =>
    rw [hq] at h0 hs hb
    have := hb x (by simp)
    rcases List.mem_cons.mp h0 with e | e
    · rw [← e]; rfl
    · have := (List.pairwise_cons.mp hs).1 0 e
      omega
theorem starts_bd {R S : List (Int × Int)} (h : RiseM none R) (h2 : RiseM none S) : ∀ z ∈ starts R S, 0 ≤ z ∧ z ≤ 1000000000 := fun z hz => by
  rcases starts_mem.mp hz with q | q
  · obtain ⟨p, hp, rfl⟩ := List.mem_map.mp q
    exact riseM_mom h p hp
  · obtain ⟨p, hp, rfl⟩ := List.mem_map.mp q
    exact riseM_mom h2 p hp
theorem riseM_starts {f : Int → Int} {R S : List (Int × Int)} (h : RiseM none R) (hn : R ≠ []) (h2 : RiseM none S) : RiseM none ((starts R S).map fun m => (m, f m)) :=
  riseM_at starts_sorted (starts_bd h h2) (fun x e => by cases e) fun _ => .inr (starts_head h hn h2)
theorem starts_ne {R S : List (Int × Int)} (hn : R ≠ []) : starts R S ≠ [] := by
  cases R with
  | nil => exact absurd rfl hn
  | cons p r =>
    intro e
    have : p.1 ∈ starts (p :: r) S := starts_mem.mpr (.inl (by simp))
    rw [e] at this
    cases this
def addR (R S : List (Int × Int)) : List (Int × Int) := (starts R S).map fun m => (m, lastLe R m + lastLe S m)
def gapR (R S : List (Int × Int)) : List (Int × Int) := (starts R S).map fun m => (m, lastLe S m - lastLe R m)
/-- what rows tell changes at their moments alone -/
theorem last_same {R : List (Int × Int)} {y z : Int} (hy : y ≤ z) (h : ∀ p ∈ R, ¬ (y < p.1 ∧ p.1 ≤ z)) : lastLe R y = lastLe R z := by
  unfold lastLe
  have key : ∀ (L : List (Int × Int)) (a : Int), (∀ p ∈ L, ¬ (y < p.1 ∧ p.1 ≤ z)) → L.foldl (fun acc p => if p.1 ≤ y then p.2 else acc) a = L.foldl (fun acc p => if p.1 ≤ z then p.2 else acc) a := by
    intro L
    induction L with
    | nil => exact fun _ _ => rfl
    | cons p L ih =>
      intro a hL
      have hp := hL p (by simp)
      rw [List.foldl_cons, List.foldl_cons]
      have e : (if p.1 ≤ y then p.2 else a) = (if p.1 ≤ z then p.2 else a) := by
        by_cases c : p.1 ≤ y
        · rw [if_pos c, if_pos (by omega)]
        · rw [if_neg c, if_neg (by omega)]
      rw [e]
      exact ih _ fun q hq => hL q (List.mem_cons_of_mem _ hq)
  exact key R _ h
theorem fold_none {f : Int → Int} {z : Int} : ∀ (l : List Int) (a : Int), (∀ m ∈ l, ¬ m ≤ z) → (l.map fun m => (m, f m)).foldl (fun acc p => if p.1 ≤ z then p.2 else acc) a = a
  | [], _, _ => rfl
  | x :: l, a, h => by
    rw [List.map_cons, List.foldl_cons, if_neg (h x (by simp))]
    exact fold_none l a fun m hm => h m (List.mem_cons_of_mem _ hm)
theorem fold_at {f : Int → Int} {z : Int} : ∀ (l : List Int) (b a : Int), (∀ m ∈ l, b ≤ m) → l.Pairwise (· < ·) → (∀ y z, b ≤ y → y ≤ z → (∀ m ∈ l, ¬ (y < m ∧ m ≤ z)) → f y = f z) → (∃ m ∈ l, m ≤ z) →
    (l.map fun m => (m, f m)).foldl (fun acc p => if p.1 ≤ z then p.2 else acc) a = f z
  | [], _, _, _, _, _, h => by obtain ⟨m, hm, _⟩ := h; cases hm
  | x :: l, b, a, hb, hs, hf, h => by
    obtain ⟨h1, h2⟩ := List.pairwise_cons.mp hs
    have hx : x ≤ z := by
      obtain ⟨m, hm, hmz⟩ := h
      rcases List.mem_cons.mp hm with rfl | hm
      · exact hmz
      · have := h1 m hm; omega
    have hbx := hb x (by simp)
    rw [List.map_cons, List.foldl_cons, if_pos hx]
    by_cases c : ∃ m ∈ l, m ≤ z
    · refine fold_at l x _ (fun m hm => by have := h1 m hm; omega) h2 (fun y z' hy hz hm => hf y z' (by omega) hz fun m hm' => ?_) c
      rcases List.mem_cons.mp hm' with rfl | hm'
      · omega
      · exact hm m hm'
    · rw [fold_none l _ fun m hm hmz => c ⟨m, hm, hmz⟩]
      refine hf x z hbx hx fun m hm hmz => ?_
      rcases List.mem_cons.mp hm with rfl | hm
      · omega
      · exact c ⟨m, hm, hmz.2⟩
theorem last_map {f : Int → Int} {R S : List (Int × Int)} {z : Int} (h : RiseM none R) (hn : R ≠ []) (h2 : RiseM none S) (hz : 0 ≤ z) (hf : ∀ y z, 0 ≤ y → y ≤ z → (∀ m ∈ starts R S, ¬ (y < m ∧ m ≤ z)) → f y = f z) : lastLe ((starts R S).map fun m => (m, f m)) z = f z := by
  refine fold_at _ 0 _ (fun m hm => (starts_bd h h2 m hm).1) starts_sorted hf ⟨0, ?_, hz⟩
  have := starts_head h hn h2
  exact List.mem_of_head? this
theorem last_gap {R S : List (Int × Int)} {z : Int} (h : RiseM none R) (hn : R ≠ []) (h2 : RiseM none S) (hz : 0 ≤ z) : lastLe (gapR R S) z = lastLe S z - lastLe R z := by
  refine last_map (f := fun m => lastLe S m - lastLe R m) h hn h2 hz fun y z _ hyz hm => ?_
  have e1 := last_same (R := R) hyz fun p hp => hm p.1 (starts_mem.mpr (.inl (List.mem_map_of_mem hp)))
  have e2 := last_same (R := S) hyz fun p hp => hm p.1 (starts_mem.mpr (.inr (List.mem_map_of_mem hp)))
  omega
theorem shortM_fold (m : Int) : ∀ (R : List (Int × Int)) (x a : Int), RiseM (some x) R → (short (some a) R).foldl (fun acc p => if p.1 ≤ m then p.2 else acc) a = R.foldl (fun acc p => if p.1 ≤ m then p.2 else acc) a
  | [], _, _, _ => rfl
  | p :: r, x, a, h => by
    have e : short (some a) (p :: r) = if some a = some p.2 then short (some a) r else p :: short (some p.2) r := rfl
    rw [e]
    split
    · rename_i c
      have c := Option.some.inj c
      rw [List.foldl_cons, shortM_fold m r p.1 a h.2.2]
      congr 1
      split <;> simp [c]
    · rw [List.foldl_cons, List.foldl_cons]
      by_cases c : p.1 ≤ m
      · rw [if_pos c]
        exact shortM_fold m r p.1 p.2 h.2.2
      · rw [if_neg c]
        have z : ∀ (L : List (Int × Int)) (b : Int), (∀ q ∈ L, ¬ q.1 ≤ m) → L.foldl (fun acc p => if p.1 ≤ m then p.2 else acc) b = b := by
          intro L
          induction L with
          | nil => exact fun _ _ => rfl
          | cons q L ih =>
            intro b hL
            rw [List.foldl_cons, if_neg (hL q (by simp))]
            exact ih b fun q hq => hL q (List.mem_cons_of_mem _ hq)
        have ha := riseM_above h.2.2
        rw [z _ a fun q hq => by have := riseM_above (riseM_short (l := some p.2) h.2.2) q hq; omega, z _ a fun q hq => by have := ha q hq; omega]
theorem shortM_last {R : List (Int × Int)} {m : Int} (h : RiseM none R) (h0 : 0 ≤ m) : lastLe (short none R) m = lastLe R m := by
  cases R with
  | nil => rfl
  | cons p r =>
    have hp := riseM_zero h
    have e : short none (p :: r) = p :: short (some p.2) r := rfl
    rw [e]
    unfold lastLe
    rw [List.foldl_cons, List.foldl_cons, if_pos (by omega)]
    exact shortM_fold m r p.1 p.2 h.2.2
/-- the shortest rows are told by what rows tell -/
theorem short_uniq {A B : List (Int × Int)} (hA : Rising none A) (hB : Rising none B) (nA : A ≠ []) (nB : B ≠ []) (h : ∀ z, 0 ≤ z → lastLe A z = lastLe B z) : short none A = short none B := by
  have cons : ∀ {R : List (Int × Int)}, Rising none R → short none R = short (some 10000) R := by
    intro R hR
    cases R with
    | nil => rfl
    | cons p r =>
      have e : ∀ l, short l (p :: r) = if l = some p.2 then short l r else p :: short (some p.2) r := fun _ => rfl
      have hb := hR.1
      rw [e, e, if_neg (by simp), if_neg (fun z => by have := Option.some.inj z; omega)]
  have first : ∀ {R : List (Int × Int)}, Rising none R → Rising (some (-1)) R := by
    intro R hR
    cases R with
    | nil => exact trivial
    | cons p r => exact ⟨hR.1, decide_eq_false (by have := hR.1; omega), hR.2.2⟩
  have last : ∀ {R : List (Int × Int)} {m : Int}, Rising none R → R ≠ [] → 0 ≤ m → foldLe R m 10000 = lastLe R m := by
    intro R m hR hn h0
    cases R with
    | nil => exact absurd rfl hn
    | cons p r => exact fold_first (by have := riseM_zero (riseM_of hR); omega)
  rw [cons hA, cons hB]
  cases hu : unlike (short (some 10000) A) (short (some 10000) B) with
  | none => exact unlike_none hu
  | some m =>
    obtain ⟨hm, u⟩ := unlike_some (rising_short (first hA)) (rising_short (first hB)) (alt_short _ _) (alt_short _ _) hu
    have hd := u.d
    have e1 : foldLe (short (some 10000) A) m 10000 = foldLe A m 10000 := short_fold m A (-1) 10000 (first hA)
    have e2 : foldLe (short (some 10000) B) m 10000 = foldLe B m 10000 := short_fold m B (-1) 10000 (first hB)
    rw [e1, e2, last hA nA (by omega), last hB nB (by omega)] at hd
    exact absurd (h m (by omega)) hd
theorem gap_back {R S : List (Int × Int)} (h : TabOk R) (h2 : TabOk S) : short none (addR R (short none (gapR R S))) = short none S := by
  have mR := riseM_of h.r
  have mS := riseM_of h2.r
  have mG : RiseM none (gapR R S) := riseM_starts mR h.n mS
  have mG2 := shortM mG
  have hl : ∀ z, 0 ≤ z → lastLe (short none (gapR R S)) z = lastLe S z - lastLe R z := fun z hz => by rw [shortM_last mG hz, last_gap mR h.n mS hz]
  have e : addR R (short none (gapR R S)) = (starts R (short none (gapR R S))).map fun m => (m, lastLe S m) := by
    unfold addR
    refine List.map_congr_left fun m hm => ?_
    rw [hl m (starts_bd mR mG2 m hm).1]
    congr 1
    omega
  have mT : RiseM none ((starts R (short none (gapR R S))).map fun m => (m, lastLe S m)) := riseM_starts mR h.n mG2
  rw [e]
  refine short_uniq (riseM_rising mT fun z _ => lastLe_bd h2 z) h2.r (by rw [Ne, List.map_eq_nil_iff]; exact starts_ne h.n) h2.n fun z hz => ?_
  refine last_map (f := fun m => lastLe S m) mR h.n mG2 hz fun y z' hy hyz hm => ?_
  have e1 := last_same (R := R) hyz fun p hp => hm p.1 (starts_mem.mpr (.inl (List.mem_map_of_mem hp)))
  have e2 := last_same (R := short none (gapR R S)) hyz fun p hp => hm p.1 (starts_mem.mpr (.inr (List.mem_map_of_mem hp)))
  rw [hl y hy, hl z' (by omega)] at e2
  omega
theorem short_nought : ∀ (l : List Int), short (some 0) (l.map fun m => (m, (0 : Int))) = []
  | [] => rfl
  | x :: l => by
    have e : short (some 0) ((x, (0 : Int)) :: l.map fun m => (m, (0 : Int))) = short (some 0) (l.map fun m => (m, (0 : Int))) := rfl
    rw [List.map_cons, e, short_nought l]
theorem gap_self {R : List (Int × Int)} (h : TabOk R) : short none (gapR R R) = [(0, 0)] := by
  have e : gapR R R = (starts R R).map fun m => (m, (0 : Int)) := List.map_congr_left fun m _ => by rw [Int.sub_self]
  have hh := starts_head (riseM_of h.r) h.n (riseM_of h.r)
  rw [e]
  cases hq : starts R R with
  | nil => rw [hq] at hh; cases hh
  | cons x l =>
    rw [hq] at hh
    cases hh
    have e2 : short none (((0 : Int), (0 : Int)) :: l.map fun m => (m, (0 : Int))) = (0, 0) :: short (some 0) (l.map fun m => (m, (0 : Int))) := rfl
    rw [List.map_cons, e2, short_nought]
theorem gap_bd {R S : List (Int × Int)} (h : TabOk R) (h2 : TabOk S) : GapR none (gapR R S) :=
  riseM_gap (riseM_starts (riseM_of h.r) h.n (riseM_of h2.r)) fun z _ => by
    have := lastLe_bd h z
    have := lastLe_bd h2 z
    omega
theorem gap_ok {R S : List (Int × Int)} (h : TabOk R) (h2 : TabOk S) : GapOk (short none (gapR R S)) := by
  refine ⟨short_ne (by unfold gapR; rw [Ne, List.map_eq_nil_iff]; exact starts_ne h.n), ?_, gapR_shortN (gap_bd h h2)⟩
  have h3 := short_len (gapR R S) none
  have h4 : (gapR R S).length = (starts R S).length := List.length_map _
  have l1 := h.l
  have l2 := h2.l
  cases R with
  | nil => exact absurd rfl h.n
  | cons p r =>
    cases S with
    | nil => exact absurd rfl h2.n
    | cons q s =>
      have := starts_len1 (R := r) (S := s) (show p.1 = q.1 by rw [first_nought h, first_nought h2])
      simp only [List.length_cons] at l1 l2
      omega
theorem add_rise {R S : List (Int × Int)} (h : TabOk R) (h2 : GapOk S) : RiseM none (addR R S) := riseM_starts (riseM_of h.r) h.n (gapR_M h2.r)
theorem add_ne {R S : List (Int × Int)} (h : TabOk R) : addR R S ≠ [] := by unfold addR; rw [Ne, List.map_eq_nil_iff]; exact starts_ne h.n
theorem add_len {R S : List (Int × Int)} : (addR R S).length ≤ R.length + S.length := by
  unfold addR
  rw [List.length_map]
  exact starts_len
end G

set_option linter.all false
set_option maxRecDepth 100000
namespace G
open PySem L2 TL NumText
/-! table texts read, or refused -/
def wordsL (l : List Nat) : List (List Nat) := spl [32] 0 [] l
def partsL (l : List Nat) : List (List Nat) := spl [59, 32] 0 [] l
theorem words_split {z : Str} : (PySem.Txt.split z (Str.ofString " ")).map tl = wordsL (tl z) := by
  rw [split_spl _ _ (by rw [tl_sp]; simp) (kind_ok (by decide +kernel)), tl_sp]
  rfl
theorem parts_split {z : Str} : (PySem.Txt.split z (Str.ofString "; ")).map tl = partsL (tl z) := by
  rw [split_spl _ _ (by rw [tl_semi]; simp) (kind_ok (by decide +kernel)), tl_semi]
  rfl
theorem spl_sub2 (S : List Nat) : ∀ (l : List Nat) (k : Nat) (acc : List Nat), ∀ p ∈ spl S k acc l, p.length ≤ acc.length + l.length ∧ ∀ c ∈ p, c ∈ acc ∨ c ∈ l
  | [], k, acc, p, h => by
    rw [spl_nil, List.mem_singleton] at h
    subst h
    exact ⟨by simp, fun c hc => .inl hc⟩
  | d :: r, 0, acc, p, h => by
    have e : spl S 0 acc (d :: r) = if pre S (d :: r) = true then acc :: spl S (S.length - 1) [] r else spl S 0 (acc ++ [d]) r := rfl
    rw [e] at h
    split at h
    · rcases List.mem_cons.mp h with rfl | h
      · exact ⟨by simp, fun c hc => .inl hc⟩
      · have := spl_sub2 S r _ _ p h
        refine ⟨by simp at this ⊢; omega, fun c hc => .inr ?_⟩
        rcases this.2 c hc with h | h
        · cases h
        · exact List.mem_cons_of_mem _ h
    · have := spl_sub2 S r _ _ p h
      refine ⟨by simp at this ⊢; omega, fun c hc => ?_⟩
      rcases this.2 c hc with h | h
      · rcases List.mem_append.mp h with h | h
        · exact .inl h
        · rw [List.mem_singleton] at h; subst h; exact .inr List.mem_cons_self
      · exact .inr (List.mem_cons_of_mem _ h)
  | d :: r, k + 1, acc, p, h => by
    have := spl_sub2 S r k acc p h
    refine ⟨by simp at this ⊢; omega, fun c hc => ?_⟩
    rcases this.2 c hc with h | h
    · exact .inl h
    · exact .inr (List.mem_cons_of_mem _ h)
theorem spl_num (S : List Nat) : ∀ (l : List Nat) (k : Nat) (acc : List Nat), (spl S k acc l).length ≤ l.length + 1
  | [], k, acc => by rw [spl_nil]; simp
  | d :: r, 0, acc => by
    have e : spl S 0 acc (d :: r) = if pre S (d :: r) = true then acc :: spl S (S.length - 1) [] r else spl S 0 (acc ++ [d]) r := rfl
    rw [e]
    split
    · have := spl_num S r (S.length - 1) []
      simp
      omega
    · have := spl_num S r 0 (acc ++ [d])
      simp
      omega
  | d :: r, k + 1, acc => by
    have := spl_num S r k acc
    show (spl S k acc r).length ≤ _
    simp
    omega
theorem tx_mem {n : Nat} {z : Str} : Tx n z ↔ (tl z).length ≤ n ∧ ∀ c ∈ tl z, c < 128 := by
  constructor
  · intro h
    refine ⟨by rw [← len_tl]; exact h.1, ?_⟩
    intro c hc
    exact h.2 c hc
  · rintro ⟨h1, h2⟩
    exact tx_of rfl h1 (List.all_eq_true.mpr fun c hc => decide_eq_true (h2 c hc))
theorem spl_tx {n : Nat} {z y : Str} {S : List Nat} (h : Tx n z) (hy : tl y ∈ spl S 0 [] (tl z)) : Tx n y := by
  have h0 := tx_mem.mp h
  have h2 := spl_sub2 S (tl z) 0 [] (tl y) hy
  have h3 := h2.1
  rw [List.length_nil] at h3
  refine tx_mem.mpr ⟨by omega, fun c hc => ?_⟩
  rcases h2.2 c hc with h | h
  · cases h
  · exact h0.2 c h
/-- a row read -/
def rowW (m : Option Int) (s : Option Int) : Option (Int × Int) := match m, s with
  | some m, some s => some (m, s)
  | _, _ => none
def rowP : List (List Nat) → Option (Int × Int)
  | [a, b] => rowW (clockIn a 0 1000000000) (shiftIn b)
  | _ => none
def rowIn (l : List Nat) : Option (Int × Int) := rowP (wordsL l)
theorem rowP_len {ws : List (List Nat)} (h : ws.length ≠ 2) : rowP ws = none := by
  unfold rowP
  split
  · exact absurd rfl h
  · rfl
theorem rowW_n1 {s : Option Int} : rowW none s = none := by unfold rowW; rfl
theorem rowW_n2 {m : Option Int} : rowW m none = none := by unfold rowW; cases m <;> rfl
theorem rowP_c {a b : List Nat} (h : clockIn a 0 1000000000 = none) : rowP [a, b] = none := by show rowW _ _ = none; rw [h]; exact rowW_n1
theorem rowP_s {a b : List Nat} (h : shiftIn b = none) : rowP [a, b] = none := by show rowW _ _ = none; rw [h]; exact rowW_n2
/-- the parts read: the rows, or the first bad place -/
def readP : Nat → List (List Nat) → Nat ⊕ List (Int × Int)
  | _, [] => .inr []
  | i, p :: r => match rowIn p with
    | none => .inl i
    | some q => match readP (i + 1) r with
      | .inl j => .inl j
      | .inr R => .inr (q :: R)
theorem readP_no {i : Nat} {p : List Nat} {r : List (List Nat)} (h : rowIn p = none) : readP i (p :: r) = .inl i := by
  show (match rowIn p with | none => _ | some q => _) = _
  rw [h]
theorem readP_yes {i : Nat} {p : List Nat} {r : List (List Nat)} {q : Int × Int} (h : rowIn p = some q) : readP i (p :: r) = (match readP (i + 1) r with | .inl j => .inl j | .inr R => .inr (q :: R)) := by
  show (match rowIn p with | none => _ | some q => _) = _
  rw [h]
theorem row_back {p : Int × Int} (h : 0 ≤ p.1 ∧ p.1 ≤ 1000000000 ∧ -2880 ≤ p.2 ∧ p.2 ≤ 2880) : rowIn (rowL p) = some p := by
  have e : wordsL (rowL p) = [clockL p.1, shiftL p.2] := by
    unfold wordsL rowL
    rw [show clockL p.1 ++ 32 :: shiftL p.2 = clockL p.1 ++ ([32] ++ shiftL p.2) from rfl, spl_part1 (clock_free (by omega)), spl_last1 (shift_free (by omega))]
    rfl
  unfold rowIn
  rw [e]
  show rowW _ _ = _
  have h1 : clockIn (clockL p.1) 0 1000000000 = some p.1 := (clock_back (by omega) (by omega) 0 1000000000).trans (if_pos ⟨h.1, h.2.1⟩)
  have h2 : shiftIn (shiftL p.2) = some p.2 := shift_own h.2.2.1 h.2.2.2
  rw [h1, h2]
  rfl
theorem readP_rows : ∀ (R : List (Int × Int)) (i : Nat) (ps : List (List Nat)), (∀ p ∈ R, 0 ≤ p.1 ∧ p.1 ≤ 1000000000 ∧ -2880 ≤ p.2 ∧ p.2 ≤ 2880) →
    readP i (R.map rowL ++ ps) = (match readP (i + R.length) ps with | .inl j => .inl j | .inr S => .inr (R ++ S))
  | [], i, ps, _ => by
    show readP i ps = match readP (i + 0) ps with | .inl j => .inl j | .inr S => .inr S
    rw [Nat.add_zero]
    cases readP i ps <;> rfl
  | p :: r, i, ps, h => by
    rw [List.map_cons, List.cons_append, readP_yes (row_back (h p List.mem_cons_self)), readP_rows r (i + 1) ps fun q hq => h q (List.mem_cons_of_mem _ hq), show i + 1 + r.length = i + (p :: r).length by simp; omega]
    cases readP (i + (p :: r).length) ps <;> rfl
/-- what a text is refused with: true a text's part, false a table's row -/
def readD (d : PyData) : Option (Bool × Int) := match d with
  | .str z => match readP 0 (partsL (tl z)) with
    | .inl i => some (true, (i : Int))
    | .inr R => (faultD (spD R)).map fun j => (false, j)
  | _ => some (true, 0)
/-- a text that is not too long, nor one of its parts -/
def TxP (z : Str) : Prop := Tx 10000 z ∧ (partsL (tl z)).length < 5000 ∧ ∀ l ∈ partsL (tl z), l.length ≤ 1000
theorem TxP.part {z y : Str} (h : TxP z) (hy : y ∈ PySem.Txt.split z (Str.ofString "; ")) : Tx 1000 y := by
  have h1 : tl y ∈ partsL (tl z) := by rw [← parts_split]; exact List.mem_map_of_mem hy
  have h2 := spl_tx (y := y) h.1 h1
  exact tx_mem.mpr ⟨h.2.2 _ h1, (tx_mem.mp h2).2⟩
theorem word_tx {n : Nat} {z y : Str} (h : Tx n z) (hy : y ∈ PySem.Txt.split z (Str.ofString " ")) : Tx n y :=
  spl_tx h (by have := List.mem_map_of_mem (f := tl) hy; rw [words_split] at this; exact this)
/-- no semicolon with a blank behind it -/
def noSb : List Nat → Bool
  | [] => true
  | c :: r => !(c == 59 && r.head? == some 32) && noSb r
theorem noSb_pre : ∀ {p q : List Nat} {i : Nat}, noSb p = true → q.head? ≠ some 32 → i < p.length → pre [59, 32] ((p ++ q).drop i) = false
  | c :: r, q, 0, h, hq, _ => by
    unfold noSb at h
    rw [Bool.and_eq_true, Bool.not_eq_true'] at h
    show ((c :: (r ++ q)).take 2 == [59, 32]) = false
    cases r with
    | nil =>
      cases q with
      | nil => simp
      | cons d q =>
        simp at hq
        simp
        intro _ e
        exact absurd e hq
    | cons d r =>
      simp at h ⊢
      exact h.1
  | c :: r, q, i + 1, h, hq, hi => by
    unfold noSb at h
    rw [Bool.and_eq_true] at h
    show pre [59, 32] ((r ++ q).drop i) = false
    exact noSb_pre h.2 hq (by simpa using hi)
theorem parts_join : ∀ {ps : List (List Nat)}, ps ≠ [] → (∀ p ∈ ps, noSb p = true) → partsL (joinL [59, 32] ps) = ps
  | [], h, _ => absurd rfl h
  | [p], _, hp => by
    show spl [59, 32] 0 [] p = [p]
    rw [spl_last fun i hi => by
      have z := noSb_pre (q := []) (hp p (by simp)) (by simp) hi
      rwa [List.append_nil] at z, List.nil_append]
  | p :: q :: r, _, hp => by
    show spl [59, 32] 0 [] (p ++ ([59, 32] ++ joinL [59, 32] (q :: r))) = p :: q :: r
    rw [spl_part (by simp) fun i hi => noSb_pre (hp p (by simp)) (by simp) hi, List.nil_append]
    have := parts_join (ps := q :: r) (by simp) fun x hx => hp x (List.mem_cons_of_mem _ hx)
    unfold partsL at this
    rw [this]
theorem noSb_free {l : List Nat} (h : 59 ∉ l) : noSb l = true := by
  induction l with
  | nil => rfl
  | cons c r ih =>
    unfold noSb
    rw [ih fun hm => h (List.mem_cons_of_mem _ hm), Bool.and_true, Bool.not_eq_true']
    have : c ≠ 59 := fun e => h (by rw [e]; exact List.mem_cons_self)
    simp [this]
theorem noSb_app {a b : List Nat} (h : 59 ∉ a) (k : noSb b = true) : noSb (a ++ b) = true := by
  induction a with
  | nil => exact k
  | cons c r ih =>
    show noSb (c :: (r ++ b)) = true
    unfold noSb
    rw [ih fun hm => h (List.mem_cons_of_mem _ hm), Bool.and_true, Bool.not_eq_true']
    have : c ≠ 59 := fun e => h (by rw [e]; exact List.mem_cons_self)
    simp [this]
theorem noSb_row (p : Int × Int) : noSb (rowL p) = true := noSb_free row_free
end G

set_option linter.all false
set_option maxRecDepth 100000
namespace G
open PySem L2 TL NumText
/-! parts that are nearly good -/
theorem words_one {a : List Nat} (h : 32 ∉ a) : wordsL a = [a] := by unfold wordsL; rw [spl_last1 h]; rfl
theorem words_cons {a b : List Nat} (h : 32 ∉ a) : wordsL (a ++ 32 :: b) = a :: wordsL b := by
  unfold wordsL
  rw [show a ++ 32 :: b = a ++ ([32] ++ b) from rfl, spl_part1 h]
  rfl
theorem words_two {a b : List Nat} (h : 32 ∉ a) (k : 32 ∉ b) : wordsL (a ++ 32 :: b) = [a, b] := by rw [words_cons h, words_one k]
theorem words_pos (l : List Nat) : 0 < (wordsL l).length := by
  unfold wordsL
  suffices h : ∀ acc, 0 < (spl [32] 0 acc l).length from h []
  intro acc
  induction l generalizing acc with
  | nil => rw [spl_nil]; simp
  | cons c r ih =>
    have e : spl [32] 0 acc (c :: r) = if pre [32] (c :: r) = true then acc :: spl [32] 0 [] r else spl [32] 0 (acc ++ [c]) r := rfl
    rw [e]
    split
    · simp
    · exact ih _
/-- three words or more -/
theorem row_three {a b c : List Nat} (h : 32 ∉ a) (k : 32 ∉ b) : rowIn (a ++ 32 :: (b ++ 32 :: c)) = none := by
  unfold rowIn
  rw [words_cons h, words_cons k]
  have := words_pos c
  refine rowP_len ?_
  simp
  intro e
  rw [e] at this
  simp at this
theorem row_one {a : List Nat} (h : 32 ∉ a) : rowIn a = none := by
  unfold rowIn
  rw [words_one h]
  exact rowP_len (by simp)
theorem row_c {a b : List Nat} (h : 32 ∉ a) (k : 32 ∉ b) (e : clockIn a 0 1000000000 = none) : rowIn (a ++ 32 :: b) = none := by
  unfold rowIn
  rw [words_two h k]
  exact rowP_c e
theorem row_s {a b : List Nat} (h : 32 ∉ a) (k : 32 ∉ b) (e : shiftIn b = none) : rowIn (a ++ 32 :: b) = none := by
  unfold rowIn
  rw [words_two h k]
  exact rowP_s e
theorem clock_parts {m : Int} (h0 : 0 ≤ m) : ∃ d a b, clockL m = d ++ 46 :: (a ++ 46 :: b) ∧ 46 ∉ d ∧ 46 ∉ a ∧ 46 ∉ b ∧ d ≠ [] ∧ (∀ c ∈ d, 48 ≤ c ∧ c ≤ 57) ∧ b.length = 2 := by
  refine ⟨numS (m / 1440), twoL (m % 1440 / 60), twoL (m % 1440 % 60), rfl, numS_free (by omega), two_free (by omega) (by omega) (by omega), two_free (by omega) (by omega) (by omega), ?_, ?_, rfl⟩
  · rw [numS_nn (by omega)]
    exact numL_ne _
  · rw [numS_nn (by omega)]
    exact numL_digits _
theorem shift_parts {s : Int} : ∃ c h b, shiftL s = c :: (h ++ 46 :: b) ∧ (c = 43 ∨ c = 45) ∧ 46 ∉ h ∧ 46 ∉ b ∧ h ≠ [] ∧ (∀ c ∈ h, 48 ≤ c ∧ c ≤ 57) ∧ b.length = 2 := by
  refine ⟨_, numS ((s.natAbs / 60 : Nat) : Int), twoL ((s.natAbs % 60 : Nat) : Int), rfl, ?_, numS_free (by omega), two_free (by omega) (by omega) (by omega), ?_, ?_, rfl⟩
  · split
    · exact .inr rfl
    · exact .inl rfl
  · rw [numS_nn (by omega)]
    exact numL_ne _
  · rw [numS_nn (by omega)]
    exact numL_digits _
theorem shift_more {s : Int} {c : Nat} (hc : c ≠ 46) : shiftIn (shiftL s ++ [c]) = none := by
  obtain ⟨g, h, b, e, hg, h1, h2, _, _, hb⟩ := shift_parts (s := s)
  rw [e]
  show shiftIn (g :: (h ++ 46 :: b ++ [c])) = none
  refine sn_two (a := h) (b := b ++ [c]) ?_ ?_
  · rw [List.append_assoc]
    exact dots_two h1 (by simp; exact ⟨h2, fun e => hc e.symm⟩)
  · rw [below_len (by simp [hb])]
    exact shiftOf_n2
theorem shift_head {s : Int} : shiftIn ((shiftL s).drop 1) = none := by
  obtain ⟨g, h, b, e, hg, h1, h2, hn, hf, hb⟩ := shift_parts (s := s)
  rw [e]
  show shiftIn (h ++ 46 :: b) = none
  cases h with
  | nil => exact absurd rfl hn
  | cons x r =>
    have := hf x List.mem_cons_self
    exact sn_head (by omega) (by omega)
theorem clock_shift {s : Int} {lo hi : Int} : clockIn (shiftL s) lo hi = none := by
  obtain ⟨g, h, b, e, hg, h1, h2, hn, hf, hb⟩ := shift_parts (s := s)
  rw [e]
  refine ck_len ?_
  rw [show g :: (h ++ 46 :: b) = (g :: h) ++ 46 :: b from rfl, dots_two (by simp; exact ⟨by omega, h1⟩) h2]
  simp
theorem plain_bad {c : Nat} {l : List Nat} (h : c ≠ 45 ∧ (c < 48 ∨ 57 < c)) : valO (c :: l) = none := by
  unfold valO plainL
  rw [figsL_n (by simp; exact h.1)]
  rw [if_neg]
  simp only [List.all_cons, Bool.and_eq_true, not_and]
  intro _ _ h1
  have := isFig_iff.mp h1.1
  omega
theorem plain_nought {l : List Nat} (h : l ≠ []) : valO (48 :: l) = none := by
  unfold valO plainL
  rw [figsL_n (by simp)]
  rw [if_neg]
  simp
  intro _ _ _ e
  exact h e
theorem clock_ahead {m : Int} (h0 : 0 ≤ m) {c : Nat} (h : c = 48 ∨ c = 59) : clockIn (c :: clockL m) 0 1000000000 = none := by
  obtain ⟨d, a, b, e, h1, h2, h3, hn, hf, hb⟩ := clock_parts h0
  rw [e]
  unfold clockIn
  rw [show c :: (d ++ 46 :: (a ++ 46 :: b)) = (c :: d) ++ 46 :: (a ++ 46 :: b) from rfl, dots_three (by simp; exact ⟨by omega, h1⟩) h2 h3]
  show clockOf _ _ _ _ _ = none
  have : valO (c :: d) = none := by
    rcases h with rfl | rfl
    · exact plain_nought hn
    · exact plain_bad (by omega)
  rw [this]
  exact clockOf_n1
theorem clock_more {m : Int} (h0 : 0 ≤ m) : clockIn (clockL m ++ [44]) 0 1000000000 = none := by
  obtain ⟨d, a, b, e, h1, h2, h3, hn, hf, hb⟩ := clock_parts h0
  rw [e]
  unfold clockIn
  rw [show d ++ 46 :: (a ++ 46 :: b) ++ [44] = d ++ 46 :: (a ++ 46 :: (b ++ [44])) by simp, dots_three h1 h2 (by simp; exact h3)]
  show clockOf _ _ _ _ _ = none
  have hz : belowO (b ++ [44]) 60 = none := below_len (by simp [hb])
  rw [hz]
  exact clockOf_n3
theorem clock_num {m : Int} : clockIn (numS m) 0 1000000000 = none := by
  refine ck_len ?_
  rw [dots_one (numS_free (by omega))]
  simp
theorem shift_num {s : Int} : shiftIn (numS s) = none := by
  by_cases h : 0 ≤ s
  · rw [numS_nn h]
    have := numL_ne s.toNat
    have hd := numL_digits s.toNat
    cases e : numL s.toNat with
    | nil => exact absurd e this
    | cons x r =>
      rw [e] at hd
      have := hd x List.mem_cons_self
      exact sn_head (by omega) (by omega)
  · rw [numS_neg (by omega)]
    refine sn_len ?_
    rw [dots_one (numL_free (by omega))]
    simp
theorem noSb_59 {l : List Nat} (h : l.head? ≠ some 32) (k : noSb l = true) : noSb (59 :: l) = true := by
  have e : (l.head? == some 32) = false := by rw [beq_eq_false_iff_ne]; exact h
  unfold noSb
  rw [k, e]
  rfl
abbrev lit (x : String) : List Nat := tl (Str.ofString x)
def badL (m s : Int) : List (List Nat) :=
  let C := clockL m; let S := shiftL s; let good := C ++ 32 :: S
  [[], [32], C, S, C ++ S, C ++ 32 :: (32 :: S), 32 :: good, good ++ [32], good ++ [10], good ++ [59]] ++
  [59 :: good, S ++ 32 :: C, 48 :: good, C ++ 32 :: S.drop 1, good ++ 32 :: S] ++
  [C ++ 59 :: S, C ++ 44 :: (32 :: S), lit "694444.10.41" ++ 32 :: S, lit "-1.23.59" ++ 32 :: S, lit "none"] ++
  [C ++ 32 :: lit "+48.01", C ++ 32 :: lit "-48.01", C ++ 32 :: lit "-0.00", C ++ 32 :: lit "+0.60", lit "0.24.00" ++ 32 :: S] ++
  [lit "0.00.60" ++ 32 :: S, numS m ++ 32 :: S, C ++ 32 :: numS s] ++
  [good ++ [48], good ++ 59 :: good]
theorem forall_app {α : Type} {P : α → Prop} {a b : List α} (h : ∀ x ∈ a, P x) (k : ∀ x ∈ b, P x) : ∀ x ∈ a ++ b, P x := fun x hx => (List.mem_append.mp hx).elim (h x) (k x)
theorem forall_c {α : Type} {P : α → Prop} {a : α} {b : List α} (h : P a) (k : ∀ x ∈ b, P x) : ∀ x ∈ a :: b, P x := fun x hx => (List.mem_cons.mp hx).elim (fun e => e ▸ h) (k x)
theorem forall_n {α : Type} {P : α → Prop} : ∀ x ∈ ([] : List α), P x := fun x hx => by cases hx
theorem bad_all {m s : Int} (h0 : 0 ≤ m) : ∀ l ∈ badL m s, noSb l = true ∧ rowIn l = none := by
  have cC : 32 ∉ clockL m := clock_free (by omega)
  have cS : 32 ∉ shiftL s := shift_free (by omega)
  have dC : 59 ∉ clockL m := clock_free (by omega)
  have dS : 59 ∉ shiftL s := shift_free (by omega)
  have eC : (clockL m).head? ≠ some 32 := fun e => cC (List.mem_of_mem_head? e)
  have eS : (shiftL s).head? ≠ some 32 := fun e => cS (List.mem_of_mem_head? e)
  have cN : 32 ∉ numS m := numS_free (by omega)
  have cN2 : 32 ∉ numS s := numS_free (by omega)
  have dN : 59 ∉ numS m := numS_free (by omega)
  have dN2 : 59 ∉ numS s := numS_free (by omega)
  have cd : 32 ∉ (shiftL s).drop 1 := fun h => cS (List.mem_of_mem_drop h)
  have dd : 59 ∉ (shiftL s).drop 1 := fun h => dS (List.mem_of_mem_drop h)
  have hgood : (clockL m ++ 32 :: shiftL s).head? ≠ some 32 := by
    obtain ⟨d, a, b, e, h1, h2, h3, hn, hf, hb⟩ := clock_parts h0
    rw [e] at eC ⊢
    cases d with
    | nil => exact absurd rfl hn
    | cons x r => exact eC
  unfold badL
  generalize hC : clockL m = C at *
  generalize hS : shiftL s = S at *
  have nf : ∀ {l : List Nat}, 59 ∉ l → noSb l = true := noSb_free
  have dg : 59 ∉ C ++ 32 :: S := by simp; exact ⟨dC, dS⟩
  refine forall_app (forall_app (forall_app (forall_app (forall_app ?_ ?_) ?_) ?_) ?_) ?_
  · refine forall_c ⟨rfl, by decide +kernel⟩ (forall_c ⟨rfl, by decide +kernel⟩ (forall_c ⟨nf dC, row_one cC⟩ (forall_c ⟨nf dS, row_one cS⟩ (forall_c ⟨nf (by simp; exact ⟨dC, dS⟩), row_one (by simp; exact ⟨cC, cS⟩)⟩ (forall_c ⟨nf (by simp; exact ⟨dC, dS⟩), row_three (b := []) cC (by simp)⟩ (forall_c ⟨nf (by simp; exact ⟨dC, dS⟩), row_three (a := []) (by simp) cC⟩ (forall_c ⟨nf (by simp; exact ⟨dC, dS⟩), ?_⟩ (forall_c ⟨nf (by simp; exact ⟨dC, dS⟩), ?_⟩ (forall_c ⟨noSb_app dg rfl, ?_⟩ forall_n)))))))))
    · have := row_three (c := []) cC cS
      simpa using this
    · have := row_s (b := S ++ [10]) cC (by simp; exact cS) (by rw [← hS]; exact shift_more (by omega))
      simpa using this
    · have := row_s (b := S ++ [59]) cC (by simp; exact cS) (by rw [← hS]; exact shift_more (by omega))
      simpa using this
  · refine forall_c ⟨?_, ?_⟩ (forall_c ⟨nf (by simp; exact ⟨dS, dC⟩), row_c cS cC (by rw [← hS]; exact clock_shift)⟩ (forall_c ⟨nf (by simp; exact ⟨dC, dS⟩), ?_⟩ (forall_c ⟨nf (by simp only [List.mem_append, List.mem_cons]; intro h; rcases h with h | h | h; exact dC h; cases h; exact dd h), row_s cC cd (by rw [← hS]; exact shift_head)⟩ (forall_c ⟨nf (by simp; exact ⟨dC, dS⟩), ?_⟩ forall_n))))
    · exact noSb_59 hgood (nf dg)
    · exact row_c (a := 59 :: C) (by simp; exact cC) cS (by rw [← hC]; exact clock_ahead h0 (.inr rfl))
    · exact row_c (a := 48 :: C) (by simp; exact cC) cS (by rw [← hC]; exact clock_ahead h0 (.inl rfl))
    · have := row_three (c := S) cC cS
      simpa using this
  · refine forall_c ⟨noSb_app dC ?_, row_one (by simp; exact ⟨cC, cS⟩)⟩ (forall_c ⟨nf (by simp; exact ⟨dC, dS⟩), ?_⟩ (forall_c ⟨noSb_app (by decide +kernel) (nf (by simp; exact dS)), row_c (by decide +kernel) cS (by decide +kernel)⟩ (forall_c ⟨noSb_app (by decide +kernel) (nf (by simp; exact dS)), row_c (by decide +kernel) cS (by decide +kernel)⟩ (forall_c ⟨by decide +kernel, by decide +kernel⟩ forall_n))))
    · exact noSb_59 eS (nf dS)
    · have := row_c (a := C ++ [44]) (b := S) (by simp; exact cC) cS (by rw [← hC]; exact clock_more h0)
      simpa using this
  · exact forall_c ⟨noSb_app dC (by decide +kernel), row_s cC (by decide +kernel) (by decide +kernel)⟩ (forall_c ⟨noSb_app dC (by decide +kernel), row_s cC (by decide +kernel) (by decide +kernel)⟩ (forall_c ⟨noSb_app dC (by decide +kernel), row_s cC (by decide +kernel) (by decide +kernel)⟩ (forall_c ⟨noSb_app dC (by decide +kernel), row_s cC (by decide +kernel) (by decide +kernel)⟩ (forall_c ⟨noSb_app (by decide +kernel) (nf (by simp; exact dS)), row_c (by decide +kernel) cS (by decide +kernel)⟩ forall_n))))
  · exact forall_c ⟨noSb_app (by decide +kernel) (nf (by simp; exact dS)), row_c (by decide +kernel) cS (by decide +kernel)⟩ (forall_c ⟨nf (by simp; exact ⟨dN, dS⟩), row_c cN cS clock_num⟩ (forall_c ⟨nf (by simp; exact ⟨dC, dN2⟩), row_s cC cN2 shift_num⟩ forall_n))
  · refine forall_c ⟨nf (by simp; exact ⟨dC, dS⟩), ?_⟩ (forall_c ⟨noSb_app dg ?_, ?_⟩ forall_n)
    · have := row_s (b := S ++ [48]) cC (by simp; exact cS) (by rw [← hS]; exact shift_more (by omega))
      simpa using this
    · exact noSb_59 hgood (nf dg)
    · have := row_three (a := C) (b := S ++ 59 :: C) (c := S) cC (by simp; exact ⟨cS, cC⟩)
      simpa using this
abbrev as128 (l : List Nat) : Bool := l.all (fun c => decide (c < 128))
theorem numS_as {n : Int} : as128 (numS n) = true := by
  refine List.all_eq_true.mpr fun c hc => decide_eq_true ?_
  by_cases h : 0 ≤ n
  · rw [numS_nn h] at hc
    have := numL_digits _ c hc
    omega
  · rw [numS_neg (by omega)] at hc
    rcases List.mem_cons.mp hc with rfl | hc
    · decide
    · have := numL_digits _ c hc
      omega
theorem numS_le {n : Int} (h1 : -(10 ^ 20) < n) (h2 : n < 10 ^ 20) : (numS n).length ≤ 21 := by
  by_cases h : 0 ≤ n
  · rw [numS_nn h]
    have := numL_len (n := n.toNat) (k := 20) (by decide) (by omega)
    omega
  · rw [numS_neg (by omega), List.length_cons]
    have := numL_len (n := (0 - n).toNat) (k := 20) (by decide) (by omega)
    omega
theorem bad_tx {m s : Int} (h : 0 ≤ m ∧ m ≤ 1000000000 ∧ -2880 ≤ s ∧ s ≤ 2880) : ∀ l ∈ badL m s, l.length ≤ 100 ∧ as128 l = true := by
  have c1 := clockL_tx (n := m) (by omega) (by omega)
  have c2 := shiftL_tx (n := s) h.2.2.1 h.2.2.2
  have n1 := numS_le (n := m) (by omega) (by omega)
  have n2 := numS_le (n := s) (by omega) (by omega)
  have a1 : as128 (numS m) = true := numS_as
  have a2 : as128 (numS s) = true := numS_as
  have a3 : as128 (clockL m) = true := c1.2
  have a4 : as128 (shiftL s) = true := c2.2
  have d4 : as128 ((shiftL s).drop 1) = true := List.all_eq_true.mpr fun c hc => List.all_eq_true.mp a4 c (List.mem_of_mem_drop hc)
  have e4 : ((shiftL s).drop 1).length ≤ 7 := by rw [List.length_drop]; omega
  have c1 := c1.1
  have c2 := c2.1
  unfold badL
  generalize clockL m = C at *
  generalize shiftL s = S at *
  generalize numS m = M at *
  generalize numS s = N at *
  have k1 : (lit "694444.10.41").length = 12 := by decide +kernel
  have k2 : (lit "-1.23.59").length = 8 := by decide +kernel
  have k3 : (lit "none").length = 4 := by decide +kernel
  have k4 : (lit "+48.01").length = 6 := by decide +kernel
  have k5 : (lit "-48.01").length = 6 := by decide +kernel
  have k6 : (lit "-0.00").length = 5 := by decide +kernel
  have k7 : (lit "+0.60").length = 5 := by decide +kernel
  have k8 : (lit "0.24.00").length = 7 := by decide +kernel
  have k9 : (lit "0.00.60").length = 7 := by decide +kernel
  have j1 : as128 (lit "694444.10.41") = true := by decide +kernel
  have j2 : as128 (lit "-1.23.59") = true := by decide +kernel
  have j3 : as128 (lit "none") = true := by decide +kernel
  have j4 : as128 (lit "+48.01") = true := by decide +kernel
  have j5 : as128 (lit "-48.01") = true := by decide +kernel
  have j6 : as128 (lit "-0.00") = true := by decide +kernel
  have j7 : as128 (lit "+0.60") = true := by decide +kernel
  have j8 : as128 (lit "0.24.00") = true := by decide +kernel
  have j9 : as128 (lit "0.00.60") = true := by decide +kernel
  unfold as128 at *
  refine forall_app (forall_app (forall_app (forall_app (forall_app ?_ ?_) ?_) ?_) ?_) ?_ <;> (repeat' (first | exact forall_n | refine forall_c ⟨?_, ?_⟩ ?_)) <;> first
    | assumption
    | omega
    | (simp only [List.length_append, List.length_cons, List.length_nil, k1, k2, k3, k4, k5, k6, k7, k8, k9] <;> omega)
    | (simp only [List.all_append, List.all_cons, List.all_nil, a1, a2, a3, a4, d4, j1, j2, j3, j4, j5, j6, j7, j8, j9] <;> decide)
theorem joined_ok {J : Str} {ls : List (List Nat)} (hJ : tl J = joinL [59, 32] ls) (h1 : ls ≠ []) (h2 : ∀ l ∈ ls, noSb l = true ∧ l.length ≤ 100 ∧ as128 l = true) (h3 : ls.length ≤ 60) : TxP J ∧ partsL (tl J) = ls := by
  have e : partsL (tl J) = ls := by rw [hJ]; exact parts_join h1 fun p hp => (h2 p hp).1
  have s1 : (ls.map List.length).sum ≤ (ls.map List.length).length * 100 := sum_le fun x hx => by
    obtain ⟨l, hl, rfl⟩ := List.mem_map.mp hx
    exact (h2 l hl).2.1
  rw [List.length_map] at s1
  have s2 := joinL_len [59, 32] ls
  refine ⟨⟨?_, ?_, ?_⟩, e⟩
  · refine tx_of hJ ?_ (joinL_all _ _ (by decide) fun p hp => (h2 p hp).2.2)
    simp at s2
    omega
  · rw [e]; omega
  · rw [e]
    exact fun l hl => by have := (h2 l hl).2.1; omega
theorem row_ok {p : Int × Int} (h : 0 ≤ p.1 ∧ p.1 ≤ 1000000000 ∧ -2880 ≤ p.2 ∧ p.2 ≤ 2880) : noSb (rowL p) = true ∧ (rowL p).length ≤ 100 ∧ as128 (rowL p) = true := by
  have := rowL_tx h
  exact ⟨noSb_row p, by omega, this.2⟩
theorem read_bad {R : List (Int × Int)} {d : Str} {b : List Nat} {r : List (List Nat)} (hR : ∀ p ∈ R, 0 ≤ p.1 ∧ p.1 ≤ 1000000000 ∧ -2880 ≤ p.2 ∧ p.2 ≤ 2880) (e : partsL (tl d) = R.map rowL ++ b :: r) (hb : rowIn b = none) : readD (.str d) = some (true, (R.length : Int)) := by
  show (match readP 0 (partsL (tl d)) with | .inl i => some (true, (i : Int)) | .inr R => (faultD (spD R)).map fun j => (false, j)) = _
  rw [e, readP_rows R 0 _ hR, readP_no hb, Nat.zero_add]
theorem read_rows {R : List (Int × Int)} {d : Str} {i : Int} (hR : ∀ p ∈ R, 0 ≤ p.1 ∧ p.1 ≤ 1000000000 ∧ -2880 ≤ p.2 ∧ p.2 ≤ 2880) (e : partsL (tl d) = R.map rowL) (h : faultD (spD R) = some i) : readD (.str d) = some (false, i) := by
  show (match readP 0 (partsL (tl d)) with | .inl i => some (true, (i : Int)) | .inr R => (faultD (spD R)).map fun j => (false, j)) = _
  have h2 := readP_rows R 0 [] hR
  rw [List.append_nil] at h2
  rw [e, h2]
  show (faultD (spD (R ++ []))).map _ = _
  rw [List.append_nil, h]
  rfl
end G

set_option linter.all false
set_option maxRecDepth 100000
namespace G
open PySem L2 TL NumText
/-! spans as texts, read or refused -/
def strP : Option (List Nat × List Nat) → List Nat → Option (Int × Int)
  | none, l => (valO l).map fun n => (n, n)
  | some (p, q), _ => match valO p, valO q with
    | some a, some b => if a < b then some (a, b) else none
    | _, _ => none
/-- a word of spans -/
def strW (l : List Nat) : Option (Int × Int) := strP (par [46, 46] [] l) l
def lastH8 (f : List (Int × Int)) : Option Int := f.getLast?.map (·.2)
def tooNear (f : List (Int × Int)) (p : Int × Int) : Bool := match lastH8 f with
  | some h => decide (p.1 < h + 2)
  | none => false
/-- the words read one behind another: refused at a word's place, or spans -/
def goS : Nat → List (Int × Int) → List (List Nat) → Nat ⊕ List (Int × Int)
  | _, f, [] => .inr f
  | i, f, l :: r => match strW l with
    | none => .inl i
    | some p => if tooNear f p = true then .inl i else goS (i + 1) (f ++ [p]) r
def readS (l : List Nat) : Nat ⊕ List (Int × Int) := if l = [] then .inr [] else goS 0 [] (wordsL l)
theorem tl_pp : tl (Str.ofString "..") = [46, 46] := by decide +kernel
theorem whole_far {z : Str} : wholeIn (.str z) (0 - 999999999999999999999999999999) 999999999999999999999999999999 = valO (tl z) := by
  show inB (0 - 999999999999999999999999999999) 999999999999999999999999999999 (valO (tl z)) = _
  cases e : valO (tl z) with
  | none => rfl
  | some n =>
    have := val_lt e
    unfold inB
    simp only []
    rw [if_pos (by omega)]
theorem val_out {l : List Nat} {c : Nat} (h : c ∈ l) (k : c < 45 ∨ c = 46 ∨ c = 47 ∨ 57 < c) : valO l = none := by
  have hp : plainL l = false := by
    cases hp : plainL l with
    | false => rfl
    | true =>
      exfalso
      unfold plainL at hp
      simp only [Bool.and_eq_true, decide_eq_true_eq] at hp
      obtain ⟨_, _, h3, _⟩ := hp
      have hd := all_fig h3
      by_cases hm : l.head? = some 45
      · rw [figsL_y hm] at hd
        cases l with
        | nil => cases h
        | cons d r =>
          cases hm
          rcases List.mem_cons.mp h with rfl | h
          · omega
          · have := hd c h
            omega
      · rw [figsL_n hm] at hd
        have := hd c h
        omega
  unfold valO
  rw [hp, if_neg (by decide)]
theorem spl_par (S : List Nat) (hS : S ≠ []) : ∀ (l acc : List Nat), spl S 0 acc l = (match par S acc l with
  | some (p, q) => p :: spl S 0 [] q
  | none => [acc ++ l])
  | [], acc => by rw [spl_nil]; show [acc] = [acc ++ []]; rw [List.append_nil]
  | c :: r, acc => by
    cases h : pre S (c :: r) with
    | true =>
      rw [spl_hit h, par_hit h, spl_pass]
      cases S with
      | nil => exact absurd rfl hS
      | cons s S => rfl
    | false =>
      rw [spl_miss h, par_miss h, spl_par S hS r (acc ++ [c])]
      cases par S (acc ++ [c]) r with
      | none => simp
      | some pq => rfl
theorem par_none {S l : List Nat} (hS : S ≠ []) (h : par S [] l = none) : spl S 0 [] l = [l] := by rw [spl_par S hS, h]; rfl
theorem par_sub (S : List Nat) : ∀ (l acc p q : List Nat), par S acc l = some (p, q) → ∃ m, acc ++ l = p ++ m ∧ ∃ k, q = (m.drop k)
  | [], acc, p, q, h => by cases h
  | c :: r, acc, p, q, h => by
    cases hp : pre S (c :: r) with
    | true =>
      rw [par_hit hp] at h
      cases h
      exact ⟨c :: r, rfl, _, rfl⟩
    | false =>
      rw [par_miss hp] at h
      obtain ⟨m, h1, h2⟩ := par_sub S r _ p q h
      exact ⟨m, by rw [← h1]; simp, h2⟩
theorem par_free {l acc : List Nat} {s : Nat} {S : List Nat} : s ∉ l → par (s :: S) acc l = none := by
  induction l generalizing acc with
  | nil => intro _; rfl
  | cons c r ih =>
    intro h
    rw [par_miss (pre_of_head S r fun e => h (by rw [e]; exact List.mem_cons_self))]
    exact ih fun e => h (List.mem_cons_of_mem _ e)
theorem par_app {s : Nat} {S q : List Nat} : ∀ (p acc : List Nat), s ∉ p → par (s :: S) acc (p ++ (s :: S) ++ q) = some (acc ++ p, q)
  | [], acc, _ => by
    have hp : pre (s :: S) (s :: (S ++ q)) = true := pre_self (s :: S) q
    show par (s :: S) acc (s :: (S ++ q)) = _
    rw [par_hit hp, List.append_nil]
    show some (acc, (S ++ q).drop S.length) = _
    rw [List.drop_left]
  | c :: r, acc, h => by
    show par (s :: S) acc (c :: (r ++ (s :: S) ++ q)) = _
    rw [par_miss (pre_of_head S _ fun e => h (by rw [e]; exact List.mem_cons_self)), par_app r _ fun e => h (List.mem_cons_of_mem _ e)]
    simp
/-- the word of a stretch -/
def stretchL (p : Int × Int) : List Nat := if p.1 = p.2 then numS p.1 else numS p.1 ++ [46, 46] ++ numS p.2
theorem num_free {n : Int} {c : Nat} (hc : c < 45 ∨ c = 46 ∨ c = 47 ∨ 57 < c) : c ∉ numS n := fun h => by
  by_cases hn : 0 ≤ n
  · rw [numS_nn hn] at h
    exact numL_free (by omega) h
  · rw [numS_neg (by omega)] at h
    rcases List.mem_cons.mp h with rfl | h
    · omega
    · exact numL_free (by omega) h
theorem str_back {p : Int × Int} (h1 : -(10 ^ 30) < p.1) (h2 : p.2 < 10 ^ 30) (h : p.1 ≤ p.2) : strW (stretchL p) = some p := by
  unfold strW stretchL
  by_cases c : p.1 = p.2
  · rw [if_pos c, par_free (num_free (by omega))]
    show (valO (numS p.1)).map _ = _
    rw [val_numS h1 (by omega)]
    show some (p.1, p.1) = some p
    rw [show (p.1, p.1) = p by rw [Prod.ext_iff]; exact ⟨rfl, c⟩]
  · rw [if_neg c, par_app _ _ (num_free (by omega))]
    show (match valO ([] ++ numS p.1), valO (numS p.2) with | some a, some b => if a < b then some (a, b) else none | _, _ => none) = _
    rw [List.nil_append, val_numS h1 (by omega), val_numS (by omega) h2]
    show (if p.1 < p.2 then some (p.1, p.2) else none) = some p
    rw [if_pos (by omega)]
theorem stretch_free {p : Int × Int} : 32 ∉ stretchL p := by
  unfold stretchL
  have h1 := num_free (n := p.1) (c := 32) (by omega)
  have h2 := num_free (n := p.2) (c := 32) (by omega)
  split
  · exact h1
  · simp [h1, h2]
theorem stretch_ne {p : Int × Int} : stretchL p ≠ [] := by
  have hn : ∀ n : Int, numS n ≠ [] := fun n => by
    by_cases hn : 0 ≤ n
    · rw [numS_nn hn]; exact numL_ne _
    · rw [numS_neg (by omega)]; exact List.cons_ne_nil _ _
  unfold stretchL
  split
  · exact hn _
  · intro e
    exact hn p.1 (by
      cases h : numS p.1 with
      | nil => rfl
      | cons c r => rw [h] at e; cases e)
/-- a text of words -/
def TxW (z : Str) : Prop := Tx 100000 z ∧ (wordsL (tl z)).length < 3000 ∧ ∀ l ∈ wordsL (tl z), l.length ≤ 1000
theorem TxW.word {z y : Str} (h : TxW z) (hy : y ∈ PySem.Txt.split z (Str.ofString " ")) : Tx 1000 y := by
  have h1 : tl y ∈ wordsL (tl z) := by rw [← words_split]; exact List.mem_map_of_mem hy
  have h2 := spl_tx (y := y) h.1 h1
  exact tx_mem.mpr ⟨h.2.2 _ h1, (tx_mem.mp h2).2⟩
theorem par_tx {n : Nat} {z : Str} {S p q : List Nat} (h : Tx n z) (e : par S [] (tl z) = some (p, q)) : Tx n ⟨p.toArray⟩ ∧ Tx n ⟨q.toArray⟩ := by
  obtain ⟨m, h1, k, rfl⟩ := par_sub S _ _ p q e
  rw [List.nil_append] at h1
  obtain ⟨h2, h3⟩ := tx_mem.mp h
  rw [h1] at h2 h3
  refine ⟨tx_mem.mpr ⟨?_, fun c hc => h3 c (List.mem_append_left _ hc)⟩, tx_mem.mpr ⟨?_, fun c hc => h3 c (List.mem_append_right _ (List.mem_of_mem_drop hc))⟩⟩
  · show p.length ≤ n
    rw [List.length_append] at h2
    omega
  · show (m.drop k).length ≤ n
    rw [List.length_append] at h2
    rw [List.length_drop]
    omega
theorem goS_none {i : Nat} {f : List (Int × Int)} {l : List Nat} {r : List (List Nat)} (h : strW l = none) : goS i f (l :: r) = .inl i := by
  show (match strW l with | none => _ | some p => _) = _
  rw [h]
theorem goS_some {i : Nat} {f : List (Int × Int)} {l : List Nat} {r : List (List Nat)} {p : Int × Int} (h : strW l = some p) : goS i f (l :: r) = if tooNear f p = true then .inl i else goS (i + 1) (f ++ [p]) r := by
  show (match strW l with | none => _ | some p => _) = _
  rw [h]
theorem near_nil {p : Int × Int} : tooNear [] p = false := rfl
theorem near_snoc {f : List (Int × Int)} {a b : Int} {p : Int × Int} : tooNear (f ++ [(a, b)]) p = decide (p.1 < b + 2) := by
  unfold tooNear lastH8
  rw [List.getLast?_append]
  rfl
/-- what spans_in tells of a thing: the place of the first word that can't stand -/
def readSD : PyData → Option Int
  | .str z => (match readS (tl z) with | .inl i => some (i : Int) | .inr _ => none)
  | _ => some 0
theorem str_one {p : Int × Int} (h : p.1 = p.2) : Str.ofString (toString p.1) = mkZ (stretchL p) := ext_tl (by
  rw [tl_mkZ]
  unfold stretchL
  rw [if_pos h]
  rfl)
theorem str_two {p : Int × Int} (h : ¬ p.1 = p.2) : Str.ofString (toString p.1) ++ Str.ofString ".." ++ Str.ofString (toString p.2) = mkZ (stretchL p) := ext_tl (by
  rw [tl_mkZ, tl_append, tl_append, tl_pp]
  unfold stretchL
  rw [if_neg h]
  rfl)
/-- the text of spans -/
def spansL (R : List (Int × Int)) : List Nat := joinL [32] (R.map stretchL)
def wordsZ (R : List (Int × Int)) : List Str := R.map fun p => mkZ (stretchL p)
theorem join_words (R : List (Int × Int)) : Str.join (Str.ofString " ") (wordsZ R) = mkZ (spansL R) := by
  refine ext_tl ?_
  unfold wordsZ
  rw [tl_join, tl_sp, List.map_map]
  rfl
def Near30 (R : List (Int × Int)) : Prop := ∀ p ∈ R, -(10 ^ 30) < p.1 ∧ p.1 ≤ p.2 ∧ p.2 < 10 ^ 30
theorem numS_tx {n : Int} (h : -(10 ^ 30) < n) (h2 : n < 10 ^ 30) : Tx 41 (mkZ (numS n)) := by
  have : mkZ (numS n) = Str.ofString (toString n) := ext_tl (tl_mkZ _)
  rw [this]
  exact tx_int (by have : (10 : Nat) ^ 30 < 10 ^ 40 := by decide
                   omega)
theorem stretch_tx {p : Int × Int} (h : -(10 ^ 30) < p.1 ∧ p.1 ≤ p.2 ∧ p.2 < 10 ^ 30) : Tx 84 (mkZ (stretchL p)) := by
  have h1 := numS_tx h.1 (by omega)
  have h2 := numS_tx (n := p.2) (by omega) h.2.2
  obtain ⟨a1, a2⟩ := tx_mem.mp h1
  obtain ⟨b1, b2⟩ := tx_mem.mp h2
  rw [tl_mkZ] at a1 a2 b1 b2
  refine tx_mem.mpr ⟨?_, fun c hc => ?_⟩
  · rw [tl_mkZ]
    unfold stretchL
    split
    · omega
    · rw [List.length_append, List.length_append]
      simp only [List.length_cons, List.length_nil]
      omega
  · rw [tl_mkZ] at hc
    unfold stretchL at hc
    split at hc
    · exact a2 c hc
    · rcases List.mem_append.mp hc with hc | hc
      · rcases List.mem_append.mp hc with hc | hc
        · exact a2 c hc
        · rcases List.mem_cons.mp hc with rfl | hc
          · decide
          · rcases List.mem_cons.mp hc with rfl | hc
            · decide
            · cases hc
      · exact b2 c hc
theorem words_len {R : List (Int × Int)} (h : Near30 R) : ((wordsZ R).map (·.length)).sum ≤ R.length * 84 := by
  have h1 : ((wordsZ R).map (·.length)).sum ≤ ((wordsZ R).map (·.length)).length * 84 := sum_le (by
    intro x hx
    obtain ⟨z, hz, rfl⟩ := List.mem_map.mp hx
    obtain ⟨p, hp, rfl⟩ := List.mem_map.mp hz
    exact (stretch_tx (h p hp)).1)
  rw [List.length_map] at h1
  unfold wordsZ at h1 ⊢
  rw [List.length_map] at h1
  exact h1
/-! the law's own reading of a word: its parts' values -/
def valsW (l : List Nat) : List (Option Int) := (spl [46, 46] 0 [] l).map valO
def strV : List (Option Int) → Option (Int × Int)
  | [some a] => some (a, a)
  | [some a, some b] => if a < b then some (a, b) else none
  | _ => none
theorem par_mem {l acc : List Nat} {s : Nat} {S : List Nat} {pq : List Nat × List Nat} (h : par (s :: S) acc l = some pq) : s ∈ l := by
  by_cases c : s ∈ l
  · exact c
  · rw [par_free c] at h; cases h
theorem strW_vals {l : List Nat} : strW l = strV (valsW l) := by
  unfold strW valsW
  rw [spl_par [46, 46] (by decide) l []]
  cases par [46, 46] [] l with
  | none =>
    show (valO l).map _ = strV [valO l]
    cases valO l <;> rfl
  | some pq =>
    obtain ⟨p, q⟩ := pq
    show (match valO p, valO q with | some a, some b => if a < b then some (a, b) else none | _, _ => none) = strV (valO p :: (spl [46, 46] 0 [] q).map valO)
    rw [spl_par [46, 46] (by decide) q []]
    cases h : par [46, 46] [] q with
    | none =>
      show _ = strV [valO p, valO q]
      cases valO p <;> cases valO q <;> rfl
    | some pq =>
      obtain ⟨p2, q2⟩ := pq
      rw [val_out (par_mem h) (by omega)]
      show _ = strV (valO p :: valO p2 :: (spl [46, 46] 0 [] q2).map valO)
      have hne : spl [46, 46] 0 [] q2 ≠ [] := by
        rw [spl_par [46, 46] (by decide) q2 []]
        cases par [46, 46] [] q2 <;> simp
      cases e : spl [46, 46] 0 [] q2 with
      | nil => exact absurd e hne
      | cons x r =>
        cases valO p <;> cases valO p2 <;> rfl
theorem vals_ne (l : List Nat) : valsW l ≠ [] := by
  unfold valsW
  rw [spl_par [46, 46] (by decide) l []]
  cases par [46, 46] [] l <;> simp
def oDt : Option Int → PyData
  | some n => .int n
  | none => .none
theorem rp_o {S : Hp} : ∀ a : Option Int, Rp S (oV a) (oDt a)
  | some n => .int n
  | none => .non
theorem rpa_o_inv {S : Hp} : ∀ {vs : List V} {xs : List (Option Int)}, RpA S vs (xs.map oDt) → vs = xs.map oV
  | [], [], _ => rfl
  | [], _ :: _, h => by cases h
  | _ :: _, [], h => by cases h
  | v :: vs, x :: xs, h => by
    cases h with
    | cons h1 h2 =>
      rw [rpa_o_inv h2]
      cases x with
      | none => cases h1; rfl
      | some n => rw [h1.int_inv]; rfl
theorem vals_split {z : Str} : (PySem.Txt.split z (Str.ofString "..")).map (fun y => valO (tl y)) = valsW (tl z) := by
  unfold valsW
  rw [← tl_pp, ← split_spl _ _ (by rw [tl_pp]; simp) (kind_ok (by decide +kernel)), List.map_map]
  rfl
theorem pp_tx {n : Nat} {z y : Str} (h : Tx n z) (hy : y ∈ PySem.Txt.split z (Str.ofString "..")) : Tx n y :=
  spl_tx (S := [46, 46]) h (by have := List.mem_map_of_mem (f := tl) hy; rw [split_spl _ _ (by rw [tl_pp]; simp) (kind_ok (by decide +kernel)), tl_pp] at this; exact this)
/-- what the law tells of a text -/
def dueD (l : List Nat) : PyData := match readS l with
  | .inl i => .tuple [.str (Str.ofString "refused"), .int (i : Int)]
  | .inr R => .tuple [.str (Str.ofString "read"), spD R]
theorem spl_len8 (S : List Nat) : ∀ (l : List Nat) (k : Nat) (acc : List Nat), (spl S k acc l).length ≤ l.length + 1
  | [], k, acc => by rw [spl_nil]; simp
  | c :: r, 0, acc => by
    cases h : pre S (c :: r) with
    | true =>
      rw [spl_hit h, List.length_cons]
      have := spl_len8 S r (S.length - 1) []
      rw [List.length_cons]
      omega
    | false =>
      rw [spl_miss h]
      have := spl_len8 S r 0 (acc ++ [c])
      rw [List.length_cons]
      omega
  | c :: r, k + 1, acc => by
    show (spl S k acc r).length ≤ _
    have := spl_len8 S r k acc
    rw [List.length_cons]
    omega
theorem vals_len8 (l : List Nat) : (valsW l).length ≤ l.length + 1 := by
  unfold valsW
  rw [List.length_map]
  exact spl_len8 _ _ _ _
theorem flat_o : ∀ xs : List (Option Int), (xs.map oV).all flatV = true
  | [] => rfl
  | x :: r => by
    rw [List.map_cons, List.all_cons, flat_o r]
    cases x <;> rfl
theorem in_o (xs : List (Option Int)) : inV .non (xs.map oV) = decide (none ∈ xs) := by
  induction xs with
  | nil => rfl
  | cons x r ih =>
    unfold inV at ih ⊢
    rw [List.map_cons, List.any_cons, ih]
    cases x with
    | none => simp [oV, eqV]
    | some n => simp [oV, eqV]
theorem strV_none : ∀ {xs : List (Option Int)}, none ∈ xs → strV xs = none
  | [], h => by cases h
  | [none], _ => rfl
  | [some a], h => by simp at h
  | [none, y], _ => by cases y <;> rfl
  | [some a, none], _ => rfl
  | [some a, some b], h => by simp at h
  | x :: y :: z :: r, _ => by cases x <;> cases y <;> rfl
theorem strV_long : ∀ {xs : List (Option Int)}, 2 < xs.length → strV xs = none
  | [], h => by simp at h
  | [x], h => by simp at h
  | [x, y], h => by simp at h
  | x :: y :: z :: r, _ => by cases x <;> cases y <;> rfl
theorem all_some : ∀ {xs : List (Option Int)}, none ∉ xs → ∃ ns : List Int, xs = ns.map some
  | [], _ => ⟨[], rfl⟩
  | none :: r, h => absurd List.mem_cons_self h
  | some a :: r, h => by
    obtain ⟨ns, rfl⟩ := all_some (xs := r) fun z => h (List.mem_cons_of_mem _ z)
    exact ⟨a :: ns, rfl⟩
theorem eqvAll_ints8 : ∀ (ns ms : List Int), PyData.eqvAll (ns.map PyData.int) (ms.map PyData.int) = decide (ns = ms)
  | [], [] => by simp [PyData.eqvAll]
  | [], _ :: _ => by simp [PyData.eqvAll]
  | _ :: _, [] => by simp [PyData.eqvAll]
  | a :: r, b :: s => by
    have h := eqvAll_ints8 r s
    simp only [List.map_cons, PyData.eqvAll, h]
    by_cases c : a = b
    · by_cases d : r = s <;> simp [c, d, PyData.eqv]
    · simp [c, PyData.eqv]
theorem eqv_ints8 (ns ms : List Int) : PyData.eqv (.list (ns.map PyData.int)) (.list (ms.map PyData.int)) = decide (ns = ms) := by
  simp only [PyData.eqv]
  exact eqvAll_ints8 ns ms
theorem strV_rise : ∀ {ns : List Int}, ns.Pairwise (· < ·) → ns ≠ [] → ns.length ≤ 2 → ¬ strV (ns.map some) = none
  | [], _, h, _ => absurd rfl h
  | [a], _, _, _ => by simp [strV]
  | [a, b], h, _, _ => by
    have : a < b := by simpa using h
    simp [strV, this]
  | _ :: _ :: _ :: _, _, _, h => by simp at h
theorem strV_some : ∀ {ns : List Int} {p : Int × Int}, strV (ns.map some) = some p → ns.Pairwise (· < ·) ∧ ((ns = [p.1] ∧ p.2 = p.1) ∨ ns = [p.1, p.2])
  | [], p, h => by cases h
  | [a], p, h => by
    cases h
    exact ⟨by simp, .inl ⟨rfl, rfl⟩⟩
  | [a, b], p, h => by
    by_cases c : a < b
    · have h1 : strV ([a, b].map some) = some (a, b) := by simp [strV, c]
      rw [h1] at h
      cases h
      exact ⟨by simpa using c, .inr rfl⟩
    · have h1 : strV ([a, b].map some) = none := by simp [strV, c]
      rw [h1] at h
      cases h
  | _ :: _ :: _ :: _, p, h => by cases h
/-- what is told of a thing -/
def toldD : PyData → PyData
  | .str z => dueD (tl z)
  | _ => .tuple [.str (Str.ofString "refused"), .int 0]
theorem told_at {d : PyData} {i : Int} (h : readSD d = some i) : toldD d = .tuple [.str (Str.ofString "refused"), .int i] := by
  cases d with
  | str z =>
    show dueD (tl z) = _
    have h' : (match readS (tl z) with | .inl i => some (i : Int) | .inr _ => none) = some i := h
    unfold dueD
    cases e : readS (tl z) with
    | inl j => rw [e] at h'; cases h'; rfl
    | inr R => rw [e] at h'; cases h'
  | _ => cases h; rfl
end G

set_option linter.all false
set_option maxRecDepth 100000
namespace G
open PySem L2 TL NumText
/-! what the spans' own texts tell -/
theorem words_join : ∀ {ls : List (List Nat)}, ls ≠ [] → (∀ l ∈ ls, 32 ∉ l) → wordsL (joinL [32] ls) = ls
  | [], h, _ => absurd rfl h
  | [p], _, h => words_one (h p (by simp))
  | p :: q :: r, _, h => by
    have ih := words_join (ls := q :: r) (by simp) fun l hl => h l (List.mem_cons_of_mem _ hl)
    show wordsL (p ++ 32 :: joinL [32] (q :: r)) = _
    rw [words_cons (h p (by simp)), ih]
theorem joinL_one_ne {p : List Nat} {r : List (List Nat)} (h : p ≠ []) : joinL [32] (p :: r) ≠ [] := by
  cases r with
  | nil => exact h
  | cons q r =>
    show p ++ _ ≠ []
    intro e
    exact h (List.append_eq_nil_iff.mp e).1
theorem goS_spans : ∀ {S f : List (Int × Int)} {i : Nat}, Sp (lastH8 f) S → Near30 S → goS i f (S.map stretchL) = .inr (f ++ S)
  | [], f, i, _, _ => by
    show Sum.inr f = Sum.inr (f ++ [])
    rw [List.append_nil]
  | q :: r, f, i, h, hN => by
    have hq := hN q List.mem_cons_self
    obtain ⟨h1, h2, h3⟩ := h
    rw [List.map_cons, goS_some (str_back hq.1 hq.2.2 h1)]
    have hn : tooNear f q = false := by
      unfold tooNear
      cases e : lastH8 f with
      | none => rfl
      | some x =>
        have := h2 x e
        exact decide_eq_false (by omega)
    rw [hn, if_neg (by decide), goS_spans (S := r) (f := f ++ [q]) (by
      have e : lastH8 (f ++ [q]) = some q.2 := by
        unfold lastH8
        rw [List.getLast?_append]
        rfl
      rw [e]
      exact h3) fun p hp => hN p (List.mem_cons_of_mem _ hp)]
    rw [List.append_assoc]
    rfl
theorem read_spans {R : List (Int × Int)} (h : Sp none R) (hN : Near30 R) : readS (spansL R) = .inr R := by
  cases R with
  | nil => rfl
  | cons q r =>
    have hne : spansL (q :: r) ≠ [] := joinL_one_ne stretch_ne
    unfold readS
    rw [if_neg hne]
    unfold spansL
    rw [words_join (by simp) fun l hl => by
      obtain ⟨p, _, rfl⟩ := List.mem_map.mp hl
      exact stretch_free]
    exact goS_spans (f := []) h hN
/-- a text joined of words -/
theorem joined_txw {us : List Str} (h : ∀ y ∈ us, Tx 100 y ∧ 32 ∉ tl y) (hl : us.length ≤ 200) : TxW (mkZ (joinL [32] (us.map tl))) := by
  have h1 := joinL_len [32] (us.map tl)
  have h2 : ((us.map tl).map List.length).sum ≤ ((us.map tl).map List.length).length * 100 := sum_le (by
    intro x hx
    obtain ⟨l, hl', rfl⟩ := List.mem_map.mp hx
    obtain ⟨y, hy, rfl⟩ := List.mem_map.mp hl'
    exact (tx_mem.mp (h y hy).1).1)
  have h3 := joinL_all (f := fun c => decide (c < 128)) [32] (us.map tl) (by decide) fun p hp => by
    obtain ⟨y, hy, rfl⟩ := List.mem_map.mp hp
    exact List.all_eq_true.mpr fun c hc => decide_eq_true ((tx_mem.mp (h y hy).1).2 c hc)
  rw [List.length_map, List.length_map] at h2
  rw [List.length_map, List.length_singleton] at h1
  refine ⟨tx_mem.mpr ⟨by rw [tl_mkZ]; omega, fun c hc => ?_⟩, ?_, fun l hl' => ?_⟩
  · rw [tl_mkZ] at hc
    exact of_decide_eq_true (List.all_eq_true.mp h3 c hc)
  · rw [tl_mkZ]
    cases us with
    | nil => decide
    | cons a r =>
      rw [words_join (by simp) fun l hl' => by
        obtain ⟨y, hy, rfl⟩ := List.mem_map.mp hl'
        exact (h y hy).2]
      rw [List.length_map]
      omega
  · rw [tl_mkZ] at hl'
    cases us with
    | nil =>
      have : l ∈ ([[]] : List (List Nat)) := hl'
      obtain rfl := List.mem_singleton.mp this
      decide
    | cons a r =>
      rw [words_join (by simp) fun l hl' => by
        obtain ⟨y, hy, rfl⟩ := List.mem_map.mp hl'
        exact (h y hy).2] at hl'
      obtain ⟨y, hy, rfl⟩ := List.mem_map.mp hl'
      have := (tx_mem.mp (h y hy).1).1
      omega
theorem sp_wide : ∀ {l : Option Int} {R : List (Int × Int)}, Sp l R → ∀ q ∈ R, q.1 ≤ q.2
  | _, [], _, q, h => by cases h
  | _, p :: r, h, q, hq => by
    obtain ⟨h1, _, h3⟩ := h
    rcases List.mem_cons.mp hq with rfl | hq
    · exact h1
    · exact sp_wide h3 q hq
theorem near_of {R rows : List (Int × Int)} (h : Sp none R) (hi : ∀ n, ins R n → ins rows n) (hb : ∀ q ∈ rows, -(10 ^ 30) < q.1 ∧ q.2 < 10 ^ 30) : Near30 R := fun p hp => by
  have hw := sp_wide h p hp
  obtain ⟨a, ha, h1, h2⟩ := hi p.1 ⟨p, hp, Int.le_refl _, hw⟩
  obtain ⟨b, hb', h3, h4⟩ := hi p.2 ⟨p, hp, hw, Int.le_refl _⟩
  have := hb a ha
  have := hb b hb'
  exact ⟨by omega, hw, by omega⟩
theorem joinL_cons {S p : List Nat} {l : List (List Nat)} (h : l ≠ []) : joinL S (p :: l) = p ++ (S ++ joinL S l) := by
  cases l with
  | nil => exact absurd rfl h
  | cons q r => rfl
theorem joinL_snoc {S x c : List Nat} : ∀ ls : List (List Nat), joinL S (ls ++ [x]) ++ c = joinL S (ls ++ [x ++ c])
  | [] => rfl
  | p :: r => by
    rw [List.cons_append, List.cons_append, joinL_cons (by simp), joinL_cons (by simp), ← joinL_snoc r]
    simp
/-- the spans' text with a line feed behind it -/
theorem spans_lf {R : List (Int × Int)} (hN : Near30 R) (hl : R.length ≤ 199) : ∃ us : List Str, tl (mkZ (spansL R) ++ Str.ofString "\n") = joinL [32] (us.map tl) ∧ (∀ y ∈ us, Tx 100 y ∧ 32 ∉ tl y) ∧ us.length ≤ 200 := by
  have hlf : tl (Str.ofString "\n") = [10] := by decide +kernel
  rw [tl_append, tl_mkZ, hlf]
  rcases List.eq_nil_or_concat R with rfl | ⟨T, q, rfl⟩
  · exact ⟨[Str.ofString "\n"], by decide +kernel, fun y hy => by
      obtain rfl := List.mem_singleton.mp hy
      exact ⟨tx_mem.mpr ⟨by decide +kernel, by decide +kernel⟩, by decide +kernel⟩, by decide⟩
  · rw [List.concat_eq_append] at *
    have hq := stretch_tx (hN q (by simp))
    obtain ⟨q1, q2⟩ := tx_mem.mp hq
    rw [tl_mkZ] at q1 q2
    refine ⟨wordsZ T ++ [mkZ (stretchL q ++ [10])], ?_, fun y hy => ?_, ?_⟩
    · unfold spansL wordsZ
      rw [List.map_append, List.map_append, List.map_map, List.map_cons, List.map_cons, List.map_nil, List.map_nil, joinL_snoc, tl_mkZ]
      rfl
    · rcases List.mem_append.mp hy with hy | hy
      · obtain ⟨p, hp, rfl⟩ := List.mem_map.mp hy
        refine ⟨(stretch_tx (hN p (by simp [hp]))).mono (by decide), ?_⟩
        rw [tl_mkZ]
        exact stretch_free
      · obtain rfl := List.mem_singleton.mp hy
        refine ⟨tx_mem.mpr ⟨by rw [tl_mkZ, List.length_append, List.length_singleton]; omega, fun c hc => ?_⟩, ?_⟩
        · rw [tl_mkZ] at hc
          rcases List.mem_append.mp hc with hc | hc
          · exact q2 c hc
          · obtain rfl := List.mem_singleton.mp hc
            decide
        · rw [tl_mkZ]
          intro hc
          rcases List.mem_append.mp hc with hc | hc
          · exact stretch_free hc
          · cases List.mem_singleton.mp hc
    · unfold wordsZ
      rw [List.length_append, List.length_map, List.length_singleton]
      rw [List.length_append, List.length_singleton] at hl
      omega
theorem lf_txw {R : List (Int × Int)} (hN : Near30 R) (hl : R.length ≤ 199) : TxW (mkZ (spansL R) ++ Str.ofString "\n") := by
  obtain ⟨us, h1, h2, h3⟩ := spans_lf hN hl
  rw [← show mkZ (joinL [32] (us.map tl)) = mkZ (spansL R) ++ Str.ofString "\n" from ext_tl (by rw [tl_mkZ, h1])]
  exact joined_txw h2 h3
theorem words_wd {R : List (Int × Int)} (hN : Near30 R) : ∀ y ∈ wordsZ R, Tx 100 y ∧ 32 ∉ tl y := fun y hy => by
  obtain ⟨p, hp, rfl⟩ := List.mem_map.mp hy
  refine ⟨(stretch_tx (hN p hp)).mono (by decide), ?_⟩
  rw [tl_mkZ]
  exact stretch_free
end G

set_option linter.all false
set_option maxRecDepth 100000
namespace G
open PySem L2 TL NumText
/-! what is told of spans' texts can be shown -/
def Bd30 (p : Int × Int) : Prop := -(10 ^ 30) < p.1 ∧ p.1 < 10 ^ 30 ∧ -(10 ^ 30) < p.2 ∧ p.2 < 10 ^ 30
theorem strW_bd {l : List Nat} {p : Int × Int} (h : strW l = some p) : Bd30 p := by
  unfold strW at h
  cases e : par [46, 46] [] l with
  | none =>
    rw [e] at h
    have h' : (valO l).map (fun n => (n, n)) = some p := h
    cases e2 : valO l with
    | none => rw [e2] at h'; cases h'
    | some n =>
      rw [e2] at h'
      cases h'
      have := val_lt e2
      exact ⟨this.1, this.2, this.1, this.2⟩
  | some pq =>
    obtain ⟨a, b⟩ := pq
    rw [e] at h
    have h' : (match valO a, valO b with | some a, some b => if a < b then some (a, b) else none | _, _ => none) = some p := h
    cases e2 : valO a with
    | none => rw [e2] at h'; cases h'
    | some n =>
      cases e3 : valO b with
      | none => rw [e2, e3] at h'; cases h'
      | some m =>
        rw [e2, e3] at h'
        have h2 : (if n < m then some (n, m) else none) = some p := h'
        split at h2
        · cases h2
          have := val_lt e2
          have := val_lt e3
          exact ⟨by omega, by omega, by omega, by omega⟩
        · cases h2
theorem goS_l : ∀ {ls : List (List Nat)} {i j : Nat} {f : List (Int × Int)}, goS i f ls = .inl j → j ≤ i + ls.length
  | [], i, j, f, h => by cases h
  | l :: r, i, j, f, h => by
    cases e : strW l with
    | none =>
      rw [goS_none e] at h
      cases h
      omega
    | some p =>
      rw [goS_some e] at h
      split at h
      · cases h
        omega
      · have := goS_l h
        rw [List.length_cons]
        omega
theorem goS_r : ∀ {ls : List (List Nat)} {i : Nat} {f R : List (Int × Int)}, goS i f ls = .inr R → (∀ p ∈ f, Bd30 p) → R.length ≤ f.length + ls.length ∧ ∀ p ∈ R, Bd30 p
  | [], i, f, R, h, hf => by
    cases h
    exact ⟨Nat.le_refl _, hf⟩
  | l :: r, i, f, R, h, hf => by
    cases e : strW l with
    | none =>
      rw [goS_none e] at h
      cases h
    | some p =>
      rw [goS_some e] at h
      split at h
      · cases h
      · have h2 := goS_r h (fun q hq => by
          rcases List.mem_append.mp hq with hq | hq
          · exact hf q hq
          · obtain rfl := List.mem_singleton.mp hq
            exact strW_bd e)
        refine ⟨?_, h2.2⟩
        have := h2.1
        rw [List.length_append, List.length_singleton] at this
        rw [List.length_cons]
        omega
theorem readS_l {l : List Nat} {j : Nat} (h : readS l = .inl j) (hl : (wordsL l).length < 3000) : j < 3001 := by
  unfold readS at h
  split at h
  · cases h
  · have := goS_l h
    omega
theorem readS_r {l : List Nat} {R : List (Int × Int)} (h : readS l = .inr R) (hl : (wordsL l).length < 3000) : R.length < 3000 ∧ ∀ p ∈ R, Bd30 p := by
  unfold readS at h
  split at h
  · cases h
    exact ⟨by decide, fun p hp => by cases hp⟩
  · have := goS_r h (fun p hp => by cases hp)
    rw [List.length_nil] at this
    exact ⟨by omega, this.2⟩
theorem short_int {n : Int} (h : -(10 ^ 30) < n) (h2 : n < 10 ^ 30) : PyData.leavesShort 50 (.int n) = true := by
  have : (10 : Nat) ^ 30 < 10 ^ 40 := by decide
  have := (tx_int (a := n) (by omega)).1
  unfold PyData.leavesShort
  refine decide_eq_true ?_
  have e : (PyData.shown (.int n)) = Str.ofString (toString n) := by simp only [PyData.shown]
  rw [e]
  omega
theorem short_rows : ∀ {R : List (Int × Int)}, (∀ p ∈ R, Bd30 p) → PyData.leavesShortAll 50 (R.map prD) = true
  | [], _ => by simp [PyData.leavesShortAll]
  | p :: r, h => by
    have hp := h p List.mem_cons_self
    have h1 := short_int hp.1 hp.2.1
    have h2 := short_int hp.2.2.1 hp.2.2.2
    have ih := short_rows (R := r) fun q hq => h q (List.mem_cons_of_mem _ hq)
    rw [List.map_cons]
    simp only [PyData.leavesShortAll, Bool.and_eq_true]
    refine ⟨?_, ih⟩
    show PyData.leavesShort 50 (.tuple [.int p.1, .int p.2]) = true
    simp only [PyData.leavesShort, PyData.leavesShortAll, Bool.and_eq_true] at h1 h2 ⊢
    exact ⟨h1, h2, trivial⟩
theorem bulk_rows : ∀ (R : List (Int × Int)), PyData.bulkAll (R.map prD) = 3 * R.length
  | [] => by simp [PyData.bulkAll]
  | p :: r => by
    rw [List.map_cons, List.length_cons]
    have e : PyData.bulkAll (prD p :: r.map prD) = PyData.bulk (prD p) + 1 + PyData.bulkAll (r.map prD) := by simp only [PyData.bulkAll]
    have e2 : PyData.bulk (prD p) = 2 := by simp only [PyData.bulk, PyData.bulkAll]
    rw [e, e2, bulk_rows r]
    omega
theorem show_int {n : Int} (h : -(10 ^ 30) < n) (h2 : n < 10 ^ 30) : PyData.showable (.int n) = true := by
  unfold PyData.showable
  exact decide_eq_true (log_small (by omega) (by omega))
theorem show_rows : ∀ {R : List (Int × Int)}, (∀ p ∈ R, Bd30 p) → PyData.showableAll (R.map prD) = true
  | [], _ => by simp [PyData.showableAll]
  | p :: r, h => by
    have hp := h p List.mem_cons_self
    have h1 := show_int hp.1 hp.2.1
    have h2 := show_int hp.2.2.1 hp.2.2.2
    have ih := show_rows (R := r) fun q hq => h q (List.mem_cons_of_mem _ hq)
    rw [List.map_cons]
    simp only [PyData.showableAll, Bool.and_eq_true]
    refine ⟨?_, ih⟩
    show PyData.showable (.tuple [.int p.1, .int p.2]) = true
    simp only [PyData.showable, PyData.showableAll, Bool.and_eq_true] at h1 h2 ⊢
    exact ⟨h1, h2, trivial⟩
/-- all that repr asks of a thing -/
def ShowD (d : PyData) : Prop := SeqAt.shaped d = true ∧ d.showable = true ∧ d.hasDict = false ∧ d.depth ≤ 60 ∧ d.shown.length ≤ sizeLine
theorem shaped_ti {z : Str} (h : PyData.strOk z = true) (i : Int) : SeqAt.shaped (.tuple [.str z, .int i]) = true := by
  have h2 : PyData.depth (.tuple [.str z, .int i]) ≤ 64 := by simp only [PyData.depth, PyData.depthAll]; omega
  show (PyData.canLay0 (.tuple [.str z, .int i]) && decide (PyData.depth (.tuple [.str z, .int i]) ≤ 64)) = true
  rw [Bool.and_eq_true]
  exact ⟨by simp [PyData.canLay0, PyData.canLayAll0, h], decide_eq_true h2⟩
theorem shaped_tr {z : Str} (h : PyData.strOk z = true) (R : List (Int × Int)) : SeqAt.shaped (.tuple [.str z, spD R]) = true := by
  have h1 := dep_prs R
  have h2 : PyData.depth (.tuple [.str z, spD R]) ≤ 64 := by simp only [PyData.depth, PyData.depthAll]; omega
  show (PyData.canLay0 (.tuple [.str z, spD R]) && decide (PyData.depth (.tuple [.str z, spD R]) ≤ 64)) = true
  rw [Bool.and_eq_true]
  have h3 := can_prs R
  exact ⟨by simp [PyData.canLay0, PyData.canLayAll0, h, h3], decide_eq_true h2⟩
theorem dep_rd {z : Str} (R : List (Int × Int)) : PyData.depth (.tuple [.str z, spD R]) ≤ 60 := by
  have h1 := dep_prs R
  simp only [PyData.depth, PyData.depthAll]
  omega
theorem due_show {l : List Nat} (hl : (wordsL l).length < 3000) : ShowD (dueD l) := by
  have hs : (16777216 : Nat) = sizeLine := sizeLine_eq.symm
  unfold dueD
  cases e : readS l with
  | inl j =>
    have hj := readS_l e hl
    have hk : SeqAt.shaped (.tuple [.str (Str.ofString "refused"), .int (j : Int)]) = true := shaped_ti (by decide +kernel) _
    refine ⟨hk, ?_, PyData.hasDict_of_canLay _ (SeqAt.canLay_of_shaped hk), ?_, ?_⟩
    · have h1 := show_int (n := (j : Int)) (by omega) (by omega)
      simp only [PyData.showable, PyData.showableAll, Bool.and_eq_true] at h1 ⊢
      exact ⟨trivial, h1, trivial⟩
    · simp only [PyData.depth, PyData.depthAll]
      omega
    · have h1 := short_int (n := (j : Int)) (by omega) (by omega)
      have h2 : PyData.leavesShort 50 (.str (Str.ofString "refused")) = true := by decide +kernel
      have h3 := PyData.shown_le_bulk 50 (by decide) (.tuple [.str (Str.ofString "refused"), .int (j : Int)]) (by
        simp only [PyData.leavesShort, PyData.leavesShortAll, Bool.and_eq_true] at h1 h2 ⊢
        exact ⟨h2, h1, trivial⟩)
      have h4 : PyData.bulk (.tuple [.str (Str.ofString "refused"), .int (j : Int)]) = 9 := by
        simp only [PyData.bulk, PyData.bulkAll]
        decide +kernel
      rw [h4] at h3
      show (PyData.tuple [PyData.str (Str.ofString "refused"), PyData.int (j : Int)]).shown.length ≤ sizeLine
      rw [← hs]
      omega
  | inr R =>
    obtain ⟨hR, hb⟩ := readS_r e hl
    have hk : SeqAt.shaped (.tuple [.str (Str.ofString "read"), spD R]) = true := shaped_tr (by decide +kernel) _
    refine ⟨hk, ?_, PyData.hasDict_of_canLay _ (SeqAt.canLay_of_shaped hk), dep_rd R, ?_⟩
    · have h1 := show_rows hb
      simp only [PyData.showable, PyData.showableAll, Bool.and_eq_true]
      exact ⟨trivial, h1, trivial⟩
    · have h1 := short_rows hb
      have h2 : PyData.leavesShort 50 (.str (Str.ofString "read")) = true := by decide +kernel
      have h3 := PyData.shown_le_bulk 50 (by decide) (.tuple [.str (Str.ofString "read"), spD R]) (by
        simp only [PyData.leavesShort, PyData.leavesShortAll, Bool.and_eq_true] at h1 h2 ⊢
        exact ⟨h2, h1, trivial⟩)
      have h5 : PyData.bulk (.str (Str.ofString "read")) = 4 := by decide +kernel
      have h4 : PyData.bulk (.tuple [.str (Str.ofString "read"), spD R]) = 3 * R.length + 6 := by
        have := bulk_rows R
        simp only [PyData.bulk, PyData.bulkAll] at h5 ⊢
        rw [this]
        omega
      rw [h4] at h3
      show (PyData.tuple [PyData.str (Str.ofString "read"), spD R]).shown.length ≤ sizeLine
      rw [← hs]
      omega
theorem s_reprS {K : PySem.W.Frag} {w : Wd} {x : V} {d : PyData} {Q : VK} (hx : Rp w.S x d) (ht : ∃ ds, d = .tuple ds) (h : ShowD d) (k : Q (.str d.shown) w.H) : SR.rRepr K [x] w.H Q := by
  obtain ⟨ds, rfl⟩ := ht
  obtain ⟨p, vs, rfl, _, _⟩ := hx.tuple_inv
  exact s_repr hx h.1 h.2.1 h.2.2.1 h.2.2.2.1 h.2.2.2.2 k
theorem due_tup (l : List Nat) : ∃ ds, dueD l = .tuple ds := by
  unfold dueD
  cases readS l with
  | inl i => exact ⟨_, rfl⟩
  | inr R => exact ⟨_, rfl⟩
end G

namespace G
open PySem L2
/-! the numbers of spans: plain -/
def totalP (rows : List (Int × Int)) : Int := (rows.map fun q => q.2 - q.1 + 1).sum
def firstFrom (rows : List (Int × Int)) (n : Int) : Option Int := (rows.find? fun q => decide (n ≤ q.2)).map fun q => max q.1 n
def lastTo (rows : List (Int × Int)) (n : Int) : Option Int := (rows.reverse.find? fun q => decide (q.1 ≤ n)).map fun q => min q.2 n
def hasB (rows : List (Int × Int)) : PyData → Bool
  | .int n => insB rows n
  | _ => false
def movedP (rows : List (Int × Int)) (b : Int) : List (Int × Int) := rows.map fun q => (q.1 + b, q.2 + b)
def turnedP (rows : List (Int × Int)) : List (Int × Int) := rows.reverse.map fun q => (0 - q.2, 0 - q.1)
theorem moved_0 (rows : List (Int × Int)) : movedP rows 0 = rows := by
  unfold movedP
  have : (fun q : Int × Int => (q.1 + 0, q.2 + 0)) = id := by funext q; simp
  rw [this, List.map_id]
theorem turned_2 (rows : List (Int × Int)) : turnedP (turnedP rows) = rows := by
  unfold turnedP
  rw [← List.map_reverse, List.reverse_reverse, List.map_map]
  have : ((fun q : Int × Int => (0 - q.2, 0 - q.1)) ∘ fun q : Int × Int => (0 - q.2, 0 - q.1)) = id := by
    funext q
    show (0 - (0 - q.1), 0 - (0 - q.2)) = q
    ext <;> simp <;> omega
  rw [this, List.map_id]
/-! the least of a list -/
theorem fold_min : ∀ (r : List Int) (n : Int), (r.foldl min n = n ∨ r.foldl min n ∈ r) ∧ r.foldl min n ≤ n ∧ ∀ y ∈ r, r.foldl min n ≤ y
  | [], n => ⟨.inl rfl, Int.le_refl _, fun y h => by cases h⟩
  | x :: r, n => by
    obtain ⟨h1, h2, h3⟩ := fold_min r (min n x)
    rw [List.foldl_cons]
    refine ⟨?_, by omega, fun y hy => ?_⟩
    · rcases h1 with h | h
      · by_cases c : n ≤ x
        · left; rw [h]; omega
        · right; rw [h, show min n x = x by omega]; exact List.mem_cons_self
      · exact .inr (List.mem_cons_of_mem _ h)
    · cases hy with
      | head => omega
      | tail _ hy => exact h3 y hy
theorem fold_max : ∀ (r : List Int) (n : Int), (r.foldl max n = n ∨ r.foldl max n ∈ r) ∧ n ≤ r.foldl max n ∧ ∀ y ∈ r, y ≤ r.foldl max n
  | [], n => ⟨.inl rfl, Int.le_refl _, fun y h => by cases h⟩
  | x :: r, n => by
    obtain ⟨h1, h2, h3⟩ := fold_max r (max n x)
    rw [List.foldl_cons]
    refine ⟨?_, by omega, fun y hy => ?_⟩
    · rcases h1 with h | h
      · by_cases c : x ≤ n
        · left; rw [h]; omega
        · right; rw [h, show max n x = x by omega]; exact List.mem_cons_self
      · exact .inr (List.mem_cons_of_mem _ h)
    · cases hy with
      | head => omega
      | tail _ hy => exact h3 y hy
def minO : List Int → Option Int
  | [] => none
  | n :: r => some (r.foldl min n)
def maxO : List Int → Option Int
  | [] => none
  | n :: r => some (r.foldl max n)
theorem minO_eq {L : List Int} {m : Int} (h : m ∈ L) (k : ∀ y ∈ L, m ≤ y) : minO L = some m := by
  cases L with
  | nil => cases h
  | cons n r =>
    obtain ⟨h1, h2, h3⟩ := fold_min r n
    have h4 : r.foldl min n ∈ n :: r := by
      rcases h1 with h1 | h1
      · rw [h1]; exact List.mem_cons_self
      · exact List.mem_cons_of_mem _ h1
    have h5 := k _ h4
    have h6 : r.foldl min n ≤ m := by
      cases h with
      | head => exact h2
      | tail _ h => exact h3 _ h
    show some _ = some _
    rw [show r.foldl min n = m by omega]
theorem maxO_eq {L : List Int} {m : Int} (h : m ∈ L) (k : ∀ y ∈ L, y ≤ m) : maxO L = some m := by
  cases L with
  | nil => cases h
  | cons n r =>
    obtain ⟨h1, h2, h3⟩ := fold_max r n
    have h4 : r.foldl max n ∈ n :: r := by
      rcases h1 with h1 | h1
      · rw [h1]; exact List.mem_cons_self
      · exact List.mem_cons_of_mem _ h1
    have h5 := k _ h4
    have h6 : m ≤ r.foldl max n := by
      cases h with
      | head => exact h2
      | tail _ h => exact h3 _ h
    show some _ = some _
    rw [show r.foldl max n = m by omega]
def aboveL (rows : List (Int × Int)) (n : Int) : List Int := (rows.filter fun q => decide (q.1 ≥ n)).map (·.1) ++ (if insB rows n then [n] else [])
def belowL (rows : List (Int × Int)) (n : Int) : List Int := (rows.filter fun q => decide (q.2 ≤ n)).map (·.2) ++ (if insB rows n then [n] else [])
theorem mem_above {rows : List (Int × Int)} {n y : Int} : y ∈ aboveL rows n ↔ (∃ q ∈ rows, q.1 = y ∧ n ≤ y) ∨ (ins rows n ∧ y = n) := by
  unfold aboveL
  rw [List.mem_append, List.mem_map]
  refine or_congr ⟨?_, ?_⟩ ?_
  · rintro ⟨q, h, rfl⟩
    rw [List.mem_filter] at h
    exact ⟨q, h.1, rfl, by simpa using h.2⟩
  · rintro ⟨q, h, rfl, h2⟩
    exact ⟨q, List.mem_filter.mpr ⟨h, by simpa using h2⟩, rfl⟩
  · by_cases c : insB rows n = true
    · rw [if_pos c]
      simp [insB_iff.mp c]
    · rw [if_neg c]
      have : ¬ ins rows n := fun z => c (insB_iff.mpr z)
      simp [this]
theorem mem_below {rows : List (Int × Int)} {n y : Int} : y ∈ belowL rows n ↔ (∃ q ∈ rows, q.2 = y ∧ y ≤ n) ∨ (ins rows n ∧ y = n) := by
  unfold belowL
  rw [List.mem_append, List.mem_map]
  refine or_congr ⟨?_, ?_⟩ ?_
  · rintro ⟨q, h, rfl⟩
    rw [List.mem_filter] at h
    exact ⟨q, h.1, rfl, by simpa using h.2⟩
  · rintro ⟨q, h, rfl, h2⟩
    exact ⟨q, List.mem_filter.mpr ⟨h, by simpa using h2⟩, rfl⟩
  · by_cases c : insB rows n = true
    · rw [if_pos c]
      simp [insB_iff.mp c]
    · rw [if_neg c]
      have : ¬ ins rows n := fun z => c (insB_iff.mpr z)
      simp [this]
theorem Sp.split : ∀ {A : List (Int × Int)} {q : Int × Int} {B : List (Int × Int)} {l : Option Int}, Sp l (A ++ q :: B) → (∀ s ∈ A, s.2 + 2 ≤ q.1) ∧ (∀ s ∈ B, q.2 + 2 ≤ s.1) ∧ q.1 ≤ q.2
  | [], q, B, _, h => ⟨(fun s hs => by cases hs), h.2.2.low, h.1⟩
  | p :: A, q, B, _, h => by
    obtain ⟨h1, h2, h3⟩ := Sp.split (A := A) h.2.2
    refine ⟨fun s hs => ?_, h2, h3⟩
    cases hs with
    | head => exact h.2.2.low q (by simp)
    | tail _ hs => exact h1 s hs
theorem first_min {rows : List (Int × Int)} {n : Int} (hs : Sp none rows) : minO (aboveL rows n) = firstFrom rows n := by
  unfold firstFrom
  cases e : rows.find? fun q => decide (n ≤ q.2) with
  | none =>
    have h : ∀ q ∈ rows, ¬ n ≤ q.2 := fun q hq => by simpa using List.find?_eq_none.mp e q hq
    have : aboveL rows n = [] := by
      refine List.eq_nil_iff_forall_not_mem.mpr fun y hy => ?_
      rcases mem_above.mp hy with ⟨q, hq, rfl, h2⟩ | ⟨⟨q, hq, h2, h3⟩, _⟩
      · have := h q hq
        have := hs.wf q hq
        omega
      · exact h q hq h3
    rw [this]
    rfl
  | some q =>
    obtain ⟨h1, A, B, rfl, h2⟩ := List.find?_eq_some_iff_append.mp e
    have h1 : n ≤ q.2 := by simpa using h1
    have h2 : ∀ s ∈ A, s.2 < n := fun s hs => by have := h2 s hs; simp at this; omega
    obtain ⟨k1, k2, k3⟩ := hs.split
    show _ = some (max q.1 n)
    refine minO_eq ?_ fun y hy => ?_
    · by_cases c : q.1 ≤ n
      · rw [show max q.1 n = n by omega]
        exact mem_above.mpr (.inr ⟨⟨q, by simp, c, h1⟩, rfl⟩)
      · rw [show max q.1 n = q.1 by omega]
        exact mem_above.mpr (.inl ⟨q, by simp, rfl, by omega⟩)
    · rcases mem_above.mp hy with ⟨s, hs', rfl, h3⟩ | ⟨⟨s, hs', h3, h4⟩, rfl⟩
      · rcases List.mem_append.mp hs' with m | m
        · have := h2 s m
          have := hs.wf s hs'
          omega
        · cases m with
          | head => omega
          | tail _ m =>
            have := k2 s m
            omega
      · rcases List.mem_append.mp hs' with m | m
        · have := h2 s m
          omega
        · cases m with
          | head => omega
          | tail _ m =>
            have := k2 s m
            omega
theorem last_max {rows : List (Int × Int)} {n : Int} (hs : Sp none rows) : maxO (belowL rows n) = lastTo rows n := by
  unfold lastTo
  cases e : rows.reverse.find? fun q => decide (q.1 ≤ n) with
  | none =>
    have h : ∀ q ∈ rows, ¬ q.1 ≤ n := fun q hq => by simpa using List.find?_eq_none.mp e q (List.mem_reverse.mpr hq)
    have : belowL rows n = [] := by
      refine List.eq_nil_iff_forall_not_mem.mpr fun y hy => ?_
      rcases mem_below.mp hy with ⟨q, hq, rfl, h2⟩ | ⟨⟨q, hq, h2, h3⟩, _⟩
      · have := h q hq
        have := hs.wf q hq
        omega
      · exact h q hq h2
    rw [this]
    rfl
  | some q =>
    obtain ⟨h1, A, B, e2, h2⟩ := List.find?_eq_some_iff_append.mp e
    have h1 : q.1 ≤ n := by simpa using h1
    have h2 : ∀ s ∈ A, n < s.1 := fun s hs => by have := h2 s hs; simp at this; omega
    have e3 : rows = B.reverse ++ q :: A.reverse := by
      have := congrArg List.reverse e2
      rw [List.reverse_reverse] at this
      rw [this]
      simp
    subst e3
    obtain ⟨k1, k2, k3⟩ := hs.split
    show _ = some (min q.2 n)
    refine maxO_eq ?_ fun y hy => ?_
    · by_cases c : n ≤ q.2
      · rw [show min q.2 n = n by omega]
        exact mem_below.mpr (.inr ⟨⟨q, by simp, h1, c⟩, rfl⟩)
      · rw [show min q.2 n = q.2 by omega]
        exact mem_below.mpr (.inl ⟨q, by simp, rfl, by omega⟩)
    · rcases mem_below.mp hy with ⟨s, hs', rfl, h3⟩ | ⟨⟨s, hs', h3, h4⟩, rfl⟩
      · rcases List.mem_append.mp hs' with m | m
        · have := k1 s m
          omega
        · cases m with
          | head => omega
          | tail _ m =>
            have := h2 s (List.mem_reverse.mp m)
            have := hs.wf s hs'
            omega
      · rcases List.mem_append.mp hs' with m | m
        · have := k1 s m
          omega
        · cases m with
          | head => omega
          | tail _ m =>
            have := h2 s (List.mem_reverse.mp m)
            omega
theorem first_drop {rows : List (Int × Int)} {n : Int} {i : Nat} {q : Int × Int} (h : rows[i]? = some q) : firstFrom (rows.drop i) n = if n ≤ q.2 then some (max q.1 n) else firstFrom (rows.drop (i + 1)) n := by
  unfold firstFrom
  rw [drop_at h, List.find?_cons]
  by_cases c : n ≤ q.2
  · simp [c]
  · simp [c]
theorem RpA.bools_inv {S : Hp} {α : Type} {f : α → Bool} : ∀ {vs : List V} {ns : List α}, RpA S vs (ns.map fun q => .bool (f q)) → vs = (ns.map f).map V.bl
  | _, [], h => by cases h; rfl
  | _, n :: ns, h => by
    cases h with
    | cons h1 h2 =>
      cases h1
      rw [RpA.bools_inv h2]
      rfl
theorem RpA.intsf_inv {S : Hp} {α : Type} {f : α → Int} {vs : List V} {ns : List α} (h : RpA S vs (ns.map fun q => .int (f q))) : vs = (ns.map f).map V.int := by
  have e : (ns.map fun q => PyData.int (f q)) = (ns.map f).map PyData.int := by rw [List.map_map]; rfl
  rw [e] at h
  exact RpA.ints_inv h
section
variable {K : PySem.W.Frag} {w : Wd} {a : Addr} {xs : List V} {Q : VK} {L : List Int}
theorem s_minO (h : w.H a = some (.lst xs)) (e : xs = L.map V.int) (k : Q (optV (minO L)) w.H) : rMinK K [.ref a] [.non] w.H Q := by
  subst e
  exact s_minK h (fun e => by subst e; exact k) fun n r e => by subst e; exact k
theorem s_maxO (h : w.H a = some (.lst xs)) (e : xs = L.map V.int) (k : Q (optV (maxO L)) w.H) : rMaxK K [.ref a] [.non] w.H Q := by
  subst e
  exact s_maxK h (fun e => by subst e; exact k) fun n r e => by subst e; exact k
end
theorem moved_take {rows : List (Int × Int)} {i : Nat} {q : Int × Int} {b : Int} (h : rows[i]? = some q) : movedP (rows.take (i + 1)) b = movedP (rows.take i) b ++ [(q.1 + b, q.2 + b)] := by
  unfold movedP
  rw [List.take_add_one, h]
  simp
theorem turned_take {rows : List (Int × Int)} {i : Nat} {q : Int × Int} (h : rows[i]? = some q) : turnedP (rows.take (i + 1)) = (0 - q.2, 0 - q.1) :: turnedP (rows.take i) := by
  unfold turnedP
  rw [List.take_add_one, h]
  simp
theorem totalP_take {rows : List (Int × Int)} {i : Nat} {q : Int × Int} (h : rows[i]? = some q) : totalP (rows.take (i + 1)) = totalP (rows.take i) + (q.2 - q.1 + 1) := by
  unfold totalP
  rw [List.take_add_one, h]
  simp
end G

set_option Elab.async false
set_option linter.all false
set_option maxRecDepth 100000
set_option maxHeartbeats 4000000
/-! the tactics (local) -/
open PySem L2 G TL NumText
local macro_rules | `(tactic| wtm_at "nm") => `(tactic| first
  | exact fun h => h
  | (refine nm_one ?_; wtm_at "ne")
  | (refine nm_two ?_ ?_ <;> wtm_at "ne")
  | (refine nm_thr ?_ ?_ ?_ <;> wtm_at "ne")
  | fail "nm")
local macro_rules | `(tactic| wtm_at "rd0") => `(tactic| first
  | assumption
  | (refine' Rd.go (by assumption) ?nm ?rd; (case nm => wtm_at "nm"); (case rd => wtm_at "rd0"))
  | fail "rd0")
local macro_rules | `(tactic| wtm_at "rd") => `(tactic| first
  | wtm_at "rd0"
  | (refine' Or.inl ?o; (case o => wtm_at "stb"))
  | (refine' Or.inr ?o; (case o => wtm_at "own"))
  | fail "rd")
local macro_rules | `(tactic| wtm_at "ne") => `(tactic| first
  | assumption
  | exact Ne.symm (by assumption)
  | (refine' Own.ne ?o ?n; (case n => assumption); (case o => wtm_at "own"))
  | (refine' Own.ne' ?o ?n; (case n => assumption); (case o => wtm_at "own"))
  | (refine' own_ne ?o1 ?o2 ?d; (case o1 => assumption); (case o2 => assumption); (case d => exact fun z => by cases z))
  | (refine' Rd.ne ?o ?n; (case n => assumption); (case o => wtm_at "rd0"))
  | (refine' Rd.ne' ?o ?n; (case n => assumption); (case o => wtm_at "rd0"))
  | fail "ne")
local macro_rules | `(tactic| wtm_at "own") => `(tactic| first
  | assumption
  | (refine' Own.ext (by assumption) ?nm ?ow; (case nm => wtm_at "nm"); (case ow => wtm_at "own"))
  | fail "own")
local macro_rules | `(tactic| wtm_at "stb") => `(tactic| first
  | assumption
  | (refine' st_go (by assumption) ?st; (case st => wtm_at "stb"))
  | fail "stb")
local macro_rules | `(tactic| wtm_at "rp") => `(tactic| first
  | assumption
  | exact Rp.int _ | exact Rp.str _ | exact Rp.bl _ | exact Rp.non
  | (refine' Rp.tup ?s ?r; (case s => wtm_at "stb"); (case r => wtm_at "rpa"))
  | (refine' Rp.lst ?s ?r; (case s => wtm_at "stb"); (case r => wtm_at "rpa"))
  | (refine' Rp.dct ?s; (case s => wtm_at "stb"))
  | (refine' Rp.go (by assumption) ?rp; (case rp => wtm_at "rp"))
  | fail "rp")
local macro_rules | `(tactic| wtm_at "rpa") => `(tactic| first
  | assumption
  | exact RpA.nil
  | (refine' RpA.append ?r1 ?r2; (case r1 => wtm_at "rpa"); (case r2 => wtm_at "rpa"))
  | (refine' RpA.cut ?r1 _ _; (case r1 => wtm_at "rpa"))
  | (refine' RpA.reverse ?r1; (case r1 => wtm_at "rpa"))
  | (refine' RpA.cons ?r1 ?r2; (case r1 => wtm_at "rp"); (case r2 => wtm_at "rpa"))
  | (refine' RpA.go (by assumption) ?rp; (case rp => wtm_at "rpa"))
  | fail "rpa")
local macro_rules | `(tactic| wtm_at "sq") => `(tactic| first
  | assumption
  | (refine' SqL.of (Wd.ok _ _ _ ?o); (case o => wtm_at "stb"))
  | (refine' SqL.of (Own.h ?o); (case o => wtm_at "own"))
  | (refine' sq_go (by assumption) ?sq; (case sq => wtm_at "sq"))
  | (refine' SqL.of (Rd.h ?o); (case o => wtm_at "rd0"))
  | fail "sq")
local macro_rules | `(tactic| wtm_at "sqt") => `(tactic| first
  | assumption
  | (refine' sqt_of ?o; (case o => wtm_at "stb"))
  | fail "sqt")
/-- from the world w at hand back to an earlier one: the touched cells are new to it, or may be touched -/
local macro_rules | `(tactic| wtm_at "fr") => `(tactic| first
  | assumption
  | (refine' Ext.back (by assumption) ?fr; (case fr => wtm_at "fr"))
  | fail "fr")
local macro_rules | `(tactic| wtm_at "tch") => `(tactic| first
  | exact fun _ z => z.elim
  | (refine tch_one ?t; (first | (refine Or.inr ?_; first | rfl | exact Or.inl rfl | exact Or.inr rfl | exact Or.inr (Or.inl rfl) | exact Or.inr (Or.inr rfl)) | (refine Or.inl ?_; wtm_at "fr")))
  | (refine tch_two ?t1 ?t2 <;> (first | (refine Or.inr ?_; first | rfl | exact Or.inl rfl | exact Or.inr rfl | exact Or.inr (Or.inl rfl) | exact Or.inr (Or.inr rfl)) | (refine Or.inl ?_; wtm_at "fr")))
  | (refine tch_thr ?t1 ?t2 ?t3 <;> (first | (refine Or.inr ?_; first | rfl | exact Or.inl rfl | exact Or.inr (Or.inl rfl) | exact Or.inr (Or.inr rfl)) | (refine Or.inl ?_; wtm_at "fr")))
  | fail "tch")
local macro_rules | `(tactic| wtm_at "ch") => `(tactic| first
  | exact Ext.refl _ _
  | assumption
  | (refine' Ext.step ?a ?b ?t; (case b => assumption); (case a => wtm_at "ch"); (case t => wtm_at "tch"))
  | fail "ch")
local macro_rules | `(tactic| wtm_at "lb") => `(tactic| first
  | (refine' len_app ?a ?b; (case a => wtm_at "lb"); (case b => wtm_at "lb"))
  | (refine' len_cut ?a; (case a => wtm_at "lb"))
  | (refine' len_rev ?a; (case a => wtm_at "lb"))
  | exact Nat.le_refl _
  | fail "lb")
local macro_rules | `(tactic| wtm_at "ar") => `(tactic| first
  | assumption | omega | (simp only [List.length_append, List.length_cons, List.length_nil, List.length_map, List.length_reverse, List.length_replicate, sizeLine_eq]; omega)
  | (refine' z_cat ?h1 ?h2 ?k; (case h1 => wtm_at "lb"); (case h2 => wtm_at "lb"); (case k => (simp only [List.length_append, List.length_cons, List.length_nil, List.length_map, List.length_reverse, sizeLine_eq]; omega)))
  | fail "ar")
local macro_rules | `(tactic| wtm_at "go1") => `(tactic| first
  | with_reducible refine s_seq ?_
  | with_reducible refine s_asg ?_
  | ((with_reducible refine' s_gname ?e ?k); (case e => first | (simp only [List.set_cons_succ, List.set_cons_zero]; exact rfl) | exact rfl))
  | ((with_reducible refine' s_var ?e ?k); (case e => exact rfl))
  | with_reducible refine s_c ?_
  | with_reducible refine s_op ?_
  | with_reducible refine s_CB ?_
  | with_reducible refine s_cons ?_
  | with_reducible refine s_nil ?_
  | with_reducible refine s_ifS ?_
  | with_reducible refine s_test ?_
  | with_reducible refine s_B ?_
  | with_reducible refine s_bl ?_
  | with_reducible refine s_and ?_
  | with_reducible refine s_or ?_
  | with_reducible refine s_not ?_
  | with_reducible refine s_andV ?_
  | with_reducible refine s_orV ?_
  | with_reducible refine s_notV ?_
  | with_reducible refine s_ret ?_
  | with_reducible refine s_retN ?_
  | with_reducible refine s_next ?_
  | with_reducible refine s_drop ?_
  | with_reducible refine s_call ?_
  | with_reducible refine s_add ?_
  | with_reducible refine s_sub ?_
  | ((with_reducible refine s_mul ?h ?k); (case h => wtm_at "mul"))
  | ((with_reducible refine s_div ?h ?k); (case h => wtm_at "div"))
  | ((with_reducible refine s_mod ?h ?k); (case h => wtm_at "ar"))
  | ((with_reducible refine' s_powN ?h ?e ?k); (case h => exact ⟨by decide, by decide, by decide⟩); (case e => first | exact p10_8 | exact p10_18 | exact p10_30 | exact p10_22 | exact p10_6 | exact p10_9 | exact p10_10 | exact p10_12 | exact p10_14 | exact p10_15 | exact p10_7 | exact p10_25 | exact p10_27 | exact p10_29 | exact p10_11 | exact p10_1 | exact p10_2 | exact p10_3 | exact p10_4 | exact p10_5 | exact p10_13 | exact p10_16 | exact p10_17 | exact p10_19 | exact p10_20 | exact p10_21 | exact p10_23 | exact p10_24 | exact p10_26 | exact p10_28 | exact p10_31))
  | with_reducible refine s_lt ?_
  | with_reducible refine s_le ?_
  | with_reducible refine s_gt ?_
  | with_reducible refine s_ge ?_
  | with_reducible refine s_eqI ?_
  | with_reducible refine s_eqS ?_
  | with_reducible refine s_eqB ?_
  | with_reducible refine s_neI ?_
  | with_reducible refine s_neS ?_
  | with_reducible refine s_neBs ?_
  | with_reducible refine s_isB ?_
  | with_reducible refine s_notB ?_
  | ((with_reducible refine' s_ninS2 ?r ?k); (case r => wtm_at "stb"))
  | with_reducible refine s_iEnum ?_
  | ((with_reducible refine' s_isiC ?h ?c ?i ?k); (case h => wtm_at "hh"); (case c => assumption); (case i => assumption))
  | with_reducible refine s_isNN ?_
  | with_reducible refine s_isIN ?_
  | with_reducible refine s_isRN ?_
  | with_reducible refine s_isSN ?_
  | with_reducible refine s_notNN ?_
  | with_reducible refine s_notIN ?_
  | with_reducible refine s_notRN ?_
  | with_reducible refine s_notSN ?_
  | with_reducible refine s_isN ?_
  | with_reducible refine s_notN ?_
  | with_reducible refine s_max ?_
  | ((with_reducible refine' s_str ?h ?k); (case h => exact log_small (by omega) (by omega)))
  | with_reducible refine s_min ?_
  | with_reducible refine s_abs ?_
  | with_reducible refine s_inti ?_
  | with_reducible refine s_intt ?_
  | with_reducible refine s_intf ?_
  | with_reducible refine s_intb ?_
  | with_reducible refine s_un ?_
  | with_reducible refine s_neg ?_
  | with_reducible refine t_tup ?_
  | with_reducible refine t_lst ?_
  | ((with_reducible refine' t_newT ?h ?k); (case h => wtm_at "len"); (intro _p _v _e _n _s))
  | ((with_reducible refine' t_newL ?h ?k); (case h => wtm_at "len"); (intro _p _v _e _n _o))
  | with_reducible refine s_chain ?_
  | with_reducible refine s_ifE ?_
  | with_reducible refine s_sl ?_
  | with_reducible refine s_nopart ?_
  | with_reducible refine s_part ?_
  | with_reducible refine s_int ?_
  | with_reducible refine s_dget ?_
  | with_reducible refine s_dput ?_
  | with_reducible refine s_BM ?_
  | with_reducible refine s_BM0 ?_
  | with_reducible refine s_for ?_
  | with_reducible refine s_iList ?_
  | with_reducible refine s_iTup ?_
  | with_reducible refine s_iRng1 ?_
  | with_reducible refine s_iStr ?_
  | with_reducible refine s_Lc ?_
  | with_reducible refine s_pr1 ?_
  | with_reducible refine s_pr2 ?_
  | with_reducible refine s_pr3 ?_
  | with_reducible refine s_pr4 ?_
  | with_reducible refine s_pr0 ?_
  | with_reducible refine wds_i ?_
  | wtm_at "isi"
  | ((with_reducible refine' s_lenT ?r ?k); (case r => wtm_at "stb"))
  | ((with_reducible refine' s_lenL ?r ?k); (case r => wtm_at "stb"))
  | ((with_reducible refine' s_lenO ?r ?k); (case r => wtm_at "own"))
  | ((with_reducible refine' s_ixT ?r ?e ?k); (case r => wtm_at "stb"); (case e => exact rfl))
  | ((with_reducible refine' s_ixL ?r ?e ?k); (case r => wtm_at "stb"); (case e => exact rfl))
  | ((with_reducible refine' s_ixO ?r ?e ?k); (case r => wtm_at "own"); (case e => exact rfl))
  | ((with_reducible refine' s_ixO ?r ?e ?k); (case r => wtm_at "own"); (case e => exact atI_snoc))
  | ((with_reducible refine' s_ixO ?r ?e ?k); (case r => wtm_at "own"); (case e => exact atI_back (by simp)))
  | ((with_reducible refine' s_gtup ?r ?e ?k); (case r => wtm_at "stb"); (case e => exact rfl))
  | ((with_reducible refine' s_lenR ?r ?k); (case r => wtm_at "rd0"))
  | ((with_reducible refine' s_ixA ?r ?e ?k); (case r => wtm_at "rd0"); (case e => assumption))
  | ((with_reducible refine' s_augA ?e ?e2 ?k); (case e => exact rfl); (case e2 => (simp only [List.set_cons_succ, List.set_cons_zero]; exact rfl)))
  | with_reducible refine s_whN ?_
  | ((with_reducible refine' s_fnv ?k); (intro _f _hf))
  | ((with_reducible refine' s_callH ?e ?h ?k); (case e => exact rfl); (case h => assumption))
  | with_reducible refine s_pn1 ?_
  | ((with_reducible refine' s_lenZ ?h ?k); (case h => wtm_at "txz"))
  | ((with_reducible refine' s_addZ ?h ?k); (case h => wtm_at "txs"))
  | ((with_reducible refine' s_slZ ?h ?k); (case h => wtm_at "txz"))
  | with_reducible refine s_inZ ?_
  | with_reducible refine s_ninZ ?_
  | with_reducible refine s_leZ ?_
  | with_reducible refine s_fld ?_
  | ((with_reducible refine' s_rfld ?h ?c ?n ?l ?k); (case h => wtm_at "hh"); (case c => assumption); (case n => assumption); (case l => wtm_at "lkp"))
  | with_reducible refine s_sfld ?_
  | ((with_reducible refine' s_rsfl ?h ?c ?n ?z ?e ?k); (case h => wtm_at "own"); (case c => assumption); (case n => assumption); (case z => (simp only [List.length_cons, List.length_nil]; try omega)); (case e => wtm_at "pf"); (intro _v _e _o))
  | with_reducible refine s_meth ?_
  | ((with_reducible refine' s_rmeth ?h ?l ?k); (case h => wtm_at "hh"); (case l => wtm_at "lkp"))
  | with_reducible refine s_make ?_
  | with_reducible refine s_pm1 ?_
  | with_reducible refine s_pm2 ?_
  | with_reducible refine s_pm3 ?_
  | ((with_reducible refine' s_isiT2 ?s ?h ?e1 ?e2 ?k); (case s => wtm_at "stb"); (case h => wtm_at "rp"); (case e1 => first | exact isT_list _ | exact isT_tup _); (case e2 => first | exact isT_list _ | exact isT_tup _))
  | with_reducible refine s_CKw ?_
  | with_reducible refine s_iRev ?_
  | with_reducible refine s_iZip ?_
  | ((with_reducible refine' s_iRevK ?h ?k); (case h => wtm_at "hh"))
  | ((with_reducible refine' s_ins0 ?r ?z ?k); (case r => wtm_at "own"); (case z => wtm_at "ar"); (intro _v _e _o))
  | ((with_reducible refine' s_pop ?r ?k); (case r => wtm_at "own"); (intro _v _e _o))
  | ((with_reducible refine' s_setB ?r ?k); (case r => wtm_at "own"); (intro _v _e _o))
  | with_reducible refine s_gcons ?_
  | with_reducible refine s_gnil ?_
  | with_reducible refine s_gsub ?_
  | with_reducible refine t_rev ?_
  | ((with_reducible refine' s_ty ?r ?k); (case r => wtm_at "own"))
  | with_reducible refine s_tyS ?_
  | with_reducible refine s_m1 ?_
  | with_reducible refine s_isS ?_
  | ((with_reducible refine' s_app ?r ?z ?k); (case r => wtm_at "own"); (case z => wtm_at "ar"); (intro _v _e _o))
  | ((with_reducible refine' s_clear ?r ?k); (case r => wtm_at "own"); (intro _v _e _o))
  | ((with_reducible refine' s_reverse ?r ?k); (case r => wtm_at "own"); (intro _v _e _o))
  | ((with_reducible refine' s_divmod ?r ?k); (case r => exact ⟨by decide, by decide⟩); (intro _p _v _e _n _s))
  | ((with_reducible refine' s_allO ?r ?k); (case r => wtm_at "own"))
  | ((with_reducible refine' s_anyO ?r ?k); (case r => wtm_at "own"))
  | ((with_reducible refine' ⟨_, _, rfl, dgetS ?r ?e, ?k⟩); (case r => wtm_at "own"); (case e => wtm_at "valv"))
  | ((with_reducible refine' s_dputS ?r ?e ?z ?k); (case r => wtm_at "own"); (case e => wtm_at "putv"); (case z => wtm_at "len"); (intro _v _e _o))
  | with_reducible refine t_disp ?_
  | with_reducible refine s_pnil ?_
  | with_reducible refine s_pcons ?_
  | ((with_reducible refine' s_dnew ?k); (intro _p _v _e _n _o))
  | ((with_reducible refine' s_setL ?r ?e ?k); (case r => wtm_at "own"); (case e => exact rfl); (intro _v _e _o))
  | ((refine' ⟨_, rfl, ⟨_, ?r⟩, ?k⟩); (case r => first | wtm_at "sq" | wtm_at "sqt"))
  | ((refine' ⟨_, rfl, ?r1, ?r2, ?k⟩); (case r1 => show (-(2 ^ 62) : Int) ≤ _; omega); (case r2 => show _ < (2 ^ 62 : Int); omega))
  | ((with_reducible refine' s_idxF ?h1 ?h2 ?k); (case h1 => omega); (case h2 => omega))
  | with_reducible refine s_zf2 ?_
  | with_reducible refine s_jn ?_
  | with_reducible refine s_js ?_
  | with_reducible refine s_js0 ?_
  | with_reducible refine s_fmt ?_
  | ((with_reducible refine' s_fmtS ?h ?k); (case h => wtm_at "txz"))
  | ((with_reducible refine' s_fmtI ?h ?k); (case h => exact log_small (by omega) (by omega)))
  | ((with_reducible refine' s_jsp ?h ?k); (case h => wtm_at "txz"))
  | ((with_reducible refine' s_split ?h1 ?h2 ?k); (case h1 => decide +kernel); (case h2 => wtm_at "txx"); (intro _p _v _e _n _s))
  | with_reducible refine ite_tt ?_
  | with_reducible refine ite_ff ?_
  | with_reducible refine ite_nr ?_
  | with_reducible refine ite_nt ?_
  | with_reducible refine ite_nf ?_
  | fail "go1")
local macro_rules | `(tactic| wtm_at "tx") => `(tactic| first
  | assumption
  | (refine' Tx.app ?x ?y; (case x => wtm_at "tx"); (case y => wtm_at "tx"))
  | (refine' Tx.cut ?x _ _; (case x => wtm_at "tx"))
  | (refine' Tx.one ?x; (case x => first | assumption | omega))
  | exact tx_int (by omega)
  | exact Tx.litN (n := 1) (by decide +kernel) (by decide +kernel)
  | exact Tx.litN (n := 8) (by decide +kernel) (by decide +kernel)
  | exact Tx.litN (n := 16) (by decide +kernel) (by decide +kernel)
  | fail "tx")
local macro_rules | `(tactic| wtm_at "txx") => `(tactic| (refine' Tx.z2 ?h ?k; (case h => wtm_at "tx"); (case k => first | decide | omega)))
local macro_rules | `(tactic| wtm_at "txz") => `(tactic| (refine' Tx.sz ?h ?k; (case h => wtm_at "tx"); (case k => first | decide | omega)))
local macro_rules | `(tactic| wtm_at "txs") => `(tactic| (refine' Tx.sum ?h ?g ?k; (case h => wtm_at "tx"); (case g => wtm_at "tx"); (case k => first | decide | omega)))
local macro_rules | `(tactic| wtm_at "lkp") => `(tactic| first
  | exact lk_hd
  | exact lk_nil
  | (refine' lk_tl ?h ?t; (case h => decide +kernel); (case t => wtm_at "lkp"))
  | fail "lkp")
local macro_rules | `(tactic| wtm_at "pf") => `(tactic| first
  | exact pf_nil
  | exact pf_hd
  | (refine' pf_tl ?h ?t; (case h => decide +kernel); (case t => wtm_at "pf"))
  | fail "pf")
local macro_rules | `(tactic| wtm_at "valv") => `(tactic| first
  | exact valS_pos
  | exact valS_nil
  | (refine' valS_neg ?h ?t; (case h => decide +kernel); (case t => wtm_at "valv"))
  | fail "valv")
local macro_rules | `(tactic| wtm_at "putv") => `(tactic| first
  | exact putK_nil
  | (refine' putS_pos ?h; (case h => wtm_at "valv"))
  | (refine' putS_neg ?h ?t; (case h => decide +kernel); (case t => wtm_at "putv"))
  | fail "putv")
local macro_rules | `(tactic| wtm_at "len") => `(tactic| (simp only [List.length, sizeLine_eq]; omega))
local macro_rules | `(tactic| wtm_at "kb") => `(tactic| first
  | exact kb_NoneType_int
  | exact kb_NoneType_bool
  | exact kb_NoneType_str
  | exact kb_NoneType_list
  | exact kb_NoneType_tuple
  | exact kb_NoneType_dict
  | exact kb_bool_int
  | exact kb_bool_bool
  | exact kb_bool_str
  | exact kb_bool_list
  | exact kb_bool_tuple
  | exact kb_bool_dict
  | exact kb_int_int
  | exact kb_int_bool
  | exact kb_int_str
  | exact kb_int_list
  | exact kb_int_tuple
  | exact kb_int_dict
  | exact kb_str_int
  | exact kb_str_bool
  | exact kb_str_str
  | exact kb_str_list
  | exact kb_str_tuple
  | exact kb_str_dict
  | exact kb_list_int
  | exact kb_list_bool
  | exact kb_list_str
  | exact kb_list_list
  | exact kb_list_tuple
  | exact kb_list_dict
  | exact kb_tuple_int
  | exact kb_tuple_bool
  | exact kb_tuple_str
  | exact kb_tuple_list
  | exact kb_tuple_tuple
  | exact kb_tuple_dict
  | exact kb_dict_int
  | exact kb_dict_bool
  | exact kb_dict_str
  | exact kb_dict_list
  | exact kb_dict_tuple
  | exact kb_dict_dict
  | fail "kb")
local macro_rules | `(tactic| wtm_at "isi") => `(tactic| first
  | ((with_reducible refine' si_int ?e ?k); (case e => wtm_at "kb"))
  | ((with_reducible refine' si_bl ?e ?k); (case e => wtm_at "kb"))
  | ((with_reducible refine' si_str ?e ?k); (case e => wtm_at "kb"))
  | ((with_reducible refine' si_non ?e ?k); (case e => wtm_at "kb"))
  | ((with_reducible refine' sd_int ?r ?k); (case r => wtm_at "rp"))
  | ((with_reducible refine' sd_bool ?r ?k); (case r => wtm_at "rp"))
  | ((with_reducible refine' sd_str ?r ?k); (case r => wtm_at "rp"))
  | ((with_reducible refine' sd_list ?r ?k); (case r => wtm_at "rp"))
  | ((with_reducible refine' sd_tuple ?r ?k); (case r => wtm_at "rp"))
  | ((with_reducible refine' sd_dict ?r ?k); (case r => wtm_at "rp"))
  | ((with_reducible refine' si_lst ?r ?e ?k); (case r => wtm_at "stb"); (case e => wtm_at "kb"))
  | ((with_reducible refine' si_tup ?r ?e ?k); (case r => wtm_at "stb"); (case e => wtm_at "kb"))
  | ((with_reducible refine' si_own ?r ?e ?k); (case r => wtm_at "own"); (case e => wtm_at "kb"))
  | ((with_reducible refine' si_rd ?r ?e ?k); (case r => wtm_at "rd0"); (case e => wtm_at "kb"))
  | fail "isi")
local macro_rules | `(tactic| wtm_at "mul") => `(tactic| first
  | exact .inl (.inl ⟨by decide, by decide⟩) | exact .inl (.inr ⟨by decide, by decide⟩)
  | exact .inl (.inl ⟨by omega, by omega⟩) | exact .inl (.inr ⟨by omega, by omega⟩)
  | fail "mul")
local macro_rules | `(tactic| wtm_at "div") => `(tactic| first
  | exact ⟨by decide, by decide⟩ | exact divW (by omega) (by omega)
  | fail "div")
local macro_rules | `(tactic| wtm_at "hh") => `(tactic| first
  | (refine' Wd.ok _ _ _ ?o; (case o => wtm_at "stb"))
  | (refine' Own.h ?o; (case o => wtm_at "own"))
  | (refine' Rd.h ?o; (case o => wtm_at "rd0"))
  | assumption
  | fail "hh")
local macro_rules | `(tactic| wtm_at "sqs") => `(tactic| first
  | (refine' Or.inl ?o; (case o => wtm_at "sq"))
  | (refine' Or.inr ?o; (case o => wtm_at "sqt"))
  | fail "sqs")
/-- as go1, new lists standing for good -/
local macro_rules | `(tactic| wtm_at "gs1") => `(tactic| first
  | ((with_reducible refine' t_disp0 ?k); (intro _p _v _e _n _s))
  | ((with_reducible refine' s_dnewS ?k); (intro _p _v _e _n _s))
  | ((with_reducible refine' t_newLS ?h ?k); (case h => wtm_at "len"); (intro _p _v _e _n _s))
  | ((with_reducible refine' s_catS ?h1 ?h2 ?z ?k); (case h1 => wtm_at "hh"); (case h2 => wtm_at "hh"); (case z => wtm_at "ar"); (intro _p _v _e _n _s))
  | ((with_reducible refine' s_slS ?h ?k); (case h => wtm_at "sq"); (intro _p _v _e _n _s))
  | ((with_reducible refine' t_revS ?h ?k); (case h => wtm_at "sq"); (intro _p _v _e _n _s))
  | ((with_reducible refine' s_listS ?h ?k); (case h => wtm_at "sqs"); (intro _p _v _e _n _s))
  | ((with_reducible refine' s_rep1 ?h ?c ?k); (case h => wtm_at "hh"); (case c => (simp only [List.length_cons, List.length_nil, sizeLine_eq]; decide)); (intro _p _v _e _n _s))
  | ((with_reducible refine' s_repN ?h ?h0 ?h1 ?k); (case h => wtm_at "hh"); (case h0 => decide); (case h1 => decide); (intro _p _v _e _n _s))
  | ((with_reducible refine' s_repM ?h ?h0 ?h1 ?c ?k); (case h => wtm_at "hh"); (case h0 => decide); (case h1 => decide); (case c => (simp only [List.length_cons, List.length_nil, sizeLine_eq]; decide)); (intro _p _v _ys _e _n _s _l _q; simp only [List.length_cons, List.length_nil] at _l))
  | ((with_reducible refine' s_rep0 ?h ?k); (case h => wtm_at "hh"); (intro _p _v _e _n _s))
  | ((with_reducible refine' s_tupleS ?h ?k); (case h => wtm_at "sq"); (intro _p _v _e _n _s))
  | wtm_at "go1"
  | fail "gs1")
/-- an item at a place that is not written: its way told by membership -/
local macro_rules | `(tactic| wtm_at "ixm") => `(tactic| first
  | ((with_reducible refine' s_ixOm ?h ?h0 ?h1 ?k); (case h => wtm_at "own"); (case h0 => omega); (case h1 => first | omega | (simp only [List.length]; omega) | (simp only [List.length_append, List.length_cons, List.length_nil]; omega)))
  | ((with_reducible refine' s_ixSm ?h ?h0 ?h1 ?k); (case h => wtm_at "stb"); (case h0 => omega); (case h1 => first | omega | (simp only [List.length]; omega) | (simp only [List.length_append, List.length_cons, List.length_nil]; omega)))
  | ((with_reducible refine' s_ixTm ?h ?h0 ?h1 ?k); (case h => wtm_at "stb"); (case h0 => omega); (case h1 => first | omega | (simp only [List.length]; omega) | (simp only [List.length_append, List.length_cons, List.length_nil]; omega)))
  | fail "ixm")
local macro_rules | `(tactic| wtm_at "gs") => `(tactic| repeat wtm_at "gs1")
local macro_rules | `(tactic| wtm_at "go") => `(tactic| repeat wtm_at "go1")
/-- the same, never looking into a decided test -/
local macro_rules | `(tactic| wtm_at "gol") => `(tactic| repeat ((fail_if_success (with_reducible refine ite_d ?_ ?_)); wtm_at "go1"))
local macro_rules | `(tactic| wtm_at "gsl") => `(tactic| repeat ((fail_if_success (with_reducible refine ite_d ?_ ?_)); wtm_at "gs1"))
/-- the same, up to the next if -/
local macro_rules | `(tactic| wtm_at "goi") => `(tactic| repeat ((fail_if_success (with_reducible refine s_ifS ?_)); wtm_at "go1"))
local macro_rules | `(tactic| wtm_at "gsi") => `(tactic| repeat ((fail_if_success (with_reducible refine s_ifS ?_)); wtm_at "gs1"))

namespace L
def top (i : Nat) : Stmt := PySem.Challenge.pw_foldlog_k08_spans_as_texts.main.body.getD i (.Pass ⟨0, 0, 0, 0⟩)
structure Txt (K : PySem.W.Frag) (mg : Str → Option Value) (C_LogError C_NoSpans C_NoText : Addr) : Prop where
  g_LogError : mg "LogError" = some (.ref C_LogError)
  rd_LogError : PySem.W.readsIn K C_LogError (.type "type") = true
  gs_LogError : PySem.W.specialIn K (.ref C_LogError) "__getattribute__" = some (some (.builtin "type.__getattribute__"))
  vv_LogError : PySem.W.findCls K (.ref C_LogError) (.type "type") "__init__" = some (.val (.builtin "ValueError.__init__"))
  g_NoSpans : mg "NoSpans" = some (.ref C_NoSpans)
  oex_NoSpans : OexC K C_NoSpans
  xf_NoSpans : XfC K C_NoSpans
  ec_NoSpans : ExcC K C_NoSpans
  xn_NoSpans : PySem.W.findIn K (.ref C_NoSpans) "at" = some none
  g_NoText : mg "NoText" = some (.ref C_NoText)
  oex_NoText : OexC K C_NoText
  xf_NoText : XfC K C_NoText
  ec_NoText : ExcC K C_NoText
  xn_NoText : PySem.W.findIn K (.ref C_NoText) "at" = some none
  rel_NoText_NoText : PySem.W.kitOne K (.ref C_NoText) (.ref C_NoText) = some true
  rel_NoText_ValueError : PySem.W.kitOne K (.ref C_NoText) (.type "ValueError") = some true
  rel_NoText_NoSpans : PySem.W.kitOne K (.ref C_NoText) (.ref C_NoSpans) = some false
  exm_NoText_LogError : PySem.W.exmOne K (.ref C_NoText) (.ref C_LogError) = some true
  n_all : mg "all" = none
  n_enumerate : mg "enumerate" = none
  n_int : mg "int" = none
  n_isinstance : mg "isinstance" = none
  n_len : mg "len" = none
  n_list : mg "list" = none
  n_max : mg "max" = none
  n_min : mg "min" = none
  n_range : mg "range" = none
  n_repr : mg "repr" = none
  n_set : mg "set" = none
  n_sorted : mg "sorted" = none
  n_str : mg "str" = none
  c_FARTHEST : ∃ u, mg "FARTHEST" = some u ∧ RelV (.int 999999999999999999999999999999) u
  c_FIGURES : ∃ u, mg "FIGURES" = some u ∧ RelV (.str (Str.ofString "0123456789")) u
  c_MOST_FIGURES : ∃ u, mg "MOST_FIGURES" = some u ∧ RelV (.int 30) u
section
variable {P : Program} {ww : World} {K : PySem.W.Frag} {mg : Str → Option Value} {base : Heap}
/-! is_plain -/
abbrev s_is_plain : Stmt := top 7
abbrev nm_is_plain : List Str := ["text", "figures", "sign"]
theorem sc_is_plain : FnScope nm_is_plain ["text"] (defScope s_is_plain) := ⟨rfl, rfl, rfl, by decide +kernel, rfl, by decide +kernel, by decide +kernel⟩
theorem st_is_plain (a : V) : start nm_is_plain [a] = [some a, none, none] := rfl
def p_is_plain (w : Wd) (a : V) (Q : VK) (_ : XK) : Prop := ∃ z, a = .str z ∧ Tx 1000 z ∧ ∀ v, Ext Non w v → Q (.bl (plainL (tl z))) v.H
theorem ok_is_plain {f : Addr} {fd : FuncData} {C_LogError C_NoSpans C_NoText : Addr} (F : Fun K "is_plain" "is_plain" s_is_plain f fd) (T : Txt K mg C_LogError C_NoSpans C_NoText)  : FnOk P ww K mg base CX0 1 f fd ["text"] (pr1 (p_is_plain)) := by
  refine F.ok sc_is_plain (fun vs H Q E h => len1 h) (fun cdv A outer s H vs Q E hr h => ?_)
  obtain ⟨w, x0,  rfl, rfl, h⟩ := h
  have oex_NoSpans := T.oex_NoSpans; have xf_NoSpans := T.xf_NoSpans; have ec_NoSpans := T.ec_NoSpans; have xn_NoSpans := T.xn_NoSpans
  have oex_NoText := T.oex_NoText; have xf_NoText := T.xf_NoText; have ec_NoText := T.ec_NoText; have xn_NoText := T.xn_NoText
  have rel_NoText_NoText := T.rel_NoText_NoText
  have rel_NoText_ValueError := T.rel_NoText_ValueError
  have rel_NoText_NoSpans := T.rel_NoText_NoSpans
  have exm_NoText_LogError := T.exm_NoText_LogError
  refine ⟨_, (pss_cons (ps_set (i := 1) sc_is_plain.nd rfl (Or.inl rfl) (pv 0))
      (pss_cons (ps_if (pt_cmpR (kEq K hr.units) (pe_slice (kSl K) (pv 0) po_none (po_some pe_int)) pe_str (nomark _)) (pss_one (ps_set (i := 1) sc_is_plain.nd rfl (Or.inl rfl) (pe_slice (kSl K) (pv 0) (po_some pe_int) po_none))) pss_nil)
      (pss_cons (ps_if (PW.pt (pw_or (pt_not (pt_chain g_le g_le pe_int (pe_callB (kLen K) (by rfl) T.n_len (by decide +kernel) (pa_cons (pv 1) pa_nil)) (pe_gco rfl T.c_MOST_FIGURES))) (pw_or1 (pt_not (pt_val (pe_callB (kAll K rfl) (by rfl) T.n_all (by decide +kernel) (pa_cons (pe_lc (own := [("sign", 2)]) (g := (gName 2)) (tt := tYes) (by rfl) sc_is_plain.nd (pi_str (pv 1)) (blkOk_by (own := [("sign", 2)]) (N := nm_is_plain) (sc := defScope s_is_plain) (by decide +kernel)) (fun _ _ _ _ _ => (pg_name (i := 2) sc_is_plain.nd rfl (Or.inl rfl))) (fun _ _ _ _ _ => pts_nil) (fun _ _ _ _ _ => (pe_cmpR (kIn K) (pv 2) (pe_gco rfl T.c_FIGURES) (by rfl)))) pa_nil))))))) (pss_one (ps_ret pe_bl)) pss_nil)
      (pss_one (ps_ret (pe_or (pe_cmpR (kNe K hr.units) (pe_ix (kIx K) (pv 1) pe_int (fun _ _ => rfl)) pe_str (nomark _)) (pe_one (pe_cmpR (kEq K hr.units) (pv 0) pe_str (nomark _))))))))), ?_⟩
  rw [st_is_plain]
  obtain ⟨z, rfl, tz, k⟩ := h
  have hzs : z.cps.size ≤ 1000 := tz.1
  wtm_at "gsi"
  refine s_ifJ (fun σ u => Ext Non w u ∧ ∃ f, Tx 1000 f ∧ tl f = figsL (tl z) ∧ σ = [some (.str z), some (.str f), none]) (fun Z hZ => ?_) ?_
  · wtm_at "gs"
    refine ite_d (fun c1 => ?_) (fun c1 => ?_)
    · wtm_at "gs"
      exact hZ _ _ ⟨by wtm_at "ch", cutS z (some 1) none, tz.cut _ _, by rw [cutZ_from (by decide), figsL_y (dash_iff.mp c1)]; rfl, rfl⟩
    · wtm_at "gs"
      exact hZ _ _ ⟨by wtm_at "ch", z, tz, by rw [figsL_n fun e => c1 (dash_iff.mpr e)], rfl⟩
  · rintro σ u ⟨eu, f, tf, hf, rfl⟩
    have hfs : f.cps.size ≤ 1000 := tf.1
    have lf := len_tl f
    rw [hf] at lf
    wtm_at "gs"
    refine ite_d (fun c1 => ?_) (fun c1 => ?_)
    · wtm_at "gs"
      refine ite_nd (fun c2 => ?_) (fun c2 => ?_)
      · wtm_at "gs"
        have e : plainL (tl z) = false := by unfold plainL; rw [decide_eq_false (show ¬ ((figsL (tl z)).length ≤ 30) by omega)]; simp
        exact e ▸ k _ (by wtm_at "ch")
      · wtm_at "gs"
        refine ⟨f, rfl, ?_⟩
        intro D hD
        refine lc_gen (rows := f.cps.toList) (ww_strI (z := f)) (fun _ => true) (fun c => .bool (decide (c ∈ (Str.ofString "0123456789").cps.toList))) hD (by rw [Array.length_toList]) (by rw [sizeLine_eq]; omega) (fun _ _ => trivial) ?_ ?_
        · intro i x c u hi hx hq e R Z hR hZ
          obtain rfl := z_at hx hq
          wtm_at "gs"
          refine ⟨rfl, s_yes (ite_tt ?_)⟩
          wtm_at "gs"
          exact hR _ _ (Ext.refl _ _) rfl (.bl _)
        · intro u2 acc eu2 hD' o ha2
          rw [filter_all] at ha2
          obtain rfl := RpA.bools_inv ha2
          wtm_at "gs"
          have e2 : (f.cps.toList.map fun c => decide (c ∈ (Str.ofString "0123456789").cps.toList)).all id = (figsL (tl z)).all isFig := by
            rw [← hf]
            show ((tl f).map _).all id = _
            rw [List.all_map]
            congr 1
            funext c
            exact fig_iff
          rw [e2]
          refine ite_n (fun c3 => ?_) (fun c3 => ?_)
          · wtm_at "gs"
            have e : plainL (tl z) = false := by unfold plainL; rw [c3]; simp
            exact e ▸ k _ (by wtm_at "ch")
          · wtm_at "gs"
            refine s_ixZe (tf.sz (by decide)) (by decide) (by omega) fun c hc => ?_
            rw [hf] at hc
            have e := plain_at (by omega) (by omega) c3 hc
            wtm_at "gs"
            refine ite_d (fun c4 => ?_) (fun c4 => ?_)
            · have e3 : plainL (tl z) = true := by rw [e, decide_eq_true (show c ≠ 48 from fun z => c4 (nought_iff.mpr z)), Bool.true_or]
              exact e3 ▸ k _ (by wtm_at "ch")
            · wtm_at "gs"
              have e3 : plainL (tl z) = decide (z = Str.ofString "0") := by
                rw [e, decide_eq_false (show ¬ c ≠ 48 from fun g => c4 fun z => g (nought_iff.mp z)), Bool.false_or, Bool.eq_iff_iff, decide_eq_true_eq, decide_eq_true_eq]
                exact noughtZ_iff.symm
              exact e3 ▸ k _ (by wtm_at "ch")
    · wtm_at "gs"
      have e : plainL (tl z) = false := by unfold plainL; rw [decide_eq_false (show ¬ (1 ≤ (figsL (tl z)).length) by omega)]; simp
      exact e ▸ k _ (by wtm_at "ch")
/-! whole_in -/
abbrev s_whole_in : Stmt := top 8
abbrev nm_whole_in : List Str := ["thing", "low", "high", "number"]
theorem sc_whole_in : FnScope nm_whole_in ["thing", "low", "high"] (defScope s_whole_in) := ⟨rfl, rfl, rfl, by decide +kernel, rfl, by decide +kernel, by decide +kernel⟩
theorem st_whole_in (a b c : V) : start nm_whole_in [a, b, c] = [some a, some b, some c, none] := rfl
def p_whole_in (w : Wd) (a b c : V) (Q : VK) (_ : XK) : Prop := ∃ d, ∃ lo hi : Int, Rp w.S a d ∧ TxD d ∧ b = .int lo ∧ c = .int hi ∧ ∀ v, Ext Non w v → Q (oV (wholeIn d lo hi)) v.H
theorem ok_whole_in {f : Addr} {fd : FuncData} {C_LogError C_NoSpans C_NoText : Addr} (F : Fun K "whole_in" "whole_in" s_whole_in f fd) (T : Txt K mg C_LogError C_NoSpans C_NoText) (c_is_plain : Fnc P ww K mg base CX0 1 "is_plain" (pr1 (p_is_plain))) : FnOk P ww K mg base CX0 2 f fd ["thing", "low", "high"] (pr3 (p_whole_in)) := by
  refine F.ok sc_whole_in (fun vs H Q E h => len3 h) (fun cdv A outer s H vs Q E hr h => ?_)
  obtain ⟨w, x0, x1, x2,  rfl, rfl, h⟩ := h
  have oex_NoSpans := T.oex_NoSpans; have xf_NoSpans := T.xf_NoSpans; have ec_NoSpans := T.ec_NoSpans; have xn_NoSpans := T.xn_NoSpans
  have oex_NoText := T.oex_NoText; have xf_NoText := T.xf_NoText; have ec_NoText := T.ec_NoText; have xn_NoText := T.xn_NoText
  have rel_NoText_NoText := T.rel_NoText_NoText
  have rel_NoText_ValueError := T.rel_NoText_ValueError
  have rel_NoText_NoSpans := T.rel_NoText_NoSpans
  have exm_NoText_LogError := T.exm_NoText_LogError
  refine ⟨_, (pss_cons (ps_if (PW.pt (pw_or (pt_not (pt_val (pe_callB (kIsi K) (by rfl) T.n_isinstance (by decide +kernel) (pa_cons (pv 0) (pa_cons (pe_bltn (v := .ty "str") (u := .type "str") rfl T.n_str (by decide +kernel) rfl) pa_nil))))) (pw_or1 (pt_not (pt_val (pe_fn c_is_plain hr (by decide) pass0 (pa_cons (pv 0) pa_nil))))))) (pss_one (ps_ret pe_non)) pss_nil)
      (pss_cons (ps_set (i := 3) sc_whole_in.nd rfl (Or.inl rfl) (pe_callTy g_int (by rfl) T.n_int (by decide +kernel) (pa_cons (pv 0) pa_nil)))
      (pss_cons (ps_if (pt_chain g_le g_le (pv 1) (pv 3) (pv 2)) (pss_one (ps_ret (pv 3))) pss_nil)
      (pss_one (ps_ret pe_non))))), ?_⟩
  rw [st_whole_in]
  obtain ⟨d, lo, hi, hd, hT, rfl, rfl, k⟩ := h
  wtm_at "gs"
  refine ite_n (fun hb => ?_) (fun hb => ?_)
  · wtm_at "gs"
    have e : wholeIn d lo hi = none := by cases d <;> first | rfl | cases hb
    exact ov_at e (k w (Ext.refl _ _))
  · obtain ⟨z, rfl⟩ := isStr_inv hb
    obtain rfl := hd.str_inv
    wtm_at "gs"
    refine ⟨z, rfl, hT z rfl, fun v ev => ?_⟩
    wtm_at "gs"
    refine ite_n (fun hp => ?_) (fun hp => ?_)
    · wtm_at "gs"
      have e : wholeIn (.str z) lo hi = none := by simp [wholeIn, valO, hp, inB]
      exact ov_at e (k v ev)
    · obtain ⟨h1, h2⟩ := intText_plain hp
      wtm_at "gs"
      refine s_intZ h1 (by omega) ?_
      wtm_at "gs"
      refine ite_d (fun c1 => ?_) (fun c1 => ?_)
      · wtm_at "gs"
        refine ite_d (fun c2 => ?_) (fun c2 => ?_)
        · wtm_at "gs"
          have e : wholeIn (.str z) lo hi = some (valL (tl z)) := by simp [wholeIn, valO, hp, inB, c1, c2]
          exact ov_at e (k v ev)
        · wtm_at "gs"
          have e : wholeIn (.str z) lo hi = none := by simp [wholeIn, valO, hp, inB, c1, c2]
          exact ov_at e (k v ev)
      · wtm_at "gs"
        have e : wholeIn (.str z) lo hi = none := by simp [wholeIn, valO, hp, inB, c1]
        exact ov_at e (k v ev)
local macro_rules | `(tactic| wtm_at "go1") => `(tactic| first
  | with_reducible refine s_makeX ?_
  | with_reducible refine s_methX ?_
  | with_reducible refine s_callX ?_
  | with_reducible refine s_ost ?_
  | with_reducible refine s_veI ?_
  | with_reducible refine s_xg ?_
  | ((with_reducible refine' s_xgv ?h ?x ?n ?k); (case h => wtm_at "hh"); (case x => assumption); (case n => assumption))
  | ((with_reducible refine' s_isXc ?c ?e ?h ?k); (case c => assumption); (case e => assumption); (case h => wtm_at "hh"))
  | ((with_reducible refine' s_isXt ?c ?e ?h ?k); (case c => assumption); (case e => assumption); (case h => wtm_at "hh"))
  | with_reducible refine s_isU ?_
  | fail "go1x")

/-! NoText.__init__ -/
abbrev s_NoText_init : Stmt := inClass (top 3) 0
abbrev nm_NoText_init : List Str := ["self", "at"]
theorem sc_NoText_init : FnScope nm_NoText_init ["self", "at"] (defScope s_NoText_init) := ⟨rfl, rfl, rfl, by decide +kernel, rfl, by decide +kernel, by decide +kernel⟩
theorem st_NoText_init (a b : V) : start nm_NoText_init [a, b] = [some a, some b] := rfl
abbrev p_NoText_init (C : Addr) := initX (Str.ofString "at") C
theorem ok_NoText_init {f : Addr} {fd : FuncData} {C_LogError C_NoSpans C_NoText : Addr} (F : Fun K "__init__" "NoText.__init__" s_NoText_init f fd) (T : Txt K mg C_LogError C_NoSpans C_NoText)  : FnOk P ww K mg base CX0 1 f fd ["self", "at"] (pr2 (p_NoText_init C_NoText)) := by
  refine F.ok sc_NoText_init (fun vs H Q E h => len2 h) (fun cdv A outer s H vs Q E hr h => ?_)
  obtain ⟨w, x0, x1,  rfl, rfl, h⟩ := h
  have oex_NoSpans := T.oex_NoSpans; have xf_NoSpans := T.xf_NoSpans; have ec_NoSpans := T.ec_NoSpans; have xn_NoSpans := T.xn_NoSpans
  have oex_NoText := T.oex_NoText; have xf_NoText := T.xf_NoText; have ec_NoText := T.ec_NoText; have xn_NoText := T.xn_NoText
  have rel_NoText_NoText := T.rel_NoText_NoText
  have rel_NoText_ValueError := T.rel_NoText_ValueError
  have rel_NoText_NoSpans := T.rel_NoText_NoSpans
  have exm_NoText_LogError := T.exm_NoText_LogError
  refine ⟨_, (pss_cons (ps_expr (pe_xinit (pe_glob (v := .ref C_LogError) (u := .ref C_LogError) rfl T.g_LogError rfl) T.rd_LogError T.gs_LogError T.vv_LogError (pa_cons (pv 0) (pa_cons pe_str pa_nil))))
      (pss_one (ps_ost (pv 0) (pv 1)))), ?_⟩
  rw [st_NoText_init]
  obtain ⟨x, rfl, hx, k⟩ := h
  wtm_at "gs"
  refine ⟨x, _, _, rfl, by simp, oex_NoText, hx, ?_⟩
  wtm_at "gs"
  exact ⟨x, C_NoText, rfl, oex_NoText, xn_NoText, .inl ⟨hx, fun dx h1 h2 => k dx h1 h2⟩⟩
/-! stretch_in -/
abbrev s_stretch_in : Stmt := top 12
abbrev nm_stretch_in : List Str := ["word", "first", "points", "second", "low", "high"]
theorem sc_stretch_in : FnScope nm_stretch_in ["word"] (defScope s_stretch_in) := ⟨rfl, rfl, rfl, by decide +kernel, rfl, by decide +kernel, by decide +kernel⟩
theorem st_stretch_in (a : V) : start nm_stretch_in [a] = [some a, none, none, none, none, none] := rfl
def p_stretch_in (w : Wd) (a : V) (Q : VK) (_ : XK) : Prop := ∃ z, a = .str z ∧ Tx 1000 z ∧ (strW (tl z) = none → ∀ v, Ext Non w v → Q .non v.H) ∧ (∀ p, strW (tl z) = some p → ∀ v t, Ext Non w v → v.S t = some (.tup [.int p.1, .int p.2]) → Q (.ref t) v.H)
theorem ok_stretch_in {f : Addr} {fd : FuncData} {C_LogError C_NoSpans C_NoText : Addr} (F : Fun K "stretch_in" "stretch_in" s_stretch_in f fd) (T : Txt K mg C_LogError C_NoSpans C_NoText) (c_whole_in : Fnc P ww K mg base CX0 2 "whole_in" (pr3 (p_whole_in))) : FnOk P ww K mg base CX0 3 f fd ["word"] (pr1 (p_stretch_in)) := by
  refine F.ok sc_stretch_in (fun vs H Q E h => len1 h) (fun cdv A outer s H vs Q E hr h => ?_)
  obtain ⟨w, x0,  rfl, rfl, h⟩ := h
  have oex_NoSpans := T.oex_NoSpans; have xf_NoSpans := T.xf_NoSpans; have ec_NoSpans := T.ec_NoSpans; have xn_NoSpans := T.xn_NoSpans
  have oex_NoText := T.oex_NoText; have xf_NoText := T.xf_NoText; have ec_NoText := T.ec_NoText; have xn_NoText := T.xn_NoText
  have rel_NoText_NoText := T.rel_NoText_NoText
  have rel_NoText_ValueError := T.rel_NoText_ValueError
  have rel_NoText_NoSpans := T.rel_NoText_NoSpans
  have exm_NoText_LogError := T.exm_NoText_LogError
  refine ⟨_, (pss_cons (ps_asg (SR.pe_pt (pv 0) pe_str) (kgTup K (by rfl) (pgs_cons (pg_name (i := 1) sc_stretch_in.nd rfl (Or.inl rfl)) (pgs_cons (pg_name (i := 2) sc_stretch_in.nd rfl (Or.inl rfl)) (pgs_cons (pg_name (i := 3) sc_stretch_in.nd rfl (Or.inl rfl)) pgs_nil)))))
      (pss_cons (ps_set (i := 4) sc_stretch_in.nd rfl (Or.inl rfl) (pe_fn c_whole_in hr (by decide) pass0 (pa_cons (pv 1) (pa_cons (pe_op g_sub pe_int (pe_gco rfl T.c_FARTHEST)) (pa_cons (pe_gco rfl T.c_FARTHEST) pa_nil)))))
      (pss_cons (ps_if (pt_cmpR g_is (pv 4) pe_non (nomark _)) (pss_one (ps_ret pe_non)) pss_nil)
      (pss_cons (ps_if (pt_cmpR (kEq K hr.units) (pv 2) pe_str (nomark _)) (pss_one (ps_ret (pe_tup (pa_cons (pv 4) (pa_cons (pv 4) pa_nil))))) pss_nil)
      (pss_cons (ps_set (i := 5) sc_stretch_in.nd rfl (Or.inl rfl) (pe_fn c_whole_in hr (by decide) pass0 (pa_cons (pv 3) (pa_cons (pe_op g_sub pe_int (pe_gco rfl T.c_FARTHEST)) (pa_cons (pe_gco rfl T.c_FARTHEST) pa_nil)))))
      (pss_cons (ps_if (PW.pt (pw_or (pt_cmpR g_is (pv 5) pe_non (nomark _)) (pw_or1 (pt_cmpR g_le (pv 5) (pv 4) (nomark _))))) (pss_one (ps_ret pe_non)) pss_nil)
      (pss_one (ps_ret (pe_tup (pa_cons (pv 4) (pa_cons (pv 5) pa_nil))))))))))), ?_⟩
  rw [st_stretch_in]
  obtain ⟨z, rfl, tz, k0, k1⟩ := h
  have lz : z.length ≤ 1000 := tz.1
  wtm_at "gs"
  refine s_pt (by decide +kernel) (by rw [sizeLine_eq]; omega) fun t v1 e1 n1 s1 => ?_
  rw [partition_par _ _ (by rw [tl_pp]; decide), tl_pp] at s1
  cases hp : par [46, 46] [] (tl z) with
  | none =>
    rw [hp] at s1
    have e0 : strW (tl z) = (valO (tl z)).map fun n => (n, n) := by unfold strW; rw [hp]; rfl
    rw [e0] at k0 k1
    wtm_at "gs"
    refine ⟨.str z, _, _, .str _, (fun z' e => by cases e; exact tz), rfl, rfl, fun v2 e2 => ?_⟩
    have ew2 := e1.trans e2
    clear e1 e2 n1
    rw [whole_far]
    cases hv : valO (tl z) with
    | none =>
      rw [hv] at k0
      dsimp only [oV]
      wtm_at "gs"
      exact k0 rfl _ ew2
    | some n =>
      rw [hv] at k1
      dsimp only [oV]
      wtm_at "gs"
      refine ite_d (fun _ => ?_) (fun c => absurd rfl c)
      wtm_at "gs"
      exact k1 (n, n) rfl _ _ (by wtm_at "ch") (by wtm_at "stb")
  | some pq =>
    obtain ⟨p, q⟩ := pq
    rw [hp] at s1
    have e0 : strW (tl z) = (match valO p, valO q with | some a, some b => if a < b then some (a, b) else none | _, _ => none) := by unfold strW; rw [hp]; rfl
    rw [e0] at k0 k1
    obtain ⟨tp, tq⟩ := par_tx tz hp
    wtm_at "gs"
    refine ⟨.str ⟨p.toArray⟩, _, _, .str _, (fun z' e => by cases e; exact tp), rfl, rfl, fun v2 e2 => ?_⟩
    have ew2 := e1.trans e2
    clear e1 e2 n1
    rw [whole_far, show tl (⟨p.toArray⟩ : Str) = p from rfl]
    cases hv : valO p with
    | none =>
      rw [hv] at k0
      dsimp only [oV]
      wtm_at "gs"
      exact k0 rfl _ ew2
    | some n =>
      rw [hv] at k0 k1
      dsimp only [oV]
      wtm_at "gs"
      refine ite_d (fun c => absurd c (by decide +kernel)) (fun _ => ?_)
      wtm_at "gs"
      refine ⟨.str ⟨q.toArray⟩, _, _, .str _, (fun z' e => by cases e; exact tq), rfl, rfl, fun v3 e3 => ?_⟩
      have ew3 := ew2.trans e3
      clear e3 ew2
      rw [whole_far, show tl (⟨q.toArray⟩ : Str) = q from rfl]
      cases hw : valO q with
      | none =>
        rw [hw] at k0
        dsimp only [oV]
        wtm_at "gs"
        exact k0 rfl _ ew3
      | some m =>
        rw [hw] at k0 k1
        dsimp only [oV]
        wtm_at "gs"
        refine ite_d (fun c => ?_) (fun c => ?_)
        · wtm_at "gs"
          exact k0 (if_neg (by omega)) _ ew3
        · wtm_at "gs"
          exact k1 (n, m) (if_pos (by omega)) _ _ (by wtm_at "ch") (by wtm_at "stb")
/-! spans_in -/
abbrev s_spans_in : Stmt := top 13
abbrev nm_spans_in : List Str := ["text", "found", "at", "word", "stretch"]
theorem sc_spans_in : FnScope nm_spans_in ["text"] (defScope s_spans_in) := ⟨rfl, rfl, rfl, by decide +kernel, rfl, by decide +kernel, by decide +kernel⟩
theorem st_spans_in (a : V) : start nm_spans_in [a] = [some a, none, none, none, none] := rfl
def p_spans_in (N : Addr) (w : Wd) (a : V) (Q : VK) (E : XK) : Prop := ∃ d, Rp w.S a d ∧ (∀ z, d = .str z → TxW z) ∧
  (∀ z R, d = .str z → readS (tl z) = .inr R → ∀ v r vs, Ext Non w v → w.H r = none → Own v r (.lst vs) → RpA v.S vs (R.map prD) → Q (.ref r) v.H) ∧
  (∀ i, readSD d = some i → ∀ v e, Ext Non w v → w.H e = none → Own v e (.xd [(Str.ofString "at", .int i)]) → E (.ref N) (some e) v.H)
theorem ok_spans_in {f : Addr} {fd : FuncData} {C_LogError C_NoSpans C_NoText : Addr} (F : Fun K "spans_in" "spans_in" s_spans_in f fd) (T : Txt K mg C_LogError C_NoSpans C_NoText) (c_NoText_init : Mxr P ww K mg base C_NoText 1 (pr2 (p_NoText_init C_NoText))) (c_stretch_in : Fnc P ww K mg base CX0 3 "stretch_in" (pr1 (p_stretch_in))) : FnOk P ww K mg base (L2.CX P ww) 4 f fd ["text"] (pr1 (p_spans_in C_NoText)) := by
  refine F.okX sc_spans_in (fun vs H Q E h => len1 h) (fun cdv A outer s H vs Q E hr h => ?_)
  obtain ⟨w, x0,  rfl, rfl, h⟩ := h
  have oex_NoSpans := T.oex_NoSpans; have xf_NoSpans := T.xf_NoSpans; have ec_NoSpans := T.ec_NoSpans; have xn_NoSpans := T.xn_NoSpans
  have oex_NoText := T.oex_NoText; have xf_NoText := T.xf_NoText; have ec_NoText := T.ec_NoText; have xn_NoText := T.xn_NoText
  have rel_NoText_NoText := T.rel_NoText_NoText
  have rel_NoText_ValueError := T.rel_NoText_ValueError
  have rel_NoText_NoSpans := T.rel_NoText_NoSpans
  have exm_NoText_LogError := T.exm_NoText_LogError
  refine ⟨_, (pss_cons (ps_if (pt_not (pt_val (pe_callB (kIsi K) (by rfl) T.n_isinstance (by decide +kernel) (pa_cons (pv 0) (pa_cons (pe_bltn (v := .ty "str") (u := .type "str") rfl T.n_str (by decide +kernel) rfl) pa_nil))))) (pss_one (ps_raiseX rfl (takes_of rfl rfl rfl rfl) c_NoText_init hr (by decide) T.g_NoText (pa_cons pe_int pa_nil))) pss_nil)
      (pss_cons (ps_set (i := 1) sc_spans_in.nd rfl (Or.inl rfl) (pe_lst pa_nil))
      (pss_cons (ps_if (pt_cmpR (kEq K hr.units) (pv 0) pe_str (nomark _)) (pss_one (ps_ret (pv 1))) pss_nil)
      (pss_cons (ps_for (passes_of rfl) rfl (kpEnum K (by rfl) T.n_enumerate (pa_cons (pe_spl (pv 0) pe_str) pa_nil)) (kgTup K (by rfl) (pgs_cons (pg_name (i := 2) sc_spans_in.nd rfl (Or.inl rfl)) (pgs_cons (pg_name (i := 3) sc_spans_in.nd rfl (Or.inl rfl)) pgs_nil))) (pss_cons (ps_set (i := 4) sc_spans_in.nd rfl (Or.inl rfl) (pe_fn c_stretch_in hr (by decide) pass0 (pa_cons (pv 3) pa_nil)))
      (pss_cons (ps_if (PW.pt (pw_or (pt_cmpR g_is (pv 4) pe_non (nomark _)) (pw_or1 (PW.pt (pw_and (pt_cmpR (kNe K hr.units) (pv 1) (pe_lst pa_nil) (nomark _)) (pw_and1 (pt_cmpR g_lt (pe_ix (kIx K) (pv 4) pe_int (fun _ _ => rfl)) (pe_op (kAdd K) (pe_ix (kIx K) (pe_ix (kIx K) (pv 1) (pe_un un_neg pe_int) (fun _ _ => rfl)) pe_int (fun _ _ => rfl)) pe_int) (nomark _)))))))) (pss_one (ps_raiseX rfl (takes_of rfl rfl rfl rfl) c_NoText_init hr (by decide) T.g_NoText (pa_cons (pv 2) pa_nil))) pss_nil)
      (pss_one (ps_expr (pe_bm PySem.F.plainAttrs_list PySem.F.slot_list_append PySem.F.type_list_append mt_append (pv 1) (pa_cons (pv 4) pa_nil)))))))
      (pss_one (ps_ret (pv 1))))))), ?_⟩
  rw [st_spans_in]
  obtain ⟨d, hd, hT, k1, k2⟩ := h
  wtm_at "go"
  refine ite_n (fun hb => ?_) (fun hb => ?_)
  · have e : readSD d = some 0 := by cases d <;> first | rfl | cases hb
    wtm_at "go"
    refine s_raiseX rfl ?_
    wtm_at "go"
    exact s_raised (W := fun cls d _ H => E cls d H) (σ := []) fun e' v ev n o => k2 0 e v e' (by wtm_at "ch") n o
  · obtain ⟨z, rfl⟩ := isStr_inv hb
    obtain rfl := hd.str_inv
    have tz : TxW z := hT z rfl
    have tz1 := tz.1
    wtm_at "go"
    rename_i D v1 e1 n1 o1
    refine ite_d (fun c => ?_) (fun c => ?_)
    · wtm_at "go"
      have hz : tl z = [] := by rw [c]; decide +kernel
      exact k1 z [] rfl (by unfold readS; rw [if_pos hz]) v1 D [] e1 n1 o1 .nil
    · have hne : tl z ≠ [] := fun e => c (str_iff.mpr (by rw [e]; decide +kernel))
      have hr : readS (tl z) = goS 0 [] (wordsL (tl z)) := by unfold readS; rw [if_neg hne]
      wtm_at "go"
      rename_i q v2 e2 n2 s2
      have hP := words_split (z := z)
      have hPt : ∀ y ∈ PySem.Txt.split z (Str.ofString " "), Tx 1000 y := fun y hy => tz.word hy
      have hPn := tz.2.1
      rw [← hP, List.length_map] at hPn
      rw [← hP] at hr
      generalize PySem.Txt.split z (Str.ofString " ") = ps at *
      have hDq : D ≠ q := by wtm_at "ne"
      have oD2 : Own v2 D (.lst []) := by wtm_at "own"
      have ew2 : Ext Non w v2 := by wtm_at "ch"
      have nD : w.H D = none := n1
      clear o1 e1 e2
      refine ⟨q, _, rfl, SqL.of (v2.ok _ _ s2), ?_⟩
      refine forW (ww_enum (xs := _)) (fun i σ u => Ext (One D) v2 u ∧ ∃ (g h r : Option V) (vs : List V) (R : List (Int × Int)), σ = [some (.str z), some (.ref D), g, h, r] ∧ Own u D (.lst vs) ∧ RpA u.S vs (R.map prD) ∧ R.length = i ∧ readS (tl z) = goS i R ((ps.map tl).drop i))
        ⟨Ext.refl _ _, _, _, _, [], [], rfl, oD2, .nil, rfl, by rw [List.drop_zero]; exact hr⟩ (fun i σ u _ p => sql_of (st_go p.1 s2)) ?_ ?_
      · rintro i x σ u v hi ⟨eu, g, h, r, vs, R, rfl, o, ra, hlR, hq⟩ ⟨T, x1, rfl, ev, hT', sT, hx⟩
        rw [List.getElem?_map] at hx
        obtain ⟨y, hy, rfl⟩ := Option.map_eq_some_iff.mp hx
        rw [List.length_map] at hi
        have hdr : (ps.map tl).drop i = tl y :: (ps.map tl).drop (i + 1) := drop_at (by rw [List.getElem?_map, hy]; rfl)
        rw [hdr] at hq
        have lra := ra.length
        rw [List.length_map] at lra
        have rav := ra.go ev
        have ov : Own v D (.lst vs) := by wtm_at "own"
        have e2v : Ext (One D) v2 v := by wtm_at "ch"
        clear eu ev o ra
        wtm_at "go"
        refine ⟨y, rfl, hPt y (List.mem_of_getElem? hy), fun hn v3 e3 => ?_, fun p hp v3 t3 e3 s3 => ?_⟩
        · rw [goS_none hn] at hq
          wtm_at "go"
          have ew3 : Ext Non w v3 := ew2.step (e2v.step e3 fun _ z => z.elim) fun b hb => .inl (by rw [show b = D from hb]; exact nD)
          refine s_raiseX rfl ?_
          wtm_at "go"
          refine s_raised (W := fun cls d _ H => E cls d H) (σ := []) fun e' v' ev' n o => k2 i ?_ v' e' (ew3.trans ev') (ew3.back n) o
          show (match readS (tl z) with | .inl i => _ | .inr R => _) = _
          rw [hq]
        · rw [goS_some hp] at hq
          have e23 : Ext (One D) v2 v3 := e2v.step e3 fun _ z => z.elim
          have ra3 := rav.go e3
          have o3 := ov.ext e3 fun z => z
          clear e3 ov rav e2v
          have hnear : tooNear R p = true → ∀ v' e', Ext Non v3 v' → v3.H e' = none → Own v' e' (.xd [(Str.ofString "at", .int (i : Int))]) → E (.ref C_NoText) (some e') v'.H := fun hc v' e' ev' n o => by
            have ew3 : Ext Non w v3 := ew2.step e23 fun b hb => .inl (by rw [show b = D from hb]; exact nD)
            refine k2 i ?_ v' e' (ew3.trans ev') (ew3.back n) o
            rw [if_pos hc] at hq
            show (match readS (tl z) with | .inl i => _ | .inr R => _) = _
            rw [hq]
          wtm_at "gs"
          rename_i q4 v4 e4 n4 s4
          refine s_neN (by wtm_at "rd") (by wtm_at "rpa") (by wtm_at "stb") ?_
          have ra4 := ra3.go e4
          have o4 := o3.ext e4 fun z => z
          have e24 := e23.step e4 fun _ z => z.elim
          have s34 := st_go e4 s3
          clear e23 ra3 o3 s3 s4 n4
          rcases nil_or_snoc R with rfl | ⟨R, ⟨a, b⟩, rfl⟩
          · rw [near_nil, if_neg (by decide)] at hq
            rw [show (!([] : List (Int × Int)).isEmpty) = false from rfl]
            wtm_at "gs"
            refine ⟨by wtm_at "ch", _, _, _, _, [p], rfl, by wtm_at "own", ?_, by rw [← hlR]; rfl, hq⟩
            obtain rfl := List.eq_nil_of_length_eq_zero lra
            exact .one (pr_rp (by wtm_at "stb"))
          · rw [show (!(R ++ [(a, b)]).isEmpty) = true by simp]
            rw [List.map_append] at ra4
            obtain ⟨us, y5, rfl, hu1, hu2⟩ := RpA.snoc_inv ra4
            obtain ⟨t2, rfl, ht2⟩ := pr_inv hu2
            have hul : us.length + 1 < 3000 := by rw [List.length_append] at lra hlR; simp only [List.length_cons, List.length_nil] at lra hlR; rw [List.length_append] at lra; simp only [List.length_cons, List.length_nil] at lra; omega
            rw [near_snoc] at hq hnear
            wtm_at "gs"
            refine ite_d (fun hc => ?_) (fun hc => ?_)
            · wtm_at "gs"
              refine s_raiseX rfl ?_
              wtm_at "gs"
              exact s_raised (W := fun cls d _ H => E cls d H) (σ := []) fun e' v' ev' n o => hnear (decide_eq_true hc) v' e' (e4.trans ev') (e4.back n) o
            · rw [if_neg (by rw [decide_eq_false hc]; decide)] at hq
              wtm_at "gs"
              refine ⟨by wtm_at "ch", _, _, _, _, R ++ [(a, b)] ++ [p], rfl, by wtm_at "own", ?_, by rw [List.length_append, hlR]; rfl, hq⟩
              rw [List.map_append, List.map_append]
              exact RpA.append (RpA.append (by wtm_at "rpa") (.one (by wtm_at "rp"))) (.one (pr_rp (by wtm_at "stb")))
      · rintro σ u ⟨eu, g, h, r, vs, R, rfl, o, ra, hlR, hq⟩
        rw [List.drop_of_length_le (by simp)] at hq
        have hq2 : readS (tl z) = .inr R := hq
        have ewu : Ext Non w u := ew2.step eu fun b hb => .inl (by rw [show b = D from hb]; exact nD)
        wtm_at "go"
        exact k1 z R rfl hq2 u D vs ewu nD o ra
/-- the script -/
def Scr (K : PySem.W.Frag) (w : Wd) (v : V) : Prop := ∃ a, ∃ ns : List Int, v = .ref a ∧ SqL K w.S a (ns.map V.int) ∧ ns.length ≤ 63
theorem Scr.go {K : PySem.W.Frag} {w u : Wd} {v : V} {m : Addr → Prop} (e : Ext m w u) (h : Scr K w v) : Scr K u v := by
  obtain ⟨a, ns, rfl, h1, h2⟩ := h
  exact ⟨a, ns, rfl, sq_go e h1, h2⟩
/-- a purse of numbers stands at a -/
def Purse (w : Wd) (a : Addr) : Prop := ∃ l s t : Int, 0 ≤ l ∧ Own w a (.dK [(.inr "left", .int l), (.inr "seed", .int s), (.inr "at", .int t)])
theorem Purse.go {w u : Wd} {a : Addr} {m : Addr → Prop} (e : Ext m w u) (n : ¬ m a) (h : Purse w a) : Purse u a := by
  obtain ⟨l, s, t, h0, h⟩ := h
  exact ⟨l, s, t, h0, h.ext e n⟩
/-! _law_cell -/
abbrev s_l_cell : Stmt := top 15
abbrev nm_l_cell : List Str := ["_law_script", "_law_k"]
theorem sc_l_cell : FnScope nm_l_cell ["_law_script", "_law_k"] (defScope s_l_cell) := ⟨rfl, rfl, rfl, by decide +kernel, rfl, by decide +kernel, by decide +kernel⟩
theorem st_l_cell (a b : V) : start nm_l_cell [a, b] = [some a, some b] := rfl
def p_l_cell (K : PySem.W.Frag) (w : Wd) (a b : V) (Q : VK) (_ : XK) : Prop := ∃ k : Int, Scr K w a ∧ b = .int k ∧ 0 ≤ k ∧ ∀ v z, Ext Non w v → Q (.int z) v.H
theorem ok_l_cell {f : Addr} {fd : FuncData} {C_LogError C_NoSpans C_NoText : Addr} (F : Fun K "_law_cell" "_law_cell" s_l_cell f fd) (T : Txt K mg C_LogError C_NoSpans C_NoText)  : FnOk P ww K mg base CX0 1 f fd ["_law_script", "_law_k"] (pr2 (p_l_cell K)) := by
  refine F.ok sc_l_cell (fun vs H Q E h => len2 h) (fun cdv A outer s H vs Q E hr h => ?_)
  obtain ⟨w, x0, x1,  rfl, rfl, h⟩ := h
  have oex_NoSpans := T.oex_NoSpans; have xf_NoSpans := T.xf_NoSpans; have ec_NoSpans := T.ec_NoSpans; have xn_NoSpans := T.xn_NoSpans
  have oex_NoText := T.oex_NoText; have xf_NoText := T.xf_NoText; have ec_NoText := T.ec_NoText; have xn_NoText := T.xn_NoText
  have rel_NoText_NoText := T.rel_NoText_NoText
  have rel_NoText_ValueError := T.rel_NoText_ValueError
  have rel_NoText_NoSpans := T.rel_NoText_NoSpans
  have exm_NoText_LogError := T.exm_NoText_LogError
  refine ⟨_, (pss_cons (ps_if (pt_cmpR g_lt (pv 1) (pe_callB (kLen K) (by rfl) T.n_len (by decide +kernel) (pa_cons (pv 0) pa_nil)) (nomark _)) (pss_one (ps_ret (pe_ix (kIx K) (pv 0) (pv 1) (fun _ _ => rfl)))) pss_nil)
      (pss_one (ps_ret pe_int))), ?_⟩
  rw [st_l_cell]
  obtain ⟨k, ⟨a, ns, rfl, hs, hl⟩, rfl, h0, q⟩ := h
  have hs' : SqL K w.H a (ns.map V.int) := w.ok.seq hs
  wtm_at "go"
  refine s_lenK hs' ?_
  wtm_at "go"
  refine ite_d (fun hb => ?_) (fun hb => ?_)
  · wtm_at "go"
    rw [List.length_map] at hb
    refine ⟨_, .int ns[k.toNat], .inl hs', ?_, ?_⟩
    · rw [atI_nn h0 (by rw [List.length_map]; omega), List.getElem?_map, List.getElem?_eq_getElem (by omega)]
      rfl
    · exact q w _ (Ext.refl _ _)
  · wtm_at "go"
    exact q w 0 (Ext.refl _ _)
/-! _law_purse -/
abbrev s_l_purse : Stmt := top 16
abbrev nm_l_purse : List Str := ["_law_cell_here"]
theorem sc_l_purse : FnScope nm_l_purse ["_law_cell_here"] (defScope s_l_purse) := ⟨rfl, rfl, rfl, by decide +kernel, rfl, by decide +kernel, by decide +kernel⟩
theorem st_l_purse (a : V) : start nm_l_purse [a] = [some a] := rfl
def p_l_purse (w : Wd) (a : V) (Q : VK) (_ : XK) : Prop := ∃ k : Int, a = .int k ∧ ∀ v p, Ext Non w v → w.H p = none → Purse v p → Q (.ref p) v.H
theorem ok_l_purse {f : Addr} {fd : FuncData} {C_LogError C_NoSpans C_NoText : Addr} (F : Fun K "_law_purse" "_law_purse" s_l_purse f fd) (T : Txt K mg C_LogError C_NoSpans C_NoText)  : FnOk P ww K mg base CX0 1 f fd ["_law_cell_here"] (pr1 (p_l_purse)) := by
  refine F.ok sc_l_purse (fun vs H Q E h => len1 h) (fun cdv A outer s H vs Q E hr h => ?_)
  obtain ⟨w, x0,  rfl, rfl, h⟩ := h
  have oex_NoSpans := T.oex_NoSpans; have xf_NoSpans := T.xf_NoSpans; have ec_NoSpans := T.ec_NoSpans; have xn_NoSpans := T.xn_NoSpans
  have oex_NoText := T.oex_NoText; have xf_NoText := T.xf_NoText; have ec_NoText := T.ec_NoText; have xn_NoText := T.xn_NoText
  have rel_NoText_NoText := T.rel_NoText_NoText
  have rel_NoText_ValueError := T.rel_NoText_ValueError
  have rel_NoText_NoSpans := T.rel_NoText_NoSpans
  have exm_NoText_LogError := T.exm_NoText_LogError
  refine ⟨_, (pss_one (ps_ret (pe_disp (pps_cons pe_str (pe_callB (kMax K rfl) (by rfl) T.n_max (by decide +kernel) (pa_cons pe_int (pa_cons (pe_op g_sub (pv 0) (pe_op g_pow pe_int pe_int)) pa_nil))) (pps_cons pe_str (pe_op g_mod (pv 0) pe_int) (pps_cons pe_str pe_int pps_nil))) (by rfl) (by rfl) (fun z => by cases z) (by decide)))), ?_⟩
  rw [st_l_purse]
  obtain ⟨k, rfl, q⟩ := h
  wtm_at "go"
  intro p v e n o
  wtm_at "go"
  refine t_dispE o [(.inr "left", .int (max 0 (k - 10 ^ 18))), (.inr "seed", .int (k % 2147483647)), (.inr "at", .int 0)] _ rfl (mergeK_nd (show ([.inr "left", .inr "seed", .inr "at"] : List Key).Nodup by decide +kernel)) (by simp) (fun u e o => ?_)
  exact q u p (by wtm_at "ch") n ⟨_, _, _, by omega, o⟩
/-! _law_take -/
abbrev s_l_take : Stmt := top 17
abbrev nm_l_take : List Str := ["_law_purse_here", "_law_many", "_law_digit", "_law_number"]
theorem sc_l_take : FnScope nm_l_take ["_law_purse_here", "_law_many"] (defScope s_l_take) := ⟨rfl, rfl, rfl, by decide +kernel, rfl, by decide +kernel, by decide +kernel⟩
theorem st_l_take (a b : V) : start nm_l_take [a, b] = [some a, some b, none, none] := rfl
def p_l_take (w : Wd) (a b : V) (Q : VK) (_ : XK) : Prop := ∃ p, ∃ m : Int, a = .ref p ∧ b = .int m ∧ Purse w p ∧ 0 < m ∧ m < 2 ^ 200 ∧ ∀ v d, Ext (One p) w v → Purse v p → 0 ≤ d → d < m → Q (.int d) v.H
theorem ok_l_take {f : Addr} {fd : FuncData} {C_LogError C_NoSpans C_NoText : Addr} (F : Fun K "_law_take" "_law_take" s_l_take f fd) (T : Txt K mg C_LogError C_NoSpans C_NoText)  : FnOk P ww K mg base CX0 1 f fd ["_law_purse_here", "_law_many"] (pr2 (p_l_take)) := by
  refine F.ok sc_l_take (fun vs H Q E h => len2 h) (fun cdv A outer s H vs Q E hr h => ?_)
  obtain ⟨w, x0, x1,  rfl, rfl, h⟩ := h
  have oex_NoSpans := T.oex_NoSpans; have xf_NoSpans := T.xf_NoSpans; have ec_NoSpans := T.ec_NoSpans; have xn_NoSpans := T.xn_NoSpans
  have oex_NoText := T.oex_NoText; have xf_NoText := T.xf_NoText; have ec_NoText := T.ec_NoText; have xn_NoText := T.xn_NoText
  have rel_NoText_NoText := T.rel_NoText_NoText
  have rel_NoText_ValueError := T.rel_NoText_ValueError
  have rel_NoText_NoSpans := T.rel_NoText_NoSpans
  have exm_NoText_LogError := T.exm_NoText_LogError
  refine ⟨_, (pss_cons (ps_if (pt_cmpR g_gt (pe_dget (hu_of hr) (pv 0) pe_str (fun _ _ => rfl)) pe_int (nomark _)) (pss_cons (ps_set (i := 2) sc_l_take.nd rfl (Or.inl rfl) (pe_op g_mod (pe_dget (hu_of hr) (pv 0) pe_str (fun _ _ => rfl)) (pv 1)))
      (pss_cons (ps_dput (hu_of hr) (pv 0) pe_str (pe_op g_div (pe_dget (hu_of hr) (pv 0) pe_str (fun _ _ => rfl)) (pv 1)) rfl)
      (pss_one (ps_ret (pv 2))))) pss_nil)
      (pss_cons (ps_dput (hu_of hr) (pv 0) pe_str (pe_op (kAdd K) (pe_dget (hu_of hr) (pv 0) pe_str (fun _ _ => rfl)) pe_int) rfl)
      (pss_cons (ps_set (i := 3) sc_l_take.nd rfl (Or.inl rfl) (pe_op g_mod (pe_op (kMul K) (pe_op (kAdd K) (pe_dget (hu_of hr) (pv 0) pe_str (fun _ _ => rfl)) (pe_op (kMul K) pe_int (pe_dget (hu_of hr) (pv 0) pe_str (fun _ _ => rfl)))) pe_int) pe_int))
      (pss_cons (ps_set (i := 3) sc_l_take.nd rfl (Or.inl rfl) (pe_op g_mod (pe_op (kMul K) (pv 3) (pv 3)) pe_int))
      (pss_cons (ps_set (i := 3) sc_l_take.nd rfl (Or.inl rfl) (pe_op g_mod (pe_op (kMul K) (pe_op (kAdd K) (pv 3) pe_int) (pe_op (kAdd K) (pv 3) (pe_dget (hu_of hr) (pv 0) pe_str (fun _ _ => rfl)))) pe_int))
      (pss_one (ps_ret (pe_op g_mod (pe_op g_div (pe_op g_mod (pe_op (kMul K) (pv 3) (pe_op (kAdd K) (pv 3) pe_int)) pe_int) pe_int) (pv 1))))))))), ?_⟩
  rw [st_l_take]
  obtain ⟨p, m, rfl, rfl, ⟨l, s, t, hl, o⟩, h1, h2, q⟩ := h
  wtm_at "go"
  refine ite_d (fun hb => ?_) (fun hb => ?_)
  · wtm_at "go"
    refine q _ _ (by wtm_at "ch") ⟨_, _, _, ?_, by wtm_at "own"⟩ (Int.emod_nonneg _ (by omega)) (Int.emod_lt_of_pos _ h1)
    exact Int.ediv_nonneg hl (by omega)
  · wtm_at "go"
    exact q _ _ (by wtm_at "ch") ⟨_, _, _, hl, by wtm_at "own"⟩ (Int.emod_nonneg _ (by omega)) (Int.emod_lt_of_pos _ h1)
theorem take_s {w : Wd} {p : Addr} {m : Int} {Q : VK} {E : XK} (pu : Purse w p) (a : 0 < m) (b : m < 2 ^ 200) (k : ∀ v d, Ext (One p) w v → Purse v p → 0 ≤ d → d < m → Q (.int d) v.H) : p_l_take w (.ref p) (.int m) Q E := ⟨p, m, rfl, rfl, pu, a, b, k⟩
theorem purse_new {w : Wd} {p l : Addr} (n : w.H l = none) (h : Purse w p) : l ≠ p := by
  obtain ⟨_, _, _, _, o⟩ := h
  exact o.ne' n
theorem purse_new' {w : Wd} {p l : Addr} (n : w.H l = none) (h : Purse w p) : p ≠ l := (purse_new n h).symm
theorem purse_st {w : Wd} {p l : Addr} {o : HO} (n : w.S l = some o) (h : Purse w p) : p ≠ l := by
  obtain ⟨_, _, _, _, q⟩ := h
  exact q.nes n
local macro_rules | `(tactic| wtm_at "purse") => `(tactic| first
  | assumption
  | (refine' Purse.go (by assumption) ?nm ?pu; (case nm => wtm_at "nm"); (case pu => wtm_at "purse")))
local macro_rules | `(tactic| wtm_at "ne") => `(tactic| first
  | (refine' purse_new ?n ?pu; (case n => assumption); (case pu => wtm_at "purse"))
  | (refine' purse_new' ?n ?pu; (case n => assumption); (case pu => wtm_at "purse")))
local macro_rules | `(tactic| wtm_at "go1") => `(tactic|
  (with_reducible refine' take_s ?pu ?a ?b ?k; (case pu => wtm_at "purse"); (case a => first | decide | omega); (case b => first | decide | omega); (intro _v _d _e _pu _h0 _h1)))

/-- a list of pairs at a, to be read -/
def Ls (w : Wd) (a : V) (rows : List (Int × Int)) : Prop := ∃ p vs, a = .ref p ∧ Rd w p (.lst vs) ∧ RpA w.S vs (rows.map prD)
/-- the answer: a new list of pairs, the caller's own -/
def Tells (w : Wd) (Q : VK) (P : List (Int × Int) → Prop) : Prop := ∀ v r vs out, Ext Non w v → w.H r = none → Own v r (.lst vs) → RpA v.S vs (out.map prD) → P out → Q (.ref r) v.H
theorem ls_of {w : Wd} {a : V} {rows : List (Int × Int)} (h : Rp w.S a (spD rows)) : Ls w a rows := by
  obtain ⟨p, vs, rfl, h1, h2⟩ := h.list_inv
  exact ⟨p, vs, rfl, .inl h1, h2⟩
theorem tells_lay {w : Wd} {Q : VK} {P : List (Int × Int) → Prop} (k : ∀ v r out, Ext Non w v → Rp v.S r (spD out) → P out → Q r v.H) : Tells w Q P := fun v r vs out e n o h p =>
  lay (R := Q (.ref r)) o fun v' e' s' => k v' (.ref r) out (e.step e' fun l hl => .inl (by rw [show l = r from hl]; exact n)) (.lst s' (h.go e')) p
theorem int_at {ns : List Int} {i : Nat} {x : V} (h : (ns.map V.int)[i]? = some x) : ∃ n, x = .int n := by
  rw [List.getElem?_map] at h
  cases e : ns[i]? with
  | none => rw [e] at h; cases h
  | some n => rw [e] at h; exact ⟨n, (Option.some.inj h).symm⟩

/-! spans_text -/
abbrev s_spans_text : Stmt := top 11
abbrev nm_spans_text : List Str := ["spans", "words", "low", "high"]
theorem sc_spans_text : FnScope nm_spans_text ["spans"] (defScope s_spans_text) := ⟨rfl, rfl, rfl, by decide +kernel, rfl, by decide +kernel, by decide +kernel⟩
theorem st_spans_text (a : V) : start nm_spans_text [a] = [some a, none, none, none] := rfl
def p_spans_text (w : Wd) (a : V) (Q : VK) (_ : XK) : Prop := ∃ R, Ls w a R ∧ Near30 R ∧ R.length ≤ 1000 ∧ ∀ v, Ext Non w v → Q (.str (mkZ (spansL R))) v.H
theorem ok_spans_text {f : Addr} {fd : FuncData} {C_LogError C_NoSpans C_NoText : Addr} (F : Fun K "spans_text" "spans_text" s_spans_text f fd) (T : Txt K mg C_LogError C_NoSpans C_NoText)  : FnOk P ww K mg base CX0 1 f fd ["spans"] (pr1 (p_spans_text)) := by
  refine F.ok sc_spans_text (fun vs H Q E h => len1 h) (fun cdv A outer s H vs Q E hr h => ?_)
  obtain ⟨w, x0,  rfl, rfl, h⟩ := h
  have oex_NoSpans := T.oex_NoSpans; have xf_NoSpans := T.xf_NoSpans; have ec_NoSpans := T.ec_NoSpans; have xn_NoSpans := T.xn_NoSpans
  have oex_NoText := T.oex_NoText; have xf_NoText := T.xf_NoText; have ec_NoText := T.ec_NoText; have xn_NoText := T.xn_NoText
  have rel_NoText_NoText := T.rel_NoText_NoText
  have rel_NoText_ValueError := T.rel_NoText_ValueError
  have rel_NoText_NoSpans := T.rel_NoText_NoSpans
  have exm_NoText_LogError := T.exm_NoText_LogError
  refine ⟨_, (pss_cons (ps_set (i := 1) sc_spans_text.nd rfl (Or.inl rfl) (pe_lst pa_nil))
      (pss_cons (ps_for PassesOwn.never rfl (kpList K (pv 0)) (kgTup K (by rfl) (pgs_cons (pg_name (i := 2) sc_spans_text.nd rfl (Or.inl rfl)) (pgs_cons (pg_name (i := 3) sc_spans_text.nd rfl (Or.inl rfl)) pgs_nil))) (pss_one (ps_if (pt_cmpR (kEq K hr.units) (pv 2) (pv 3) (nomark _)) (pss_one (ps_expr (pe_bm PySem.F.plainAttrs_list PySem.F.slot_list_append PySem.F.type_list_append mt_append (pv 1) (pa_cons (pe_callTy g_str (by rfl) T.n_str (by decide +kernel) (pa_cons (pv 2) pa_nil)) pa_nil)))) (pss_one (ps_expr (pe_bm PySem.F.plainAttrs_list PySem.F.slot_list_append PySem.F.type_list_append mt_append (pv 1) (pa_cons (pe_op (kAdd K) (pe_op (kAdd K) (pe_callTy g_str (by rfl) T.n_str (by decide +kernel) (pa_cons (pv 2) pa_nil)) pe_str) (pe_callTy g_str (by rfl) T.n_str (by decide +kernel) (pa_cons (pv 3) pa_nil))) pa_nil)))))))
      (pss_one (ps_ret (pe_join pe_str (pv 1)))))), ?_⟩
  rw [st_spans_text]
  obtain ⟨R, ⟨p, vs, rfl, rd, ra⟩, hN, hl, k⟩ := h
  have la := ra.length
  rw [List.length_map] at la
  wtm_at "go"
  rename_i f v1 e1 n1 o1
  have rd1 : Rd v1 p (.lst vs) := rd.go e1 fun z => z
  have hpf : p ≠ f := rd.ne n1
  have o0 : Own v1 f (.lst ((wordsZ (R.take 0)).map V.str)) := o1
  refine forW (ww_list (xs := vs)) (fun i σ u => Ext (One f) v1 u ∧ ∃ (g h : Option V), σ = [some (.ref p), some (.ref f), g, h] ∧ Own u f (.lst ((wordsZ (R.take i)).map V.str))) ⟨Ext.refl _ _, _, _, rfl, o0⟩ (fun i σ u _ q => SqL.of (Rd.h (rd1.go q.1 hpf))) ?_ ?_
  · rintro i x σ _ u hi ⟨eu, g, h, rfl, ou⟩ ⟨rfl, hx⟩
    obtain ⟨d, h3, h4⟩ := ra.get hx
    have hi' : i < R.length := by omega
    have h3' : d = prD R[i] := by rw [List.getElem?_map, List.getElem?_eq_getElem hi'] at h3; exact (Option.some.inj h3).symm
    subst h3'
    have hq : R[i]? = some R[i] := List.getElem?_eq_getElem hi'
    have hb := hN _ (List.mem_of_getElem? hq)
    have htk : wordsZ (R.take (i + 1)) = wordsZ (R.take i) ++ [mkZ (stretchL R[i])] := by
      unfold wordsZ
      rw [List.take_add_one, hq, List.map_append]
      rfl
    rw [htk]
    generalize R[i] = q at hq h4 hb htk
    obtain ⟨t, rfl, ht⟩ := pr_inv ((h4.go e1).go eu)
    have lW : (wordsZ (R.take i)).length < 2 ^ 20 := by
      unfold wordsZ
      rw [List.length_map, List.length_take]
      omega
    generalize wordsZ (R.take i) = W at ou lW
    wtm_at "go"
    refine ite_d (fun c => ?_) (fun c => ?_)
    · wtm_at "go"
      refine ⟨by wtm_at "ch", _, _, rfl, ?_⟩
      rw [List.map_append, ← str_one c]
      wtm_at "own"
    · wtm_at "go"
      refine ⟨by wtm_at "ch", _, _, rfl, ?_⟩
      rw [List.map_append, ← str_two c]
      wtm_at "own"
  · rintro σ u ⟨eu, g, h, rfl, ou⟩
    rw [List.take_of_length_le (by omega)] at ou
    have h2 : (Str.ofString " ").length = 1 := (by decide +kernel)
    have hs := words_len hN
    have hw : (wordsZ R).length = R.length := by unfold wordsZ; rw [List.length_map]
    wtm_at "go"
    refine ⟨_, f, wordsZ R, rfl, rfl, .inl (SqL.of ou.h), by rw [hw, h2]; omega, ?_⟩
    rw [TL.join_eq, join_words]
    wtm_at "go"
    exact k u (e1.step eu fun b hb => .inl (by rw [show b = f from hb]; exact n1))
/-! _law_stretches -/
abbrev s_l_stretches : Stmt := top 18
abbrev nm_l_stretches : List Str := ["_law_purse_here", "_law_wide", "_law_far", "_law_many", "_law_found", "_law_k", "_law_low", "_law_high"]
theorem sc_l_stretches : FnScope nm_l_stretches ["_law_purse_here"] (defScope s_l_stretches) := ⟨rfl, rfl, rfl, by decide +kernel, rfl, by decide +kernel, by decide +kernel⟩
theorem st_l_stretches (a : V) : start nm_l_stretches [a] = [some a, none, none, none, none, none, none, none] := rfl
def p_l_stretches (w : Wd) (a : V) (Q : VK) (_ : XK) : Prop := ∃ p, a = .ref p ∧ Purse w p ∧ ∀ v r (rows : List (Int × Int)), Ext (One p) w v → Purse v p → Rp v.S r (spD rows) → rows.length ≤ 60 → (∀ q ∈ rows, -(10 ^ 30) < q.1 ∧ q.2 < 10 ^ 30) → Q r v.H
theorem ok_l_stretches {f : Addr} {fd : FuncData} {C_LogError C_NoSpans C_NoText : Addr} (F : Fun K "_law_stretches" "_law_stretches" s_l_stretches f fd) (T : Txt K mg C_LogError C_NoSpans C_NoText) (c_l_take : Fnc P ww K mg base CX0 1 "_law_take" (pr2 (p_l_take))) : FnOk P ww K mg base CX0 2 f fd ["_law_purse_here"] (pr1 (p_l_stretches)) := by
  refine F.ok sc_l_stretches (fun vs H Q E h => len1 h) (fun cdv A outer s H vs Q E hr h => ?_)
  obtain ⟨w, x0,  rfl, rfl, h⟩ := h
  have oex_NoSpans := T.oex_NoSpans; have xf_NoSpans := T.xf_NoSpans; have ec_NoSpans := T.ec_NoSpans; have xn_NoSpans := T.xn_NoSpans
  have oex_NoText := T.oex_NoText; have xf_NoText := T.xf_NoText; have ec_NoText := T.ec_NoText; have xn_NoText := T.xn_NoText
  have rel_NoText_NoText := T.rel_NoText_NoText
  have rel_NoText_ValueError := T.rel_NoText_ValueError
  have rel_NoText_NoSpans := T.rel_NoText_NoSpans
  have exm_NoText_LogError := T.exm_NoText_LogError
  refine ⟨_, (pss_cons (ps_set (i := 1) sc_l_stretches.nd rfl (Or.inl rfl) (pe_ix (kIx K) (pe_lst (pa_cons pe_int (pa_cons pe_int (pa_cons (pe_op g_pow pe_int pe_int) (pa_cons (pe_op g_pow pe_int pe_int) pa_nil))))) (pe_fn c_l_take hr (by decide) pass0 (pa_cons (pv 0) (pa_cons pe_int pa_nil))) (fun _ _ => rfl)))
      (pss_cons (ps_set (i := 2) sc_l_stretches.nd rfl (Or.inl rfl) (pe_op (kMul K) (pe_fn c_l_take hr (by decide) pass0 (pa_cons (pv 0) (pa_cons (pe_op g_pow pe_int pe_int) pa_nil))) (pe_ix (kIx K) (pe_lst (pa_cons pe_int (pa_cons pe_int (pa_cons (pe_op g_pow pe_int pe_int) pa_nil)))) (pe_fn c_l_take hr (by decide) pass0 (pa_cons (pv 0) (pa_cons pe_int pa_nil))) (fun _ _ => rfl))))
      (pss_cons (ps_set (i := 3) sc_l_stretches.nd rfl (Or.inl rfl) (pe_ix (kIx K) (pe_lst (pa_cons (pe_fn c_l_take hr (by decide) pass0 (pa_cons (pv 0) (pa_cons pe_int pa_nil))) (pa_cons (pe_op (kAdd K) pe_int (pe_fn c_l_take hr (by decide) pass0 (pa_cons (pv 0) (pa_cons pe_int pa_nil)))) pa_nil))) (pe_op g_div (pe_fn c_l_take hr (by decide) pass0 (pa_cons (pv 0) (pa_cons pe_int pa_nil))) pe_int) (fun _ _ => rfl)))
      (pss_cons (ps_set (i := 4) sc_l_stretches.nd rfl (Or.inl rfl) (pe_lst pa_nil))
      (pss_cons (ps_for PassesOwn.never rfl (pi_range1 rfl T.n_range (pa_cons (pv 3) pa_nil)) (pg_name (i := 5) sc_l_stretches.nd rfl (Or.inl rfl)) (pss_cons (ps_set (i := 6) sc_l_stretches.nd rfl (Or.inl rfl) (pe_op g_sub (pe_fn c_l_take hr (by decide) pass0 (pa_cons (pv 0) (pa_cons (pv 1) pa_nil))) (pe_op g_div (pv 1) pe_int)))
      (pss_cons (ps_set (i := 7) sc_l_stretches.nd rfl (Or.inl rfl) (pe_op (kAdd K) (pv 6) (pe_ix (kIx K) (pe_lst (pa_cons (pe_op g_sub (pe_fn c_l_take hr (by decide) pass0 (pa_cons (pv 0) (pa_cons pe_int pa_nil))) pe_int) (pa_cons (pe_op g_sub (pe_op g_div (pe_fn c_l_take hr (by decide) pass0 (pa_cons (pv 0) (pa_cons (pv 1) pa_nil))) pe_int) pe_int) pa_nil))) (pe_fn c_l_take hr (by decide) pass0 (pa_cons (pv 0) (pa_cons pe_int pa_nil))) (fun _ _ => rfl))))
      (pss_one (ps_expr (pe_bm PySem.F.plainAttrs_list PySem.F.slot_list_append PySem.F.type_list_append mt_append (pv 4) (pa_cons (pe_tup (pa_cons (pe_op (kAdd K) (pv 6) (pv 2)) (pa_cons (pe_op (kAdd K) (pv 7) (pv 2)) pa_nil))) pa_nil)))))))
      (pss_one (ps_ret (pv 4)))))))), ?_⟩
  rw [st_l_stretches]
  obtain ⟨p, rfl, pu, q⟩ := h
  wtm_at "gs"
  wtm_at "ixm"
  intro v hv hm
  simp only [List.mem_cons, List.not_mem_nil, or_false] at hm
  obtain ⟨wide, rfl, hw0, hw1⟩ : ∃ n : Int, v = .int n ∧ 0 < n ∧ n ≤ 10 ^ 28 := by
    rcases hm with rfl | rfl | rfl | rfl <;> exact ⟨_, rfl, by decide, by decide⟩
  wtm_at "gs"
  wtm_at "ixm"
  intro v hv2 hm2
  simp only [List.mem_cons, List.not_mem_nil, or_false] at hm2
  obtain ⟨fz, rfl, hf0, hf1⟩ : ∃ n : Int, v = .int n ∧ 0 ≤ n ∧ n ≤ 10 ^ 20 := by
    rcases hm2 with rfl | rfl | rfl <;> exact ⟨_, rfl, by decide, by decide⟩
  wtm_at "gs"
  wtm_at "ixm"
  intro v hv3 hm3
  simp only [List.mem_cons, List.not_mem_nil, or_false] at hm3
  obtain ⟨many, rfl, hmany⟩ : ∃ n : Nat, v = .int n ∧ n ≤ 60 := by
    rcases hm3 with rfl | rfl <;> exact ⟨_, congrArg V.int (Int.toNat_of_nonneg (by omega)).symm, by omega⟩
  wtm_at "go"
  rename_i f wc ec nf of
  have hpf : p ≠ f := by wtm_at "ne"
  have hwcp : Purse wc p := by wtm_at "purse"
  have hfar : ∀ d : Int, 0 ≤ d → d < 10 ^ 8 → 0 ≤ d * fz ∧ d * fz ≤ 10 ^ 28 := fun d h0 h1 => by
    refine ⟨Int.mul_nonneg h0 hf0, ?_⟩
    have h2 : d * fz ≤ 10 ^ 8 * 10 ^ 20 := Int.mul_le_mul (by omega) hf1 hf0 (by decide)
    have h3 : (10 : Int) ^ 8 * 10 ^ 20 = 10 ^ 28 := by decide
    omega
  generalize hfe : _ * fz = far
  have hF : 0 ≤ far ∧ far ≤ 10 ^ 28 := by rw [← hfe]; exact hfar _ (by assumption) (by omega)
  clear hfe hfar hv hv2 hv3 hm hm2 hm3
  refine forW (ww_range (lo := 0) (m := _)) (fun i σ u => Ext (Two p f) wc u ∧ Purse u p ∧ ∃ (us : List V) (rows : List (Int × Int)) (k l h : Option V), σ = [some (.ref p), some (.int wide), some (.int far), some (.int many), some (.ref f), k, l, h] ∧
      Own u f (.lst us) ∧ RpA u.S us (rows.map prD) ∧ rows.length = i ∧ ∀ q ∈ rows, -(10 ^ 30) < q.1 ∧ q.2 < 10 ^ 30) ⟨Ext.refl _ _, hwcp, [], [], _, _, _, rfl, of, .nil, rfl, by simp⟩ (fun _ _ _ _ _ => trivial) ?_ ?_
  · rintro i x σ _ u hi ⟨eu, pu, us, rows, k, l, h, rfl, ou, hus, hl, hbd⟩ ⟨rfl, rfl⟩
    have hul := hus.length
    rw [List.length_map] at hul
    have hi : i < 60 := by omega
    wtm_at "gs"
    wtm_at "ixm"
    intro v hv4 hm4
    simp only [List.mem_cons, List.not_mem_nil, or_false] at hm4
    obtain ⟨hz, rfl, hhz⟩ : ∃ n : Int, v = .int n ∧ n ≤ 10 ^ 28 := by rcases hm4 with rfl | rfl <;> exact ⟨_, rfl, by omega⟩
    wtm_at "gs"
    refine ⟨by wtm_at "ch", by wtm_at "purse", _, rows ++ [(?a, ?b)], _, _, _, rfl, by wtm_at "own", ?r, by simp [hl], ?bd⟩
    case r =>
      rw [List.map_append]
      exact RpA.append (by wtm_at "rpa") (.one (pr_rp (by wtm_at "stb")))
    case bd =>
      intro q hq
      rcases List.mem_append.mp hq with hq | hq
      · exact hbd q hq
      · obtain rfl := List.mem_singleton.mp hq
        constructor
        · show _ < _ + _
          omega
        · show _ + _ < _
          omega
  · rintro σ u ⟨eu, pu, us, rows, k, l, h, rfl, ou, hus, hl, hbd⟩
    wtm_at "go"
    refine lay (R := Q (.ref f)) ou fun v ev sv => ?_
    exact q v _ rows (by wtm_at "ch") (by wtm_at "purse") (.lst sv (by wtm_at "rpa")) (by omega) hbd
/-! _law_words -/
abbrev s_l_words : Stmt := top 20
abbrev nm_l_words : List Str := ["_law_spans", "_law_words_here", "_law_low", "_law_high", "_law_word"]
theorem sc_l_words : FnScope nm_l_words ["_law_spans"] (defScope s_l_words) := ⟨rfl, rfl, rfl, by decide +kernel, rfl, by decide +kernel, by decide +kernel⟩
theorem st_l_words (a : V) : start nm_l_words [a] = [some a, none, none, none, none] := rfl
def p_l_words (w : Wd) (a : V) (Q : VK) (_ : XK) : Prop := ∃ R, Ls w a R ∧ Near30 R ∧ R.length ≤ 1000 ∧ ∀ v r, Ext Non w v → v.S r = some (.lst ((wordsZ R).map V.str)) → Q (.ref r) v.H
theorem ok_l_words {f : Addr} {fd : FuncData} {C_LogError C_NoSpans C_NoText : Addr} (F : Fun K "_law_words" "_law_words" s_l_words f fd) (T : Txt K mg C_LogError C_NoSpans C_NoText)  : FnOk P ww K mg base CX0 1 f fd ["_law_spans"] (pr1 (p_l_words)) := by
  refine F.ok sc_l_words (fun vs H Q E h => len1 h) (fun cdv A outer s H vs Q E hr h => ?_)
  obtain ⟨w, x0,  rfl, rfl, h⟩ := h
  have oex_NoSpans := T.oex_NoSpans; have xf_NoSpans := T.xf_NoSpans; have ec_NoSpans := T.ec_NoSpans; have xn_NoSpans := T.xn_NoSpans
  have oex_NoText := T.oex_NoText; have xf_NoText := T.xf_NoText; have ec_NoText := T.ec_NoText; have xn_NoText := T.xn_NoText
  have rel_NoText_NoText := T.rel_NoText_NoText
  have rel_NoText_ValueError := T.rel_NoText_ValueError
  have rel_NoText_NoSpans := T.rel_NoText_NoSpans
  have exm_NoText_LogError := T.exm_NoText_LogError
  refine ⟨_, (pss_cons (ps_set (i := 1) sc_l_words.nd rfl (Or.inl rfl) (pe_lst pa_nil))
      (pss_cons (ps_for PassesOwn.never rfl (kpList K (pv 0)) (kgTup K (by rfl) (pgs_cons (pg_name (i := 2) sc_l_words.nd rfl (Or.inl rfl)) (pgs_cons (pg_name (i := 3) sc_l_words.nd rfl (Or.inl rfl)) pgs_nil))) (pss_cons (ps_set (i := 4) sc_l_words.nd rfl (Or.inl rfl) (pe_callTy g_str (by rfl) T.n_str (by decide +kernel) (pa_cons (pv 2) pa_nil)))
      (pss_cons (ps_if (pt_cmpR g_gt (pv 3) (pv 2) (nomark _)) (pss_one (ps_set (i := 4) sc_l_words.nd rfl (Or.inl rfl) (pe_op (kAdd K) (pe_op (kAdd K) (pv 4) pe_str) (pe_callTy g_str (by rfl) T.n_str (by decide +kernel) (pa_cons (pv 3) pa_nil))))) pss_nil)
      (pss_one (ps_expr (pe_bm PySem.F.plainAttrs_list PySem.F.slot_list_append PySem.F.type_list_append mt_append (pv 1) (pa_cons (pv 4) pa_nil)))))))
      (pss_one (ps_ret (pv 1))))), ?_⟩
  rw [st_l_words]
  obtain ⟨R, ⟨p, vs, rfl, rd, ra⟩, hN, hl, k⟩ := h
  have la := ra.length
  rw [List.length_map] at la
  wtm_at "go"
  rename_i f v1 e1 n1 o1
  have rd1 : Rd v1 p (.lst vs) := rd.go e1 fun z => z
  have hpf : p ≠ f := rd.ne n1
  have o0 : Own v1 f (.lst ((wordsZ (R.take 0)).map V.str)) := o1
  refine forW (ww_list (xs := vs)) (fun i σ u => Ext (One f) v1 u ∧ ∃ (g h k : Option V), σ = [some (.ref p), some (.ref f), g, h, k] ∧ Own u f (.lst ((wordsZ (R.take i)).map V.str))) ⟨Ext.refl _ _, _, _, _, rfl, o0⟩ (fun i σ u _ q => SqL.of (Rd.h (rd1.go q.1 hpf))) ?_ ?_
  · rintro i x σ _ u hi ⟨eu, g, h, k, rfl, ou⟩ ⟨rfl, hx⟩
    obtain ⟨d, h3, h4⟩ := ra.get hx
    have hi' : i < R.length := by omega
    have h3' : d = prD R[i] := by rw [List.getElem?_map, List.getElem?_eq_getElem hi'] at h3; exact (Option.some.inj h3).symm
    subst h3'
    have hq : R[i]? = some R[i] := List.getElem?_eq_getElem hi'
    have hb := hN _ (List.mem_of_getElem? hq)
    have htk : wordsZ (R.take (i + 1)) = wordsZ (R.take i) ++ [mkZ (stretchL R[i])] := by
      unfold wordsZ
      rw [List.take_add_one, hq, List.map_append]
      rfl
    rw [htk]
    generalize R[i] = q at hq h4 hb htk
    obtain ⟨t, rfl, ht⟩ := pr_inv ((h4.go e1).go eu)
    have lW : (wordsZ (R.take i)).length < 2 ^ 20 := by
      unfold wordsZ
      rw [List.length_map, List.length_take]
      omega
    generalize wordsZ (R.take i) = W at ou lW
    wtm_at "go"
    refine ite_d (fun c => ?_) (fun c => ?_)
    · wtm_at "go"
      refine ⟨by wtm_at "ch", _, _, _, rfl, ?_⟩
      rw [List.map_append, ← str_two (by omega)]
      wtm_at "own"
    · wtm_at "go"
      refine ⟨by wtm_at "ch", _, _, _, rfl, ?_⟩
      rw [List.map_append, ← str_one (by omega)]
      wtm_at "own"
  · rintro σ u ⟨eu, g, h, k', rfl, ou⟩
    rw [List.take_of_length_le (by omega)] at ou
    refine lay (R := fun H => tRet (tVar 1) _ _ H) ou fun v2 e2 s2 => ?_
    wtm_at "go"
    exact k v2 f ((e1.step eu fun b hb => .inl (by rw [show b = f from hb]; exact n1)).step e2 fun b hb => .inl (by rw [show b = f from hb]; exact n1)) s2
/-! _law_value -/
abbrev s_l_value : Stmt := top 22
abbrev nm_l_value : List Str := ["_law_word", "_law_below", "_law_figures", "_law_sign"]
theorem sc_l_value : FnScope nm_l_value ["_law_word"] (defScope s_l_value) := ⟨rfl, rfl, rfl, by decide +kernel, rfl, by decide +kernel, by decide +kernel⟩
theorem st_l_value (a : V) : start nm_l_value [a] = [some a, none, none, none] := rfl
def p_l_value (w : Wd) (a : V) (Q : VK) (_ : XK) : Prop := ∃ z, a = .str z ∧ Tx 1000 z ∧ ∀ v, Ext Non w v → Q (oV (valO (tl z))) v.H
theorem ok_l_value {f : Addr} {fd : FuncData} {C_LogError C_NoSpans C_NoText : Addr} (F : Fun K "_law_value" "_law_value" s_l_value f fd) (T : Txt K mg C_LogError C_NoSpans C_NoText)  : FnOk P ww K mg base CX0 1 f fd ["_law_word"] (pr1 (p_l_value)) := by
  refine F.ok sc_l_value (fun vs H Q E h => len1 h) (fun cdv A outer s H vs Q E hr h => ?_)
  obtain ⟨w, x0,  rfl, rfl, h⟩ := h
  have oex_NoSpans := T.oex_NoSpans; have xf_NoSpans := T.xf_NoSpans; have ec_NoSpans := T.ec_NoSpans; have xn_NoSpans := T.xn_NoSpans
  have oex_NoText := T.oex_NoText; have xf_NoText := T.xf_NoText; have ec_NoText := T.ec_NoText; have xn_NoText := T.xn_NoText
  have rel_NoText_NoText := T.rel_NoText_NoText
  have rel_NoText_ValueError := T.rel_NoText_ValueError
  have rel_NoText_NoSpans := T.rel_NoText_NoSpans
  have exm_NoText_LogError := T.exm_NoText_LogError
  refine ⟨_, (pss_cons (ps_set (i := 1) sc_l_value.nd rfl (Or.inl rfl) (pe_cmpR (kEq K hr.units) (pe_slice (kSl K) (pv 0) po_none (po_some pe_int)) pe_str (nomark _)))
      (pss_cons (ps_set (i := 2) sc_l_value.nd rfl (Or.inl rfl) (pe_slice (kSl K) (pv 0) (po_some (pe_callTy g_int (by rfl) T.n_int (by decide +kernel) (pa_cons (pv 1) pa_nil))) po_none))
      (pss_cons (ps_if (PW.pt (pw_or (pt_cmpR g_lt (pe_callB (kLen K) (by rfl) T.n_len (by decide +kernel) (pa_cons (pv 2) pa_nil)) pe_int (nomark _)) (pw_or (pt_cmpR g_gt (pe_callB (kLen K) (by rfl) T.n_len (by decide +kernel) (pa_cons (pv 2) pa_nil)) pe_int (nomark _)) (pw_or1 (PW.pt (pw_and (pt_cmpR (kEq K hr.units) (pe_ix (kIx K) (pv 2) pe_int (fun _ _ => rfl)) pe_str (nomark _)) (pw_and1 (pt_cmpR (kNe K hr.units) (pv 0) pe_str (nomark _))))))))) (pss_one (ps_ret pe_non)) pss_nil)
      (pss_cons (ps_if (pt_cmpR (kNe K hr.units) (pe_lc (own := [("_law_sign", 3)]) (g := (gName 3)) (tt := _) (by rfl) sc_l_value.nd (pi_str (pv 2)) (blkOk_by (own := [("_law_sign", 3)]) (N := nm_l_value) (sc := defScope s_l_value) (by decide +kernel)) (fun _ _ _ _ _ => (pg_name (i := 3) sc_l_value.nd rfl (Or.inl rfl))) (fun _ _ _ _ _ => (pts_one (pt_cmpR (kNotIn K) (pv 3) pe_str (by rfl)))) (fun _ _ _ _ _ => (pv 3))) (pe_lst pa_nil) (nomark _)) (pss_one (ps_ret pe_non)) pss_nil)
      (pss_one (ps_ret (pe_callTy g_int (by rfl) T.n_int (by decide +kernel) (pa_cons (pv 0) pa_nil)))))))), ?_⟩
  rw [st_l_value]
  obtain ⟨z, rfl, tz, k⟩ := h
  have hzs : z.cps.size ≤ 1000 := tz.1
  wtm_at "gsi"
  have hf : tl (cutS z (some (if decide (cutS z none (some 1) = Str.ofString "-") = true then 1 else 0)) none) = figsL (tl z) := by
    by_cases hm : (tl z).head? = some 45
    · rw [decide_eq_true (dash_iff.mpr hm), figsL_y hm]; exact cutZ_from (by decide)
    · rw [decide_eq_false (fun e => hm (dash_iff.mp e)), figsL_n hm]; exact cutZ_from (by decide)
  have tf : Tx 1000 (cutS z (some (if decide (cutS z none (some 1) = Str.ofString "-") = true then 1 else 0)) none) := tz.cut _ _
  have hb : decide (cutS z none (some 1) = Str.ofString "-") = decide ((tl z).head? = some 45) := by rw [Bool.eq_iff_iff, decide_eq_true_eq, decide_eq_true_eq]; exact dash_iff
  generalize cutS z (some (if decide (cutS z none (some 1) = Str.ofString "-") = true then 1 else 0)) none = f at hf tf ⊢
  rw [hb]
  clear hb
  have hfs : f.cps.size ≤ 1000 := tf.1
  have lf := len_tl f
  rw [hf] at lf
  refine s_ifJ (fun σ u => Ext Non w u ∧ σ = [some (.str z), some (.bl (decide ((tl z).head? = some 45))), some (.str f), none] ∧ 1 ≤ (figsL (tl z)).length ∧ (figsL (tl z)).length ≤ 30 ∧ ((figsL (tl z)).head? = some 48 → tl z = [48])) (fun Z hZ => ?_) ?_
  · wtm_at "gs"
    refine ite_d (fun c1 => ?_) (fun c1 => ?_)
    · wtm_at "gs"
      have e : valO (tl z) = none := by unfold valO plainL; rw [decide_eq_false (show ¬ (1 ≤ (figsL (tl z)).length) by omega)]; rfl
      exact ov_at e (k _ (by wtm_at "ch"))
    · wtm_at "gs"
      refine ite_d (fun c2 => ?_) (fun c2 => ?_)
      · wtm_at "gs"
        have e : valO (tl z) = none := by unfold valO plainL; rw [decide_eq_false (show ¬ ((figsL (tl z)).length ≤ 30) by omega)]; simp
        exact ov_at e (k _ (by wtm_at "ch"))
      · wtm_at "gs"
        refine s_ixZe (tf.sz (by decide)) (by decide) (by omega) fun c hc => ?_
        rw [hf] at hc
        have hh : (figsL (tl z)).head? = some c := by rw [← hc]; cases figsL (tl z) <;> rfl
        wtm_at "gs"
        refine ite_d (fun c3 => ?_) (fun c3 => ?_)
        · wtm_at "gs"
          refine ite_d (fun c4 => ?_) (fun c4 => ?_)
          · wtm_at "gs"
            have e : valO (tl z) = none := by
              unfold valO plainL
              rw [hh, decide_eq_true (show some c = some 48 from congrArg some (nought_iff.mp c3)), decide_eq_false (fun e => c4 (noughtZ_iff.mpr e))]
              simp
            exact ov_at e (k _ (by wtm_at "ch"))
          · wtm_at "gs"
            exact hZ _ _ ⟨by wtm_at "ch", rfl, by omega, by omega, fun _ => noughtZ_iff.mp (Decidable.not_not.mp c4)⟩
        · wtm_at "gs"
          exact hZ _ _ ⟨by wtm_at "ch", rfl, by omega, by omega, fun e => absurd (by rw [hh] at e; exact Option.some.inj e) fun e => c3 (nought_iff.mpr e)⟩
  · rintro σ u ⟨eu, rfl, h1, h2, h3⟩
    wtm_at "gs"
    refine ⟨f, rfl, ?_⟩
    intro D hD
    refine lc_gen (rows := f.cps.toList) (ww_strI (z := f)) (fun c => !isFig c) (fun c => .str ⟨#[c]⟩) hD (by rw [Array.length_toList]) (by rw [sizeLine_eq]; omega) (fun _ _ => trivial) ?_ ?_
    · intro i x c u hi hx hq e R Z hR hZ
      obtain rfl := z_at hx hq
      wtm_at "gs"
      refine ⟨rfl, ?_⟩
      wtm_at "gs"
      rw [fig_iff]
      cases hc : isFig c with
      | true =>
        wtm_at "gs"
        exact hZ _ (by wtm_at "ch") (by rw [hc]; rfl)
      | false =>
        wtm_at "gs"
        exact hR _ _ (by wtm_at "ch") (by rw [hc]; rfl) (.str _)
    · intro u2 acc eu2 hD' o ha2
      have hst : ∀ y ∈ ((f.cps.toList.filter fun c => !isFig c).map fun c => (⟨#[c]⟩ : Str)), PyData.strOk y = true := fun y hy => by
        obtain ⟨c, hc, rfl⟩ := List.mem_map.mp hy
        exact Tx.ok (n := 1) ⟨Nat.le_refl _, fun d hd => by
          obtain rfl : d = c := by simpa using hd
          exact tf.2 d (List.mem_filter.mp hc).1⟩
      have e1 : ((f.cps.toList.filter fun c => !isFig c).map fun c => PyData.str ⟨#[c]⟩) = ((f.cps.toList.filter fun c => !isFig c).map fun c => (⟨#[c]⟩ : Str)).map PyData.str := by rw [List.map_map]; rfl
      rw [e1] at ha2
      wtm_at "gs"
      refine s_neL (by wtm_at "rd") (by wtm_at "rpa") (.inl (by assumption)) .nil (shaped_strs hst) shaped_nil ?_
      rw [eqv_nil, List.isEmpty_map, List.isEmpty_map, any_filter, show f.cps.toList = figsL (tl z) from hf]
      have hall : (figsL (tl z)).any (fun c => !isFig c) = !(figsL (tl z)).all isFig := by rw [List.all_eq_not_any_not, Bool.not_not]
      rw [hall]
      have ewv : Ext Non w _ := eu.trans (eu2.trans (by assumption))
      cases ha : (figsL (tl z)).all isFig with
      | false =>
        wtm_at "gs"
        have e : valO (tl z) = none := by unfold valO plainL; rw [ha]; simp
        exact ov_at e (k _ (by wtm_at "ch"))
      | true =>
        have hp : plainL (tl z) = true := by
          unfold plainL
          rw [decide_eq_true h1, decide_eq_true h2, ha]
          by_cases c3 : (figsL (tl z)).head? = some 48
          · rw [decide_eq_true c3, decide_eq_true (h3 c3)]; rfl
          · rw [decide_eq_false c3]; rfl
        obtain ⟨i1, i2⟩ := intText_plain hp
        wtm_at "gs"
        refine s_intZ i1 (by omega) ?_
        have e : valO (tl z) = some (valL (tl z)) := by unfold valO; rw [if_pos hp]
        exact ov_at e (k _ (by wtm_at "ch"))
/-! _law_due -/
abbrev s_l_due : Stmt := top 23
abbrev nm_l_due : List Str := ["_law_text", "_law_found", "_law_at", "_law_word", "_law_values", "_law_part"]
theorem sc_l_due : FnScope nm_l_due ["_law_text"] (defScope s_l_due) := ⟨rfl, rfl, rfl, by decide +kernel, rfl, by decide +kernel, by decide +kernel⟩
theorem st_l_due (a : V) : start nm_l_due [a] = [some a, none, none, none, none, none] := rfl
def p_l_due (w : Wd) (a : V) (Q : VK) (_ : XK) : Prop := ∃ z, a = .str z ∧ TxW z ∧ ∀ v r, Ext Non w v → Rp v.S r (dueD (tl z)) → Q r v.H
theorem ok_l_due {f : Addr} {fd : FuncData} {C_LogError C_NoSpans C_NoText : Addr} (F : Fun K "_law_due" "_law_due" s_l_due f fd) (T : Txt K mg C_LogError C_NoSpans C_NoText) (c_l_value : Fnc P ww K mg base CX0 1 "_law_value" (pr1 (p_l_value))) : FnOk P ww K mg base CX0 2 f fd ["_law_text"] (pr1 (p_l_due)) := by
  refine F.ok sc_l_due (fun vs H Q E h => len1 h) (fun cdv A outer s H vs Q E hr h => ?_)
  obtain ⟨w, x0,  rfl, rfl, h⟩ := h
  have oex_NoSpans := T.oex_NoSpans; have xf_NoSpans := T.xf_NoSpans; have ec_NoSpans := T.ec_NoSpans; have xn_NoSpans := T.xn_NoSpans
  have oex_NoText := T.oex_NoText; have xf_NoText := T.xf_NoText; have ec_NoText := T.ec_NoText; have xn_NoText := T.xn_NoText
  have rel_NoText_NoText := T.rel_NoText_NoText
  have rel_NoText_ValueError := T.rel_NoText_ValueError
  have rel_NoText_NoSpans := T.rel_NoText_NoSpans
  have exm_NoText_LogError := T.exm_NoText_LogError
  refine ⟨_, (pss_cons (ps_set (i := 1) sc_l_due.nd rfl (Or.inl rfl) (pe_lst pa_nil))
      (pss_cons (ps_if (pt_cmpR (kEq K hr.units) (pv 0) pe_str (nomark _)) (pss_one (ps_ret (pe_tup (pa_cons pe_str (pa_cons (pv 1) pa_nil))))) pss_nil)
      (pss_cons (ps_for PassesOwn.never rfl (kpEnum K (by rfl) T.n_enumerate (pa_cons (pe_spl (pv 0) pe_str) pa_nil)) (kgTup K (by rfl) (pgs_cons (pg_name (i := 2) sc_l_due.nd rfl (Or.inl rfl)) (pgs_cons (pg_name (i := 3) sc_l_due.nd rfl (Or.inl rfl)) pgs_nil))) (pss_cons (ps_setLc (i := 4) (own := [("_law_part", 5)]) (g := (gName 5)) (tt := tYes) (by rfl) sc_l_due.nd rfl rfl (sw_true rfl rfl rfl (by decide +kernel)) (kpList K (pe_spl (pv 3) pe_str)) (blkOk_by (own := [("_law_part", 5)]) (N := nm_l_due) (sc := defScope s_l_due) (by decide +kernel)) (fun _ _ _ _ _ => (pg_name (i := 5) sc_l_due.nd rfl (Or.inl rfl))) (fun _ _ _ _ _ => pts_nil) (fun _ _ _ _ _ => (pe_fn c_l_value hr (by decide) pass0 (pa_cons (pv 5) pa_nil))))
      (pss_cons (ps_if (PW.pt (pw_or (pt_cmpR (kIn K) pe_non (pv 4) (by rfl)) (pw_or (pt_cmpR g_gt (pe_callB (kLen K) (by rfl) T.n_len (by decide +kernel) (pa_cons (pv 4) pa_nil)) pe_int (nomark _)) (pw_or1 (pt_cmpR (kNe K hr.units) (pv 4) (pe_callB (kSortedS ww rfl) (by rfl) T.n_sorted (by decide +kernel) (pa_cons (pe_callTy (kSetL K ww rfl) (by rfl) T.n_set (by decide +kernel) (pa_cons (pv 4) pa_nil)) pa_nil)) (nomark _)))))) (pss_one (ps_ret (pe_tup (pa_cons pe_str (pa_cons (pv 2) pa_nil))))) pss_nil)
      (pss_cons (ps_if (PW.pt (pw_and (pt_cmpR (kNe K hr.units) (pv 1) (pe_lst pa_nil) (nomark _)) (pw_and1 (pt_cmpR g_lt (pe_op g_sub (pe_ix (kIx K) (pv 4) pe_int (fun _ _ => rfl)) (pe_ix (kIx K) (pe_ix (kIx K) (pv 1) (pe_un un_neg pe_int) (fun _ _ => rfl)) pe_int (fun _ _ => rfl))) pe_int (nomark _))))) (pss_one (ps_ret (pe_tup (pa_cons pe_str (pa_cons (pv 2) pa_nil))))) pss_nil)
      (pss_one (ps_expr (pe_bm PySem.F.plainAttrs_list PySem.F.slot_list_append PySem.F.type_list_append mt_append (pv 1) (pa_cons (pe_tup (pa_cons (pe_ix (kIx K) (pv 4) pe_int (fun _ _ => rfl)) (pa_cons (pe_ix (kIx K) (pv 4) (pe_un un_neg pe_int) (fun _ _ => rfl)) pa_nil))) pa_nil))))))))
      (pss_one (ps_ret (pe_tup (pa_cons pe_str (pa_cons (pv 1) pa_nil)))))))), ?_⟩
  rw [st_l_due]
  obtain ⟨z, rfl, tz, k⟩ := h
  have tz1 := tz.1
  wtm_at "go"
  rename_i D v1 e1 n1 o1
  refine ite_d (fun c => ?_) (fun c => ?_)
  · have hz : tl z = [] := by rw [c]; decide +kernel
    have hr : dueD (tl z) = .tuple [.str (Str.ofString "read"), spD []] := by unfold dueD readS; rw [if_pos hz]
    refine lay (R := fun H => tRet _ _ _ H) o1 fun v2 e2 s2 => ?_
    wtm_at "gs"
    exact k _ _ (by wtm_at "ch") (by rw [hr]; exact .tup (by wtm_at "stb") (.cons (.str _) (.cons (.lst (by wtm_at "stb") .nil) .nil)))
  · have hne : tl z ≠ [] := fun e => c (str_iff.mpr (by rw [e]; decide +kernel))
    have hr : readS (tl z) = goS 0 [] (wordsL (tl z)) := by unfold readS; rw [if_neg hne]
    wtm_at "gs"
    rename_i q v2 e2 n2 s2
    have hP := words_split (z := z)
    have hPt : ∀ y ∈ PySem.Txt.split z (Str.ofString " "), Tx 1000 y := fun y hy => tz.word hy
    have hPn := tz.2.1
    rw [← hP, List.length_map] at hPn
    rw [← hP] at hr
    generalize PySem.Txt.split z (Str.ofString " ") = ps at *
    have hDq : D ≠ q := o1.ne n2
    have oD2 : Own v2 D (.lst []) := o1.ext e2 fun z => z
    have ew2 : Ext Non w v2 := e1.trans e2
    have nD : w.H D = none := n1
    clear o1 e1 e2
    refine ⟨q, _, rfl, SqL.of (v2.ok _ _ s2), ?_⟩
    refine forW (ww_enum (xs := _)) (fun i σ u => Ext (One D) v2 u ∧ ∃ (g h k2 k3 : Option V) (vs : List V) (R : List (Int × Int)), σ = [some (.str z), some (.ref D), g, h, k2, k3] ∧ Own u D (.lst vs) ∧ RpA u.S vs (R.map prD) ∧ R.length = i ∧ readS (tl z) = goS i R ((ps.map tl).drop i))
      ⟨Ext.refl _ _, _, _, _, _, [], [], rfl, oD2, .nil, rfl, by rw [List.drop_zero]; exact hr⟩ (fun i σ u _ p => sql_of (st_go p.1 s2)) ?_ ?_
    · rintro i x σ u v hi ⟨eu, g, h, k2, k3, vs, R, rfl, o, ra, hlR, hq⟩ ⟨T, x1, rfl, ev, hT', sT, hx⟩
      rw [List.getElem?_map] at hx
      obtain ⟨y, hy, rfl⟩ := Option.map_eq_some_iff.mp hx
      rw [List.length_map] at hi
      have hdr : (ps.map tl).drop i = tl y :: (ps.map tl).drop (i + 1) := drop_at (by rw [List.getElem?_map, hy]; rfl)
      rw [hdr] at hq
      have lra := ra.length
      rw [List.length_map] at lra
      have rav := ra.go ev
      have ov : Own v D (.lst vs) := o.ext ev fun z => z
      have e2v : Ext (One D) v2 v := eu.step ev fun _ z => z.elim
      have ty := hPt y (List.mem_of_getElem? hy)
      have ewv : Ext Non w v := ew2.step e2v fun b hb => .inl (by rw [show b = D from hb]; exact nD)
      clear eu ev o ra
      have hV := vals_split (z := y)
      have hVt : ∀ p ∈ PySem.Txt.split y (Str.ofString ".."), Tx 1000 p := fun p hp => pp_tx ty hp
      have hVl : (PySem.Txt.split y (Str.ofString "..")).length ≤ 1001 := by
        have h1 := congrArg List.length hV
        rw [List.length_map] at h1
        have h2 := vals_len8 (tl y)
        have h3 := (tx_mem.mp ty).1
        omega
      wtm_at "gs"
      rename_i q5 v5 e5 n5 s5
      generalize PySem.Txt.split y (Str.ofString "..") = pts at *
      have ov5 : Own v5 D (.lst vs) := ov.ext e5 fun z => z
      have ra5 := rav.go e5
      have ew5 := ewv.trans e5
      have e25 : Ext (One D) v2 v5 := e2v.step e5 fun _ z => z.elim
      clear ov rav ewv e2v e5 n5
      intro D2 hD2
      have hDD : D ≠ D2 := ov5.ne hD2
      refine lc_gen (rows := pts) (ww_list (xs := pts.map V.str)) (fun _ => true) (fun p => oDt (valO (tl p))) hD2 (by rw [List.length_map]) (by rw [List.length_map, sizeLine_eq]; omega) (fun u e => sql_of (st_go e s5)) ?_ ?_
      · intro j x p u hj hx hq e R' Z hR' hZ
        rw [List.getElem?_map, hq] at hx
        cases hx
        wtm_at "gs"
        refine ⟨rfl, s_yes (ite_tt ?_)⟩
        wtm_at "gs"
        refine ⟨p, rfl, hVt p (List.mem_of_getElem? hq), fun v2 e2 => ?_⟩
        exact hR' _ _ e2 rfl (rp_o _)
      · intro u3 acc eu3 hD3 oA ha2
        rw [filter_all] at ha2
        have ha3 : RpA u3.S acc ((valsW (tl y)).map oDt) := by rw [← hV, List.map_map]; exact ha2
        obtain rfl := rpa_o_inv ha3
        have ov6 : Own u3 D (.lst vs) := ov5.ext eu3 fun z => z
        have ra6 := ra5.go eu3
        have ew6 := ew5.trans eu3
        have e26 : Ext (One D) v2 u3 := e25.step eu3 fun _ z => z.elim
        clear ov5 ra5 ew5 e25 eu3 s5 ha2 ha3
        have hvl : (valsW (tl y)).length ≤ 1001 := by rw [← hV, List.length_map]; exact hVl
        have hw := strW_vals (l := tl y)
        have hne0 := vals_ne (tl y)
        generalize valsW (tl y) = xs at *
        clear hV hVt hVl
        have hno : strW (tl y) = none → ∀ v r, Ext Non w v → Rp v.S r (.tuple [.str (Str.ofString "refused"), .int (i : Int)]) → Q r v.H := fun hn v r e hr => by
          refine k v r e ?_
          unfold dueD
          rw [hq, goS_none hn]
          exact hr
        wtm_at "gs"
        refine ⟨D2, _, rfl, .inl (SqL.of oA.h), rfl, flat_o _, ?_⟩
        rw [if_neg (by decide), in_o]
        wtm_at "gs"
        refine ite_d (fun hn => ?_) (fun hn => ?_)
        · wtm_at "gs"
          exact hno (by rw [hw]; exact strV_none hn) _ _ (ew6.trans (by assumption)) (.tup (by wtm_at "stb") (.cons (.str _) (.cons (.int _) .nil)))
        · obtain ⟨ns, rfl⟩ := all_some hn
          rw [show (ns.map some).map oV = ns.map V.int by rw [List.map_map]; rfl] at oA
          rw [List.length_map] at hvl
          wtm_at "gs"
          rw [List.length_map]
          refine ite_d (fun hl2 => ?_) (fun hl2 => ?_)
          · wtm_at "gs"
            exact hno (by rw [hw]; exact strV_long (by rw [List.length_map]; omega)) _ _ (ew6.trans (by assumption)) (.tup (by wtm_at "stb") (.cons (.str _) (.cons (.int _) .nil)))
          · wtm_at "gs"
            refine s_setN (SqL.of oA.h) (by omega) fun s1 c1 v7 e7 n7 t7 hc1 h01 => ?_
            wtm_at "gs"
            refine s_sortS t7 (by omega) fun r v8 ms e8 n8 t8 hpw hmem hlen => ?_
            have e78 := e7.trans e8
            have ov8 : Own v8 D (.lst vs) := ov6.ext e78 fun z => z
            have oA8 := oA.ext e78 fun z => z
            have ra8 := ra6.go e78
            have ew8 := ew6.trans e78
            have e28 : Ext (One D) v2 v8 := e26.step e78 fun _ z => z.elim
            clear ov6 oA ra6 ew6 e26 e78 e7 e8 t7 n7 n8
            refine s_neL (.inr oA8) (rpa_ints ns) (.inl t8) (rpa_ints ms) (shaped_ints ns) (shaped_ints ms) ?_
            rw [eqv_ints8]
            have hmem' : ∀ z, z ∈ ms ↔ z ∈ ns := fun z => by rw [hmem z]; simp
            cases hp : strW (tl y) with
            | none =>
              have hnm : ¬ ns = ms := fun e => by
                subst e
                rw [hw] at hp
                exact strV_rise hpw (by simpa using hne0) (by omega) hp
              rw [decide_eq_false hnm]
              wtm_at "gs"
              exact hno hp _ _ (ew8.trans (by assumption)) (.tup (by wtm_at "stb") (.cons (.str _) (.cons (.int _) .nil)))
            | some p =>
              obtain ⟨hpw2, hns⟩ := strV_some (ns := ns) (by rw [← hw]; exact hp)
              have hnm : ns = ms := sorted_uniq hpw2 hpw fun z => (hmem' z).symm
              rw [decide_eq_true hnm]
              clear hmem hmem' hpw hnm t8 hlen hw
              rw [goS_some hp] at hq
              wtm_at "gs"
              rename_i q9 v9 e9 n9 s9
              have ov9 : Own v9 D (.lst vs) := ov8.ext e9 fun z => z
              have oA9 := oA8.ext e9 fun z => z
              have ra9 := ra8.go e9
              have ew9 := ew8.trans e9
              have e29 : Ext (One D) v2 v9 := e28.step e9 fun _ z => z.elim
              refine s_neN (.inr ov9) ra9 s9 ?_
              have hnear : tooNear R p = true → ∀ v r, Ext Non w v → Rp v.S r (.tuple [.str (Str.ofString "refused"), .int (i : Int)]) → Q r v.H := fun hc v r e hr => by
                refine k v r e ?_
                unfold dueD
                rw [hq, if_pos hc]
                exact hr
              clear ov8 oA8 ra8 ew8 e28 e9 n9 hno hp s9
              obtain ⟨pa, pb⟩ := p
              rcases nil_or_snoc R with rfl | ⟨R, ⟨a, b⟩, rfl⟩
              · rw [near_nil, if_neg (by decide)] at hq
                rw [show (!([] : List (Int × Int)).isEmpty) = false from rfl]
                obtain rfl := List.eq_nil_of_length_eq_zero lra
                rcases hns with ⟨rfl, h2⟩ | rfl
                · obtain rfl : pb = pa := h2
                  have oB : Own v9 D2 (.lst [.int pb]) := oA9
                  clear oA9
                  wtm_at "gs"
                  refine ⟨by wtm_at "ch", _, _, _, _, _, [(pb, pb)], rfl, by wtm_at "own", .one (pr_rp (by wtm_at "stb")), by rw [← hlR]; rfl, hq⟩
                · have oB : Own v9 D2 (.lst [.int pa, .int pb]) := oA9
                  clear oA9
                  wtm_at "gs"
                  refine ⟨by wtm_at "ch", _, _, _, _, _, [(pa, pb)], rfl, by wtm_at "own", .one (pr_rp (by wtm_at "stb")), by rw [← hlR]; rfl, hq⟩
              · rw [show (!(R ++ [(a, b)]).isEmpty) = true by simp]
                rw [List.map_append] at ra9
                obtain ⟨us, y5, rfl, hu1, hu2⟩ := RpA.snoc_inv ra9
                obtain ⟨t2, rfl, ht2⟩ := pr_inv hu2
                have hul : us.length + 1 < 3000 := by rw [List.length_append] at lra hlR; simp only [List.length_cons, List.length_nil] at lra hlR; rw [List.length_append] at lra; simp only [List.length_cons, List.length_nil] at lra; omega
                rw [near_snoc] at hq hnear
                rcases hns with ⟨rfl, h2⟩ | rfl
                · obtain rfl : pb = pa := h2
                  have oB : Own v9 D2 (.lst [.int pb]) := oA9
                  clear oA9
                  wtm_at "gs"
                  refine ite_d (fun hc => ?_) (fun hc => ?_)
                  · wtm_at "gs"
                    exact hnear (decide_eq_true (by omega)) _ _ (ew9.trans (by assumption)) (.tup (by wtm_at "stb") (.cons (.str _) (.cons (.int _) .nil)))
                  · rw [if_neg (by rw [decide_eq_false (by omega)]; decide)] at hq
                    wtm_at "gs"
                    refine ⟨by wtm_at "ch", _, _, _, _, _, R ++ [(a, b)] ++ [(pb, pb)], rfl, by wtm_at "own", ?_, by rw [List.length_append, hlR]; rfl, hq⟩
                    rw [List.map_append, List.map_append]
                    exact RpA.append (RpA.append (by wtm_at "rpa") (.one (by wtm_at "rp"))) (.one (pr_rp (by wtm_at "stb")))
                · have oB : Own v9 D2 (.lst [.int pa, .int pb]) := oA9
                  clear oA9
                  wtm_at "gs"
                  refine ite_d (fun hc => ?_) (fun hc => ?_)
                  · wtm_at "gs"
                    exact hnear (decide_eq_true (by show pa < _; omega)) _ _ (ew9.trans (by assumption)) (.tup (by wtm_at "stb") (.cons (.str _) (.cons (.int _) .nil)))
                  · rw [if_neg (by rw [decide_eq_false (by show ¬ pa < _; omega)]; decide)] at hq
                    wtm_at "gs"
                    refine ⟨by wtm_at "ch", _, _, _, _, _, R ++ [(a, b)] ++ [(pa, pb)], rfl, by wtm_at "own", ?_, by rw [List.length_append, hlR]; rfl, hq⟩
                    rw [List.map_append, List.map_append]
                    exact RpA.append (RpA.append (by wtm_at "rpa") (.one (by wtm_at "rp"))) (.one (pr_rp (by wtm_at "stb")))
    · rintro σ u ⟨eu, g, h, k2, k3, vs, R, rfl, o, ra, hlR, hq⟩
      rw [List.drop_of_length_le (by simp)] at hq
      have hq2 : readS (tl z) = .inr R := hq
      have ewu : Ext Non w u := ew2.step eu fun b hb => .inl (by rw [show b = D from hb]; exact nD)
      have hr : dueD (tl z) = .tuple [.str (Str.ofString "read"), spD R] := by unfold dueD; rw [hq2]
      refine lay o fun v3 e3 s3 => ?_
      wtm_at "gs"
      have ew3 : Ext Non w v3 := ewu.step e3 fun b hb => .inl (by rw [show b = D from hb]; exact nD)
      exact k _ _ (ew3.trans (by assumption)) (by rw [hr]; exact .tup (by wtm_at "stb") (.cons (.str _) (.cons (.lst (st_go (by assumption) s3) ((ra.go e3).go (by assumption))) .nil)))
local macro_rules | `(tactic| wtm_at "go1") => `(tactic| first
  | with_reducible refine s_methX ?_
  | with_reducible refine s_callX ?_
  | with_reducible refine s_ost ?_
  | with_reducible refine s_veI ?_
  | with_reducible refine s_xg ?_
  | ((with_reducible refine' s_xgv ?h ?x ?n ?k); (case h => wtm_at "hh"); (case x => assumption); (case n => assumption))
  | ((with_reducible refine' s_isXc ?c ?e ?h ?k); (case c => assumption); (case e => assumption); (case h => wtm_at "hh"))
  | ((with_reducible refine' s_isXt ?c ?e ?h ?k); (case c => assumption); (case e => assumption); (case h => wtm_at "hh"))
  | with_reducible refine s_isU ?_
  | fail "go1x")

theorem spin_s {N : Addr} {w : Wd} {a : V} {Q : VK} {E : XK} {d : PyData} (hd : Rp w.S a d) (hT : ∀ z, d = .str z → TxW z) (k1 : ∀ v r, Ext Non w v → (∃ R, Rp v.S (.ref r) (spD R) ∧ toldD d = .tuple [.str (Str.ofString "read"), spD R]) → Q (.ref r) v.H)
    (k2 : ∀ i, toldD d = .tuple [.str (Str.ofString "refused"), .int i] → ∀ v e, Ext Non w v → w.H e = none → Own v e (.xd [(Str.ofString "at", .int i)]) → E (.ref N) (some e) v.H) : p_spans_in N w a Q E :=
  ⟨d, hd, hT, fun z R e h v r vs ev n o ra => lay (R := Q (.ref r)) o fun v' e' s' => k1 v' r (ev.step e' fun l hl => .inl (by rw [show l = r from hl]; exact n)) ⟨R, .lst s' (ra.go e'), by subst e; show dueD (tl z) = _; unfold dueD; rw [h]⟩,
    fun i hi v e ev n o => k2 i (told_at hi) v e ev n o⟩
/-! _law_told -/
abbrev s_l_told : Stmt := top 24
abbrev nm_l_told : List Str := ["_law_text", "_law_found", "e"]
theorem sc_l_told : FnScope nm_l_told ["_law_text"] (defScope s_l_told) := ⟨rfl, rfl, rfl, by decide +kernel, rfl, by decide +kernel, by decide +kernel⟩
theorem st_l_told (a : V) : start nm_l_told [a] = [some a, none, none] := rfl
def p_l_told (w : Wd) (a : V) (Q : VK) (_ : XK) : Prop := ∃ d, Rp w.S a d ∧ (∀ z, d = .str z → TxW z) ∧ ∀ v r, Ext Non w v → Rp v.S r (toldD d) → Q r v.H
theorem ok_l_told {f : Addr} {fd : FuncData} {C_LogError C_NoSpans C_NoText : Addr} (F : Fun K "_law_told" "_law_told" s_l_told f fd) (T : Txt K mg C_LogError C_NoSpans C_NoText) (c_spans_in : Fnc P ww K mg base (L2.CX P ww) 4 "spans_in" (pr1 (p_spans_in C_NoText))) : FnOk P ww K mg base CX0 5 f fd ["_law_text"] (pr1 (p_l_told)) := by
  refine F.ok sc_l_told (fun vs H Q E h => len1 h) (fun cdv A outer s H vs Q E hr h => ?_)
  obtain ⟨w, x0,  rfl, rfl, h⟩ := h
  have oex_NoSpans := T.oex_NoSpans; have xf_NoSpans := T.xf_NoSpans; have ec_NoSpans := T.ec_NoSpans; have xn_NoSpans := T.xn_NoSpans
  have oex_NoText := T.oex_NoText; have xf_NoText := T.xf_NoText; have ec_NoText := T.ec_NoText; have xn_NoText := T.xn_NoText
  have rel_NoText_NoText := T.rel_NoText_NoText
  have rel_NoText_ValueError := T.rel_NoText_ValueError
  have rel_NoText_NoSpans := T.rel_NoText_NoSpans
  have exm_NoText_LogError := T.exm_NoText_LogError
  refine ⟨_, (pss_cons (ps_set (i := 1) sc_l_told.nd rfl (Or.inl rfl) pe_non)
      (pss_cons (ps_try_as (i := 2) rfl rfl sc_l_told.nd rfl rfl ⟨rfl, by decide, .inl T.g_LogError⟩ takes0 (fun W pn xe tk po => (pss_one (ps_set (i := 1) sc_l_told.nd rfl (Or.inl rfl) (pe_tup (pa_cons pe_str (pa_cons (pe_fnX tk c_spans_in hr (by decide) (pa_cons (pv 0) pa_nil)) pa_nil)))))) (fun xa xo xc xd pn hz hf => (pss_cons (ps_set (i := 1) sc_l_told.nd rfl (Or.inl rfl) (pe_tup (pa_cons pe_str (pa_cons pe_non pa_nil))))
      (pss_one (ps_if (PW.pt (pw_and (pt_val (pe_callB (call_isU (K := K) rfl hz hf) (by rfl) T.n_isinstance (by decide +kernel) (pa_cons (pv 2) (pa_cons (pe_glob (v := .ref C_NoText) (u := .ref C_NoText) rfl T.g_NoText rfl) pa_nil)))) (pw_and1 (pt_not (pt_val (pe_callB (call_isU (K := K) rfl hz hf) (by rfl) T.n_isinstance (by decide +kernel) (pa_cons (pv 2) (pa_cons (pe_glob (v := .ref C_NoSpans) (u := .ref C_NoSpans) rfl T.g_NoSpans rfl) pa_nil)))))))) (pss_one (ps_set (i := 1) sc_l_told.nd rfl (Or.inl rfl) (pe_tup (pa_cons pe_str (pa_cons (pe_xg (K := K) rfl hz hf (pv 2)) pa_nil))))) pss_nil)))))
      (pss_one (ps_ret (pv 1))))), ?_⟩
  rw [st_l_told]
  obtain ⟨d, hd, hT, k⟩ := h
  wtm_at "gs"
  refine spin_s hd hT (fun v r ev ⟨R, hR, hr⟩ => ?_) (fun i hi v e ev n oe => ?_)
  · wtm_at "gs"
    exact k _ _ (ev.trans (by assumption)) (by rw [hr]; exact .tup (by wtm_at "stb") (.cons (.str _) (.cons (hR.go (by assumption)) .nil)))
  · refine s_wAs exm_NoText_LogError fun xa hxa => ?_
    wtm_at "gs"
    exact k _ _ (by wtm_at "ch") (by rw [hi]; exact .tup (by assumption) (.cons (.str _) (.cons (.int _) .nil)))
/-- a word without a blank -/
def Wd8 (y : Str) : Prop := Tx 100 y ∧ 32 ∉ tl y
theorem wd_cut {x y : Str} (h : Wd8 x) (hl : (tl y).length ≤ (tl x).length) (hm : ∀ c ∈ tl y, c ∈ tl x) : Wd8 y := by
  obtain ⟨h1, h2⟩ := tx_mem.mp h.1
  exact ⟨tx_mem.mpr ⟨by omega, fun c hc => h2 c (hm c hc)⟩, fun hc => h.2 (hm _ hc)⟩
theorem wd_rp {x y : Str} (h : Wd8 x) : Wd8 (PySem.Txt.rpartition x y).2.2 := by
  unfold PySem.Txt.rpartition
  cases PySem.Builtin.Str.lastOccurrence x y 0 x.length with
  | none => exact h
  | some i =>
    refine wd_cut h ?_ fun c hc => ?_
    · show (tl (PySem.Builtin.Str.strSub x (i + y.length) x.length)).length ≤ _
      rw [tl_strSub_end, List.length_drop]
      omega
    · have hc' : c ∈ tl (PySem.Builtin.Str.strSub x (i + y.length) x.length) := hc
      rw [tl_strSub_end] at hc'
      exact List.mem_of_mem_drop hc'
/-- a list of words -/
def WL (vs : List V) (n : Nat) : Prop := ∃ us : List Str, vs = us.map V.str ∧ (∀ y ∈ us, Wd8 y) ∧ us.length ≤ n
theorem wl_cut {vs : List V} {n : Nat} {lo hi : Option Int} (h : WL vs n) : WL (cutV vs lo hi) n := by
  obtain ⟨us, rfl, h1, h2⟩ := h
  refine ⟨(us.drop (HT.sIx (us.map V.str).length 0 lo)).take (HT.sIx (us.map V.str).length (us.map V.str).length hi - HT.sIx (us.map V.str).length 0 lo), ?_, fun y hy => h1 y (List.mem_of_mem_drop (List.mem_of_mem_take hy)), ?_⟩
  · rw [List.map_take, List.map_drop]
    rfl
  · rw [List.length_take, List.length_drop]
    omega
theorem wl_app {vs xs : List V} {n m : Nat} (h : WL vs n) (k : WL xs m) : WL (vs ++ xs) (n + m) := by
  obtain ⟨us, rfl, h1, h2⟩ := h
  obtain ⟨ys, rfl, k1, k2⟩ := k
  exact ⟨us ++ ys, by rw [List.map_append], fun y hy => (List.mem_append.mp hy).elim (h1 y) (k1 y), by rw [List.length_append]; omega⟩
theorem wl_rev {vs : List V} {n : Nat} (h : WL vs n) : WL vs.reverse n := by
  obtain ⟨us, rfl, h1, h2⟩ := h
  exact ⟨us.reverse, by rw [List.map_reverse], fun y hy => h1 y (List.mem_reverse.mp hy), by rw [List.length_reverse]; omega⟩
theorem wl_one {y : Str} (h : Wd8 y) : WL [.str y] 1 := ⟨[y], rfl, fun z hz => by rw [List.mem_singleton.mp hz]; exact h, Nat.le_refl _⟩
theorem wl_more {vs : List V} {n m : Nat} (h : WL vs n) (k : n ≤ m) : WL vs m := by
  obtain ⟨us, h0, h1, h2⟩ := h
  exact ⟨us, h0, h1, Nat.le_trans h2 k⟩
theorem wl_len {vs : List V} {n : Nat} (h : WL vs n) : vs.length ≤ n := by
  obtain ⟨us, rfl, _, h2⟩ := h
  rw [List.length_map]
  exact h2
theorem s_catW {K : PySem.W.Frag} {w : Wd} {a b : Addr} {xs ys : List V} {n m : Nat} {Q : VK} (h1 : w.S a = some (.lst xs)) (h2 : w.S b = some (.lst ys)) (wx : WL xs n) (wy : WL ys m) (hz : n + m ≤ 1000)
    (k : ∀ p v, Ext Non w v → v.S p = some (.lst (xs ++ ys)) → Q (.ref p) v.H) : gAdd K (.ref a) (.ref b) w.H Q :=
  s_catS (w.ok _ _ h1) (w.ok _ _ h2) (by have := wl_len wx; have := wl_len wy; rw [sizeLine_eq]; omega) fun p v e _ s => k p v e s
/-! _law_spoilt -/
abbrev s_l_spoilt : Stmt := top 21
abbrev nm_l_spoilt : List Str := ["_law_purse_here", "_law_words_here", "_law_some", "_law_at", "_law_way", "_law_ahead", "_law_word"]
theorem sc_l_spoilt : FnScope nm_l_spoilt ["_law_purse_here", "_law_words_here"] (defScope s_l_spoilt) := ⟨rfl, rfl, rfl, by decide +kernel, rfl, by decide +kernel, by decide +kernel⟩
theorem st_l_spoilt (a b : V) : start nm_l_spoilt [a, b] = [some a, some b, none, none, none, none, none] := rfl
def p_l_spoilt (w : Wd) (a b : V) (Q : VK) (_ : XK) : Prop := ∃ p q, ∃ ws : List Str, a = .ref p ∧ b = .ref q ∧ Purse w p ∧ w.S q = some (.lst (ws.map V.str)) ∧ (∀ y ∈ ws, Wd8 y) ∧ ws.length ≤ 60 ∧
  ∀ v r (us : List Str), Ext (One p) w v → Purse v p → v.S r = some (.lst (us.map V.str)) → (∀ y ∈ us, Wd8 y) → us.length ≤ 200 → Q (.ref r) v.H
theorem ok_l_spoilt {f : Addr} {fd : FuncData} {C_LogError C_NoSpans C_NoText : Addr} (F : Fun K "_law_spoilt" "_law_spoilt" s_l_spoilt f fd) (T : Txt K mg C_LogError C_NoSpans C_NoText) (c_l_take : Fnc P ww K mg base CX0 1 "_law_take" (pr2 (p_l_take))) : FnOk P ww K mg base CX0 2 f fd ["_law_purse_here", "_law_words_here"] (pr2 (p_l_spoilt)) := by
  refine F.ok sc_l_spoilt (fun vs H Q E h => len2 h) (fun cdv A outer s H vs Q E hr h => ?_)
  obtain ⟨w, x0, x1,  rfl, rfl, h⟩ := h
  have oex_NoSpans := T.oex_NoSpans; have xf_NoSpans := T.xf_NoSpans; have ec_NoSpans := T.ec_NoSpans; have xn_NoSpans := T.xn_NoSpans
  have oex_NoText := T.oex_NoText; have xf_NoText := T.xf_NoText; have ec_NoText := T.ec_NoText; have xn_NoText := T.xn_NoText
  have rel_NoText_NoText := T.rel_NoText_NoText
  have rel_NoText_ValueError := T.rel_NoText_ValueError
  have rel_NoText_NoSpans := T.rel_NoText_NoSpans
  have exm_NoText_LogError := T.exm_NoText_LogError
  refine ⟨_, (pss_cons (ps_set (i := 2) sc_l_spoilt.nd rfl (Or.inl rfl) (pe_lst (pa_cons pe_str (pa_cons pe_str (pa_cons pe_str (pa_cons pe_str (pa_cons pe_str (pa_cons pe_str (pa_cons pe_str (pa_cons pe_str (pa_cons pe_str (pa_cons pe_str (pa_cons pe_str (pa_cons pe_str (pa_cons pe_str (pa_cons pe_str (pa_cons pe_str (pa_cons pe_str pa_nil))))))))))))))))))
      (pss_cons (ps_set (i := 2) sc_l_spoilt.nd rfl (Or.inl rfl) (pe_op (kAdd K) (pv 2) (pe_lst (pa_cons (pe_op SR.op_muls pe_str pe_int) (pa_cons (pe_op (kAdd K) pe_str (pe_op SR.op_muls pe_str pe_int)) (pa_cons pe_str (pa_cons pe_str pa_nil)))))))
      (pss_cons (ps_set (i := 3) sc_l_spoilt.nd rfl (Or.inl rfl) (pe_fn c_l_take hr (by decide) pass0 (pa_cons (pv 0) (pa_cons (pe_op (kAdd K) (pe_callB (kLen K) (by rfl) T.n_len (by decide +kernel) (pa_cons (pv 1) pa_nil)) pe_int) pa_nil))))
      (pss_cons (ps_set (i := 4) sc_l_spoilt.nd rfl (Or.inl rfl) (pe_fn c_l_take hr (by decide) pass0 (pa_cons (pv 0) (pa_cons pe_int pa_nil))))
      (pss_cons (ps_set (i := 5) sc_l_spoilt.nd rfl (Or.inl rfl) (pe_ix (kIx K) (pe_op (kAdd K) (pe_slice (kSl K) (pv 1) po_none (po_some (pv 3))) (pe_lst (pa_cons pe_str pa_nil))) (pe_callB (kMax K rfl) (by rfl) T.n_max (by decide +kernel) (pa_cons pe_int (pa_cons (pe_op g_sub (pv 3) pe_int) pa_nil))) (fun _ _ => rfl)))
      (pss_cons (ps_set (i := 6) sc_l_spoilt.nd rfl (Or.inl rfl) (pe_ix (kIx K) (pe_lst (pa_cons (pe_ix (kIx K) (pv 2) (pe_fn c_l_take hr (by decide) pass0 (pa_cons (pv 0) (pa_cons pe_int pa_nil))) (fun _ _ => rfl)) (pa_cons (pe_ix (kIx K) (SR.pe_rp (pv 5) pe_str) pe_int (fun _ _ => rfl)) pa_nil))) (pe_op g_div (pe_fn c_l_take hr (by decide) pass0 (pa_cons (pv 0) (pa_cons pe_int pa_nil))) pe_int) (fun _ _ => rfl)))
      (pss_cons (ps_if (pt_cmpR (kEq K hr.units) (pv 4) pe_int (nomark _)) (pss_one (ps_ret (pe_op (kAdd K) (pe_slice (kSl K) (pv 1) po_none (po_some (pv 3))) (pe_slice (kSl K) (pv 1) (po_some (pe_op (kAdd K) (pv 3) pe_int)) po_none)))) pss_nil)
      (pss_cons (ps_if (pt_cmpR (kEq K hr.units) (pv 4) pe_int (nomark _)) (pss_one (ps_ret (pe_op (kAdd K) (pe_op (kAdd K) (pe_slice (kSl K) (pv 1) po_none (po_some (pv 3))) (pe_slice (kSl K) (pv 1) (po_some (pv 3)) (po_some (pe_op (kAdd K) (pv 3) pe_int)))) (pe_slice (kSl K) (pv 1) (po_some (pv 3)) po_none)))) pss_nil)
      (pss_cons (ps_if (pt_cmpR (kEq K hr.units) (pv 4) pe_int (nomark _)) (pss_one (ps_ret (pe_op (kAdd K) (pe_op (kAdd K) (pe_slice (kSl K) (pv 1) po_none (po_some (pv 3))) (pe_revL (pe_slice (kSl K) (pv 1) (po_some (pv 3)) (po_some (pe_op (kAdd K) (pv 3) pe_int))))) (pe_slice (kSl K) (pv 1) (po_some (pe_op (kAdd K) (pv 3) pe_int)) po_none)))) pss_nil)
      (pss_cons (ps_if (pt_cmpR (kEq K hr.units) (pv 4) pe_int (nomark _)) (pss_one (ps_ret (pe_op (kAdd K) (pe_op (kAdd K) (pe_slice (kSl K) (pv 1) po_none (po_some (pv 3))) (pe_lst (pa_cons (pv 6) pa_nil))) (pe_slice (kSl K) (pv 1) (po_some (pe_op (kAdd K) (pv 3) pe_int)) po_none)))) pss_nil)
      (pss_one (ps_ret (pe_op (kAdd K) (pe_op (kAdd K) (pe_slice (kSl K) (pv 1) po_none (po_some (pv 3))) (pe_lst (pa_cons (pv 6) pa_nil))) (pe_slice (kSl K) (pv 1) (po_some (pv 3)) po_none)))))))))))))), ?_⟩
  rw [st_l_spoilt]
  obtain ⟨p, q, ws, rfl, rfl, pu, sq, hws, hl, k⟩ := h
  wtm_at "gs"
  refine s_muls (y := Str.ofString "9999999999999999999999999999999") (by unfold MulOk; decide +kernel) (by decide +kernel) ?_
  wtm_at "gs"
  refine s_muls (y := Str.ofString "999999999999999999999999999999") (by unfold MulOk; decide +kernel) (by decide +kernel) ?_
  refine s_addZ (by rw [sizeLine_eq]; decide +kernel) ?_
  rw [show (Str.ofString "-" ++ Str.ofString "999999999999999999999999999999") = Str.ofString "-999999999999999999999999999999" from by decide +kernel]
  wtm_at "gs"
  rw [List.length_map]
  rename_i q8 v8 e8 n8 s8
  have ew8 : Ext Non w v8 := by wtm_at "ch"
  have pu8 : Purse v8 p := by wtm_at "purse"
  have sq8 := st_go ew8 sq
  have hany : ∀ v, v ∈ ([V.str (Str.ofString ""), V.str (Str.ofString "-"), V.str (Str.ofString "0"), V.str (Str.ofString "-0"), V.str (Str.ofString "07"), V.str (Str.ofString "1.."), V.str (Str.ofString "..1"), V.str (Str.ofString "1..1"), V.str (Str.ofString "2..1"), V.str (Str.ofString "1...3"), V.str (Str.ofString "1..2..3"), V.str (Str.ofString "+1"), V.str (Str.ofString "1-3"), V.str (Str.ofString "a"), V.str (Str.ofString "1.5"), V.str (Str.ofString "x..2")] ++ [V.str (Str.ofString "9999999999999999999999999999999"), V.str (Str.ofString "-999999999999999999999999999999"), V.str (Str.ofString "1\n"), V.str (Str.ofString "\n1")]) → ∃ y, v = .str y ∧ Wd8 y := fun v hm => by
    simp only [List.mem_append, List.mem_cons, List.not_mem_nil, or_false] at hm
    rcases hm with (rfl | rfl | rfl | rfl | rfl | rfl | rfl | rfl | rfl | rfl | rfl | rfl | rfl | rfl | rfl | rfl) | (rfl | rfl | rfl | rfl) <;> exact ⟨_, rfl, Tx.litN (by decide +kernel) (by decide +kernel), by decide +kernel⟩
  have hsl : ([V.str (Str.ofString ""), V.str (Str.ofString "-"), V.str (Str.ofString "0"), V.str (Str.ofString "-0"), V.str (Str.ofString "07"), V.str (Str.ofString "1.."), V.str (Str.ofString "..1"), V.str (Str.ofString "1..1"), V.str (Str.ofString "2..1"), V.str (Str.ofString "1...3"), V.str (Str.ofString "1..2..3"), V.str (Str.ofString "+1"), V.str (Str.ofString "1-3"), V.str (Str.ofString "a"), V.str (Str.ofString "1.5"), V.str (Str.ofString "x..2")] ++ [V.str (Str.ofString "9999999999999999999999999999999"), V.str (Str.ofString "-999999999999999999999999999999"), V.str (Str.ofString "1\n"), V.str (Str.ofString "\n1")]).length = 20 := rfl
  generalize [V.str (Str.ofString ""), V.str (Str.ofString "-"), V.str (Str.ofString "0"), V.str (Str.ofString "-0"), V.str (Str.ofString "07"), V.str (Str.ofString "1.."), V.str (Str.ofString "..1"), V.str (Str.ofString "1..1"), V.str (Str.ofString "2..1"), V.str (Str.ofString "1...3"), V.str (Str.ofString "1..2..3"), V.str (Str.ofString "+1"), V.str (Str.ofString "1-3"), V.str (Str.ofString "a"), V.str (Str.ofString "1.5"), V.str (Str.ofString "x..2")] ++ [V.str (Str.ofString "9999999999999999999999999999999"), V.str (Str.ofString "-999999999999999999999999999999"), V.str (Str.ofString "1\n"), V.str (Str.ofString "\n1")] = some20 at s8 hany hsl
  clear sq pu e8 n8
  refine ⟨p, _, rfl, rfl, pu8, by omega, by omega, fun v9 at9 e9 pu9 h09 h19 => ?_⟩
  have sq9 := st_go e9 sq8
  have s9 := st_go e9 s8
  have ew9 : Ext (One p) w v9 := (ew8.more fun _ z => z.elim).trans e9
  clear e9 sq8 s8 ew8 pu8
  wtm_at "gs"
  rename_i v4 d4 e4 pu4 h04 h14 a5 v5 e5 n5 s5 a6 v6 e6 n6 s6 a7 v7 e7 n7 s7
  rw [cut_to h09, ← List.map_take] at s5 s7
  have e47 : Ext Non v4 v7 := (e5.trans e6).trans e7
  have pu7 : Purse v7 p := pu4.go e47 fun z => z
  have e97 : Ext (One p) v9 v7 := e4.trans (e47.more fun _ z => z.elim)
  have sq7 := st_go e97 sq9
  have s87 := st_go e97 s9
  have ew7 : Ext (One p) w v7 := ew9.trans e97
  clear e4 e5 e6 e7 e47 pu4 e97 sq9 s9 ew9 n5 n6 n7 s6 s5
  refine s_ixSm s7 (by omega) (by simp only [List.length_append, List.length_map, List.length_take, List.length_cons, List.length_nil]; omega) fun v hv hm => ?_
  obtain ⟨ah, rfl, wah⟩ : ∃ y, v = .str y ∧ Wd8 y := by
    rcases List.mem_append.mp hm with hm | hm
    · obtain ⟨y, hy, rfl⟩ := List.mem_map.mp hm
      exact ⟨y, rfl, hws y (List.mem_of_mem_take hy)⟩
    · obtain rfl := List.mem_singleton.mp hm
      exact ⟨_, rfl, Tx.litN (by decide +kernel) (by decide +kernel), by decide +kernel⟩
  clear hv hm s7
  wtm_at "gs"
  rename_i v10 d10 e10 pu10 h010 h110
  have sq10 := st_go e10 sq7
  have s810 := st_go e10 s87
  have ew10 : Ext (One p) w v10 := ew7.trans e10
  clear e10 sq7 s87 ew7 pu7
  refine s_ixSm s810 (by omega) (by rw [hsl]; omega) fun v hv hm => ?_
  obtain ⟨sm, rfl, wsm⟩ := hany v hm
  clear hv hm hany hsl s810
  wtm_at "gs"
  refine s_rp (by decide +kernel) (by have := wah.1.1; rw [sizeLine_eq]; omega) fun t v11 e11 n11 s11 => ?_
  have wrp := wd_rp (y := Str.ofString ".") wah
  generalize (PySem.Txt.rpartition ah (Str.ofString ".")).2.2 = rp at s11 wrp
  have pu11 := pu10.go e11 fun z => z
  have sq11 := st_go e11 sq10
  have ew11 : Ext (One p) w v11 := ew10.trans (e11.more fun _ z => z.elim)
  clear e11 sq10 ew10 pu10 n11
  wtm_at "gs"
  rename_i a12 v12 e12 n12 s12 v13 d13 e13 pu13 h013 h113
  have s13 := st_go e13 s12
  have sq13 := st_go e13 (st_go e12 sq11)
  have ew13 : Ext (One p) w v13 := (ew11.trans (e12.more fun _ z => z.elim)).trans e13
  clear e12 e13 n12 s12 sq11 ew11 pu11 s11
  refine s_ixSm s13 (by omega) (by simp only [List.length_cons, List.length_nil]; omega) fun v hv hm => ?_
  obtain ⟨wd, rfl, wwd⟩ : ∃ y, v = .str y ∧ Wd8 y := by
    rcases List.mem_cons.mp hm with rfl | hm
    · exact ⟨_, rfl, wsm⟩
    · obtain rfl := List.mem_singleton.mp hm
      exact ⟨_, rfl, wrp⟩
  clear hv hm s13 wsm wrp
  have wl : WL (ws.map V.str) 60 := ⟨ws, rfl, hws, hl⟩
  have fin : ∀ v r vs, Ext Non v13 v → v.S r = some (.lst vs) → WL vs 200 → Q (.ref r) v.H := fun v r vs e hs ⟨us, h1, h2, h3⟩ => by
    subst h1
    exact k v r us (ew13.trans (e.more fun _ z => z.elim)) (pu13.go e fun z => z) hs h2 h3
  clear k
  generalize ws.map V.str = W at *
  wtm_at "gs"
  refine ite_d (fun c => ?_) (fun c => ?_)
  · wtm_at "gs"
    rename_i a1 v1 e1 n1 s1 a2 v2 e2 n2 s2
    refine s_catW (st_go e2 s1) s2 (wl_cut wl) (wl_cut wl) (by decide) fun r v e s => ?_
    exact fin v r _ ((e1.trans e2).trans e) s (wl_more (wl_app (wl_cut wl) (wl_cut wl)) (by decide))
  wtm_at "gs"
  refine ite_d (fun c => ?_) (fun c => ?_)
  · wtm_at "gs"
    rename_i a1 v1 e1 n1 s1 a2 v2 e2 n2 s2
    refine s_catW (st_go e2 s1) s2 (wl_cut wl) (wl_cut wl) (by decide) fun a3 v3 e3 s3 => ?_
    wtm_at "gs"
    rename_i a4 v4 e4 n4 s4
    refine s_catW (st_go e4 s3) s4 (wl_app (wl_cut wl) (wl_cut wl)) (wl_cut wl) (by decide) fun r v e s => ?_
    exact fin v r _ ((((e1.trans e2).trans e3).trans e4).trans e) s (wl_more (wl_app (wl_app (wl_cut wl) (wl_cut wl)) (wl_cut wl)) (by decide))
  wtm_at "gs"
  refine ite_d (fun c => ?_) (fun c => ?_)
  · wtm_at "gs"
    rename_i a1 v1 e1 n1 s1 a0 v0 e0 n0 s0 a2 v2 e2 n2 s2
    refine s_catW (st_go e2 (st_go e0 s1)) s2 (wl_cut wl) (wl_rev (wl_cut wl)) (by decide) fun a3 v3 e3 s3 => ?_
    wtm_at "gs"
    rename_i a4 v4 e4 n4 s4
    refine s_catW (st_go e4 s3) s4 (wl_app (wl_cut wl) (wl_rev (wl_cut wl))) (wl_cut wl) (by decide) fun r v e s => ?_
    exact fin v r _ (((((e1.trans e0).trans e2).trans e3).trans e4).trans e) s (wl_more (wl_app (wl_app (wl_cut wl) (wl_rev (wl_cut wl))) (wl_cut wl)) (by decide))
  wtm_at "gs"
  refine ite_d (fun c => ?_) (fun c => ?_)
  · wtm_at "gs"
    rename_i a1 v1 e1 n1 s1 a2 v2 e2 n2 s2
    refine s_catW (st_go e2 s1) s2 (wl_cut wl) (wl_one wwd) (by decide) fun a3 v3 e3 s3 => ?_
    wtm_at "gs"
    rename_i a4 v4 e4 n4 s4
    refine s_catW (st_go e4 s3) s4 (wl_app (wl_cut wl) (wl_one wwd)) (wl_cut wl) (by decide) fun r v e s => ?_
    exact fin v r _ ((((e1.trans e2).trans e3).trans e4).trans e) s (wl_more (wl_app (wl_app (wl_cut wl) (wl_one wwd)) (wl_cut wl)) (by decide))
  · wtm_at "gs"
    rename_i a1 v1 e1 n1 s1 a2 v2 e2 n2 s2
    refine s_catW (st_go e2 s1) s2 (wl_cut wl) (wl_one wwd) (by decide) fun a3 v3 e3 s3 => ?_
    wtm_at "gs"
    rename_i a4 v4 e4 n4 s4
    refine s_catW (st_go e4 s3) s4 (wl_app (wl_cut wl) (wl_one wwd)) (wl_cut wl) (by decide) fun r v e s => ?_
    exact fin v r _ ((((e1.trans e2).trans e3).trans e4).trans e) s (wl_more (wl_app (wl_app (wl_cut wl) (wl_one wwd)) (wl_cut wl)) (by decide))
/-! _law_laid -/
abbrev s_l_laid : Stmt := top 19
abbrev nm_l_laid : List Str := ["_law_stretches_here", "_law_found", "_law_low", "_law_high", "_law_last", "_law_one"]
theorem sc_l_laid : FnScope nm_l_laid ["_law_stretches_here"] (defScope s_l_laid) := ⟨rfl, rfl, rfl, by decide +kernel, rfl, by decide +kernel, by decide +kernel⟩
theorem st_l_laid (a : V) : start nm_l_laid [a] = [some a, none, none, none, none, none] := rfl
def p_l_laid (w : Wd) (a : V) (Q : VK) (_ : XK) : Prop := ∃ rows, Ls w a rows ∧ rows.length < 2 ^ 12 ∧ ∀ v r (out : List (Int × Int)), Ext Non w v → Rp v.S r (spD out) → Sp none out → out.length ≤ rows.length → (∀ n, ins out n → ins rows n) → Q r v.H
theorem ok_l_laid {f : Addr} {fd : FuncData} {C_LogError C_NoSpans C_NoText : Addr} (F : Fun K "_law_laid" "_law_laid" s_l_laid f fd) (T : Txt K mg C_LogError C_NoSpans C_NoText)  : FnOk P ww K mg base CX0 1 f fd ["_law_stretches_here"] (pr1 (p_l_laid)) := by
  refine F.ok sc_l_laid (fun vs H Q E h => len1 h) (fun cdv A outer s H vs Q E hr h => ?_)
  obtain ⟨w, x0,  rfl, rfl, h⟩ := h
  have oex_NoSpans := T.oex_NoSpans; have xf_NoSpans := T.xf_NoSpans; have ec_NoSpans := T.ec_NoSpans; have xn_NoSpans := T.xn_NoSpans
  have oex_NoText := T.oex_NoText; have xf_NoText := T.xf_NoText; have ec_NoText := T.ec_NoText; have xn_NoText := T.xn_NoText
  have rel_NoText_NoText := T.rel_NoText_NoText
  have rel_NoText_ValueError := T.rel_NoText_ValueError
  have rel_NoText_NoSpans := T.rel_NoText_NoSpans
  have exm_NoText_LogError := T.exm_NoText_LogError
  refine ⟨_, (pss_cons (ps_set (i := 1) sc_l_laid.nd rfl (Or.inl rfl) (pe_lst pa_nil))
      (pss_cons (ps_for PassesOwn.never rfl (kpList K (pe_callB (kSortedP K) (by rfl) T.n_sorted (by decide +kernel) (pa_cons (pe_lc (own := [("_law_one", 5)]) (g := (gName 5)) (tt := _) (by rfl) sc_l_laid.nd (kpList K (pv 0)) (blkOk_by (own := [("_law_one", 5)]) (N := nm_l_laid) (sc := defScope s_l_laid) (by decide +kernel)) (fun _ _ _ _ _ => (pg_name (i := 5) sc_l_laid.nd rfl (Or.inl rfl))) (fun _ _ _ _ _ => (pts_one (pt_cmpR g_le (pe_ix (kIx K) (pv 5) pe_int (fun _ _ => rfl)) (pe_ix (kIx K) (pv 5) pe_int (fun _ _ => rfl)) (nomark _)))) (fun _ _ _ _ _ => (pv 5))) pa_nil))) (kgTup K (by rfl) (pgs_cons (pg_name (i := 2) sc_l_laid.nd rfl (Or.inl rfl)) (pgs_cons (pg_name (i := 3) sc_l_laid.nd rfl (Or.inl rfl)) pgs_nil))) (pss_cons (ps_if (PW.pt (pw_and (pt_cmpR (kNe K hr.units) (pv 1) (pe_lst pa_nil) (nomark _)) (pw_and1 (pt_cmpR g_lt (pe_op g_sub (pv 2) (pe_ix (kIx K) (pe_ix (kIx K) (pv 1) (pe_un un_neg pe_int) (fun _ _ => rfl)) pe_int (fun _ _ => rfl))) pe_int (nomark _))))) (pss_cons (ps_asg (pe_bm0 PySem.F.plainAttrs_list PySem.F.slot_list_pop PySem.F.type_list_pop mt_pop (pv 1)) (kgTup K (by rfl) (pgs_cons (pg_name (i := 2) sc_l_laid.nd rfl (Or.inl rfl)) (pgs_cons (pg_name (i := 4) sc_l_laid.nd rfl (Or.inl rfl)) pgs_nil))))
      (pss_one (ps_set (i := 3) sc_l_laid.nd rfl (Or.inl rfl) (pe_callB (kMax K rfl) (by rfl) T.n_max (by decide +kernel) (pa_cons (pv 3) (pa_cons (pv 4) pa_nil)))))) pss_nil)
      (pss_one (ps_expr (pe_bm PySem.F.plainAttrs_list PySem.F.slot_list_append PySem.F.type_list_append mt_append (pv 1) (pa_cons (pe_tup (pa_cons (pv 2) (pa_cons (pv 3) pa_nil))) pa_nil))))))
      (pss_one (ps_ret (pv 1))))), ?_⟩
  rw [st_l_laid]
  obtain ⟨rows, ⟨p, vs, rfl, r, ha⟩, hl, k⟩ := h
  have hvl := ha.length
  rw [List.length_map] at hvl
  wtm_at "go"
  rename_i f wf ef nf of
  intro D hD
  have rf : Rd wf p (.lst vs) := r.go ef (fun z => z)
  refine lc_rows (ww_list (xs := vs)) (fun q => decide (q.1 ≤ q.2)) prD hD (show RpA _ vs (rows.map prD) by wtm_at "rpa") rfl (by rw [sizeLine_eq]; omega) (fun u e => SqL.of (Rd.h (rf.go e (rf.ne hD)))) ?_ ?_
  · intro i x q u hi hx hq hr e R Z hR hZ
    obtain ⟨t, rfl, ht⟩ := pr_inv hr
    wtm_at "gs"
    refine ⟨rfl, ?_⟩
    wtm_at "gs"
    refine ite_d (fun c1 => ?_) (fun c1 => ?_)
    · wtm_at "gs"
      exact hR _ _ (Ext.refl _ _) (decide_eq_true c1) hr
    · wtm_at "gs"
      exact hZ _ (Ext.refl _ _) (decide_eq_false c1)
  · intro u acc eu hD o ha2
    have hfl := List.length_filter_le (fun q : Int × Int => decide (q.1 ≤ q.2)) rows
    have hwf : ∀ q ∈ rows.filter (fun q => decide (q.1 ≤ q.2)), q.1 ≤ q.2 := fun q hq => of_decide_eq_true (List.mem_filter.mp hq).2
    have hsub : ∀ n, ins (rows.filter (fun q => decide (q.1 ≤ q.2))) n → ins rows n := fun n ⟨q, hq, h⟩ => ⟨q, (List.mem_filter.mp hq).1, h⟩
    generalize rows.filter (fun q => decide (q.1 ≤ q.2)) = F at ha2 hfl hwf hsub
    wtm_at "go"
    refine s_sortP (by wtm_at "sq") ha2 fun p2 v S vs' e n s hS hp hs => ?_
    wtm_at "go"
    have hwS : ∀ q ∈ S, q.1 ≤ q.2 := fun q hq => hwf q (hp.mem_iff.mp hq)
    have hlS : S.length = F.length := hp.length_eq
    have hvl := hS.length
    rw [List.length_map] at hvl
    have of' : Own v f (.lst []) := by wtm_at "own"
    refine forW (ww_list (xs := vs')) (fun i σ u => Ext (One f) v u ∧ ∃ (l h la : Option V) (fs : List (Int × Int)) (us : List V), σ = [some (.ref p), some (.ref f), l, h, la, none] ∧ Own u f (.lst us) ∧ RpA u.S us (fs.map prD) ∧ JInv S i fs) ⟨Ext.refl _ _, _, _, _, [], [], rfl, of', .nil, .nil⟩ (fun i σ u _ p => by have := p.1; exact sql_of (st_go this s)) ?_ ?_
    · rintro i x σ _ u hi ⟨eu, l, h, la, fs, us, rfl, ou, hus, J⟩ ⟨rfl, hx⟩
      obtain ⟨d, h3, h4⟩ := hS.get hx
      have hi' : i < S.length := by omega
      have h3' : d = prD S[i] := by rw [List.getElem?_map, List.getElem?_eq_getElem hi'] at h3; exact (Option.some.inj h3).symm
      subst h3'
      have hq : S[i]? = some S[i] := List.getElem?_eq_getElem hi'
      have hww := hwS _ (List.mem_of_getElem? hq)
      generalize S[i] = q at hq h4 hww
      obtain ⟨lo, hh⟩ := q
      obtain ⟨t, rfl, ht⟩ := pr_inv (h4.go eu)
      have hul : us.length < 2 ^ 20 := by
        have h5 := hus.length
        rw [List.length_map] at h5
        have := J.len
        omega
      wtm_at "gs"
      refine s_neN (by wtm_at "rd") (by wtm_at "rpa") (by wtm_at "stb") ?_
      rcases nil_or_snoc fs with rfl | ⟨fs, ⟨a, b⟩, rfl⟩
      · rw [show (!([] : List (Int × Int)).isEmpty) = false from rfl]
        wtm_at "gs"
        refine ⟨by wtm_at "ch", _, _, _, _, _, rfl, by wtm_at "own", ?_, J.app hs hq hww fun x z => by cases z⟩
        rw [List.map_append]
        exact RpA.append (by wtm_at "rpa") (.one (pr_rp (by wtm_at "stb")))
      · rw [show (!(fs ++ [(a, b)]).isEmpty) = true by simp]
        rw [List.map_append] at hus
        obtain ⟨us, y, rfl, hu1, hu2⟩ := RpA.snoc_inv hus
        obtain ⟨t2, rfl, ht2⟩ := pr_inv hu2
        have hul : us.length + 1 < 2 ^ 20 := by simpa using hul
        wtm_at "gs"
        refine ite_d (fun hc => ?_) (fun hc => ?_)
        · have J' := J.mrg hq hww (by show lo ≤ b + 1; omega)
          rw [Int.max_comm] at J'
          wtm_at "gs"
          refine ⟨by wtm_at "ch", _, _, _, _, _, rfl, by wtm_at "own", ?_, J'⟩
          rw [List.map_append]
          exact RpA.append (by wtm_at "rpa") (.one (pr_rp (by wtm_at "stb")))
        · wtm_at "gs"
          refine ⟨by wtm_at "ch", _, _, _, _, _, rfl, by wtm_at "own", ?_, J.app hs hq hww fun x hx => ?_⟩
          · rw [List.map_append, List.map_append]
            exact RpA.append (RpA.append (by wtm_at "rpa") (.one (by wtm_at "rp"))) (.one (pr_rp (by wtm_at "stb")))
          · rw [lastHi_snoc] at hx
            cases hx
            show _ ≤ lo
            omega
    · rintro σ u2 ⟨eu2, l, h, la, fs, us, rfl, ou, hus, J⟩
      wtm_at "go"
      refine lay (R := Q (.ref f)) ou fun v2 ev sv => ?_
      exact k v2 _ fs (by wtm_at "ch") (.lst sv (by wtm_at "rpa")) J.sp (by have := J.len; omega) fun n hn => hsub n ((ins_perm hp).mp (by have := (J.mem n).mp hn; rw [hvl, List.take_length] at this; exact this))
/-! law -/
abbrev s_law : Stmt := top 25
abbrev nm_law : List Str := ["_law_script", "_law_k", "_law_purse_here", "_law_spans", "_law_words_here", "_law_handed", "_law_turn", "_law_text", "_law_thing"]
theorem sc_law : FnScope nm_law ["_law_script"] (defScope s_law) := ⟨rfl, rfl, rfl, by decide +kernel, rfl, by decide +kernel, by decide +kernel⟩
theorem st_law (a : V) : start nm_law [a] = [some a, none, none, none, none, none, none, none, none] := rfl
def p_law (K : PySem.W.Frag) (w : Wd) (a : V) (Q : VK) (_ : XK) : Prop := Scr K w a ∧ ∀ v, Ext Non w v → Q (.bl true) v.H
theorem ok_law {f : Addr} {fd : FuncData} {C_LogError C_NoSpans C_NoText : Addr} (F : Fun K "law" "law" s_law f fd) (T : Txt K mg C_LogError C_NoSpans C_NoText) (c_l_cell : Fnc P ww K mg base CX0 1 "_law_cell" (pr2 (p_l_cell K))) (c_l_due : Fnc P ww K mg base CX0 2 "_law_due" (pr1 (p_l_due))) (c_l_laid : Fnc P ww K mg base CX0 1 "_law_laid" (pr1 (p_l_laid))) (c_l_purse : Fnc P ww K mg base CX0 1 "_law_purse" (pr1 (p_l_purse))) (c_l_spoilt : Fnc P ww K mg base CX0 2 "_law_spoilt" (pr2 (p_l_spoilt))) (c_l_stretches : Fnc P ww K mg base CX0 2 "_law_stretches" (pr1 (p_l_stretches))) (c_l_told : Fnc P ww K mg base CX0 5 "_law_told" (pr1 (p_l_told))) (c_l_words : Fnc P ww K mg base CX0 1 "_law_words" (pr1 (p_l_words))) (c_spans_text : Fnc P ww K mg base CX0 1 "spans_text" (pr1 (p_spans_text))) : ST.TopOk P ww K mg base CX0 f fd ["_law_script"] (pr1 (p_law K)) := by
  refine ST.fun_top (k := 5) F ⟨rfl, by decide, by decide⟩ sc_law (fun vs H Q E h => len1 h) (fun cdv outer s H vs Q E hr h => ?_)
  obtain ⟨w, x0,  rfl, rfl, h⟩ := h
  have oex_NoSpans := T.oex_NoSpans; have xf_NoSpans := T.xf_NoSpans; have ec_NoSpans := T.ec_NoSpans; have xn_NoSpans := T.xn_NoSpans
  have oex_NoText := T.oex_NoText; have xf_NoText := T.xf_NoText; have ec_NoText := T.ec_NoText; have xn_NoText := T.xn_NoText
  have rel_NoText_NoText := T.rel_NoText_NoText
  have rel_NoText_ValueError := T.rel_NoText_ValueError
  have rel_NoText_NoSpans := T.rel_NoText_NoSpans
  have exm_NoText_LogError := T.exm_NoText_LogError
  refine ⟨_, (pss_cons (ps_for PassesOwn.never rfl (pi_range1 rfl T.n_range (pa_cons (pe_callB (kMax K rfl) (by rfl) T.n_max (by decide +kernel) (pa_cons pe_int (pa_cons (pe_callB (kMin K rfl) (by rfl) T.n_min (by decide +kernel) (pa_cons (pe_callB (kLen K) (by rfl) T.n_len (by decide +kernel) (pa_cons (pv 0) pa_nil)) (pa_cons pe_int pa_nil))) pa_nil))) pa_nil)) (pg_name (i := 1) sc_law.nd rfl (Or.inl rfl)) (pss_cons (ps_set (i := 2) sc_law.nd rfl (Or.inl rfl) (pe_fn c_l_purse hr (by decide) pass0 (pa_cons (pe_fn c_l_cell hr (by decide) pass0 (pa_cons (pv 0) (pa_cons (pv 1) pa_nil))) pa_nil)))
      (pss_cons (ps_set (i := 3) sc_law.nd rfl (Or.inl rfl) (pe_fn c_l_laid hr (by decide) pass0 (pa_cons (pe_fn c_l_stretches hr (by decide) pass0 (pa_cons (pv 2) pa_nil)) pa_nil)))
      (pss_cons (ps_set (i := 4) sc_law.nd rfl (Or.inl rfl) (pe_fn c_l_words hr (by decide) pass0 (pa_cons (pv 3) pa_nil)))
      (pss_cons (ps_set (i := 5) sc_law.nd rfl (Or.inl rfl) (pe_callTy (kList K) (by rfl) T.n_list (by decide +kernel) (pa_cons (pv 3) pa_nil)))
      (pss_cons (ps_if (PW.pt (pw_or (pt_cmpR (kNe K hr.units) (pe_fn c_spans_text hr (by decide) pass0 (pa_cons (pv 5) pa_nil)) (pe_join pe_str (pv 4)) (nomark _)) (pw_or (pt_cmpR (kNe K hr.units) (pv 5) (pv 3) (nomark _)) (pw_or1 (pt_cmpR (kNe K hr.units) (pe_fn c_l_told hr (by decide) pass0 (pa_cons (pe_join pe_str (pv 4)) pa_nil)) (pe_tup (pa_cons pe_str (pa_cons (pv 3) pa_nil))) (nomark _)))))) (pss_one (ps_ret pe_bl)) pss_nil)
      (pss_cons (ps_for PassesOwn.never rfl (pi_range1 rfl T.n_range (pa_cons pe_int pa_nil)) (pg_name (i := 6) sc_law.nd rfl (Or.inl rfl)) (pss_cons (ps_set (i := 7) sc_law.nd rfl (Or.inl rfl) (pe_join pe_str (pe_fn c_l_spoilt hr (by decide) pass0 (pa_cons (pv 2) (pa_cons (pv 4) pa_nil)))))
      (pss_one (ps_if (pt_cmpR (kNe K hr.units) (pe_callB (SR.kRepr (ST.deep_guards _) hr.units) (by rfl) T.n_repr (by decide +kernel) (pa_cons (pe_fn c_l_told hr (by decide) pass0 (pa_cons (pv 7) pa_nil)) pa_nil)) (pe_callB (SR.kRepr (ST.deep_guards _) hr.units) (by rfl) T.n_repr (by decide +kernel) (pa_cons (pe_fn c_l_due hr (by decide) pass0 (pa_cons (pv 7) pa_nil)) pa_nil)) (nomark _)) (pss_one (ps_ret pe_bl)) pss_nil))))
      (pss_cons (ps_set (i := 7) sc_law.nd rfl (Or.inl rfl) (pe_op (kAdd K) (pe_join pe_str (pv 4)) pe_str))
      (pss_cons (ps_if (pt_cmpR (kNe K hr.units) (pe_fn c_l_told hr (by decide) pass0 (pa_cons (pv 7) pa_nil)) (pe_fn c_l_due hr (by decide) pass0 (pa_cons (pv 7) pa_nil)) (nomark _)) (pss_one (ps_ret pe_bl)) pss_nil)
      (pss_one (ps_for PassesOwn.never rfl (kpList K (pe_lst (pa_cons pe_non (pa_cons pe_int (pa_cons (pv 3) (pa_cons (pe_tup (pa_cons pe_str pa_nil)) (pa_cons pe_bl (pa_cons pe_dnewK pa_nil)))))))) (pg_name (i := 8) sc_law.nd rfl (Or.inl rfl)) (pss_one (ps_if (pt_cmpR (kNe K hr.units) (pe_fn c_l_told hr (by decide) pass0 (pa_cons (pv 8) pa_nil)) (pe_tup (pa_cons pe_str (pa_cons pe_int pa_nil))) (nomark _)) (pss_one (ps_ret pe_bl)) pss_nil)))))))))))))
      (pss_one (ps_ret pe_bl))), ?_⟩
  rw [st_law]
  obtain ⟨sc, k⟩ := h
  have sc0 := sc
  obtain ⟨a, ns, rfl, hs, hl⟩ := sc
  have hs' : SqL K w.H a (ns.map V.int) := w.ok.seq hs
  wtm_at "go"
  refine s_lenK hs' ?_
  rw [List.length_map]
  wtm_at "go"
  refine forW (ww_range (lo := 0) (m := _)) (fun i σ u => Ext Non w u ∧ ∃ a1 a2 a3 a4 a5 a6 a7 a8, σ = [some (.ref a), a1, a2, a3, a4, a5, a6, a7, a8]) ⟨Ext.refl _ _, _, _, _, _, _, _, _, _, rfl⟩ (fun _ _ _ _ _ => trivial) ?_ ?_
  · rintro i x σ _ u hi ⟨eu, a1, a2, a3, a4, a5, a6, a7, a8, rfl⟩ ⟨rfl, rfl⟩
    wtm_at "go"
    refine ⟨_, sc0.go eu, rfl, by omega, fun v z ev => ?_⟩
    wtm_at "go"
    refine ⟨_, rfl, fun v2 p e2 n2 pu => ?_⟩
    wtm_at "go"
    refine ⟨p, rfl, by wtm_at "purse", fun v3 r0 rows0 e3 pu3 hr0 hlen hbd => ?_⟩
    wtm_at "gs"
    refine ⟨rows0, ls_of hr0, by omega, fun v4 r R e4 hr sR hlR hin => ?_⟩
    have hN : Near30 R := near_of sR hin hbd
    wtm_at "gs"
    refine ⟨R, ls_of hr, hN, by omega, fun v5 q e5 s5 => ?_⟩
    obtain ⟨rp, rvs, rfl, sr, rra⟩ := hr.list_inv
    have lrv : rvs.length = R.length := by have := rra.length; rw [List.length_map] at this; exact this
    have pu5 : Purse v5 p := (pu3.go e4 fun z => z).go e5 fun z => z
    have sr5 : v5.S rp = some (.lst rvs) := st_go e5 sr
    have ra5 : RpA v5.S rvs (R.map prD) := rra.go e5
    have ew5 : Ext Non w v5 := (((eu.trans ev).trans e2).step e3 fun b hb => .inl (by rw [show b = p from hb]; exact ((eu.trans ev).back n2))).trans (e4.trans e5)
    have npw : w.H p = none := (eu.trans ev).back n2
    clear hr rra sr e4 e5 e3 e2 ev eu pu pu3 n2
    wtm_at "gs"
    rename_i hp v6 e6 n6 s6
    refine ⟨R, ⟨hp, rvs, rfl, .inl s6, ra5.go e6⟩, hN, by omega, fun v7 e7 => ?_⟩
    have h2 : (Str.ofString " ").length = 1 := (by decide +kernel)
    have hsz := words_len hN
    have hw : (wordsZ R).length = R.length := by unfold wordsZ; rw [List.length_map]
    wtm_at "gs"
    refine ⟨_, q, wordsZ R, rfl, rfl, .inl (by wtm_at "sq"), by rw [hw, h2]; omega, ?_⟩
    rw [TL.join_eq, join_words]
    wtm_at "gs"
    rw [decide_eq_false (show ¬ (mkZ (spansL R) ≠ mkZ (spansL R)) from fun z => z rfl), if_neg (by decide)]
    wtm_at "gs"
    refine s_neRs (shaped_spD R) (.lst (by wtm_at "stb") (by wtm_at "rpa")) (.lst (by wtm_at "stb") (by wtm_at "rpa")) ?_
    wtm_at "gs"
    refine ⟨_, q, wordsZ R, rfl, rfl, .inl (by wtm_at "sq"), by rw [hw, h2]; omega, ?_⟩
    rw [TL.join_eq, join_words]
    have htw : TxW (mkZ (spansL R)) := by
      have := joined_txw (words_wd hN) (by rw [hw]; omega)
      rw [show (wordsZ R).map tl = R.map stretchL from by unfold wordsZ; rw [List.map_map]; exact List.map_congr_left fun p _ => tl_mkZ _] at this
      exact this
    have hdu : dueD (spansL R) = .tuple [.str (Str.ofString "read"), spD R] := by unfold dueD; rw [read_spans sR hN]
    wtm_at "gs"
    refine ⟨_, .str _, fun z e => by cases e; exact htw, fun v8 t8 e8 ht8 => ?_⟩
    have ht8' : Rp v8.S t8 (.tuple [.str (Str.ofString "read"), spD R]) := by
      have h9 : Rp v8.S t8 (dueD (tl (mkZ (spansL R)))) := ht8
      rw [tl_mkZ, hdu] at h9
      exact h9
    clear ht8
    wtm_at "gs"
    rename_i p9 v9 e9 n9 s9
    refine s_neRs (shaped_tr (by decide +kernel) R) (ht8'.go e9) (.tup s9 (.cons (.str _) (.cons (.lst (by wtm_at "stb") (by wtm_at "rpa")) .nil))) ?_
    have e59 : Ext Non v5 v9 := (e6.trans e7).trans (e8.trans e9)
    have pu9 : Purse v9 p := pu5.go e59 fun z => z
    have sr9 : v9.S rp = some (.lst rvs) := st_go e59 sr5
    have ra9 : RpA v9.S rvs (R.map prD) := ra5.go e59
    have s59 : v9.S q = some (.lst ((wordsZ R).map V.str)) := st_go e59 s5
    have ew9 : Ext Non w v9 := ew5.trans e59
    clear pu5 sr5 ra5 s5 ew5 e59 e6 e7 e8 e9 s6 n6 n9 s9 ht8'
    wtm_at "gs"
    refine forW (ww_range (lo := 0) (m := 4)) (fun j σ u => Ext (One p) v9 u ∧ Purse u p ∧ ∃ h6 h7, σ = [some (.ref a), some (.int (0 + ((i : Nat) : Int))), some (.ref p), some (.ref rp), some (.ref q), some (.ref hp), h6, h7, a8]) ⟨Ext.refl _ _, pu9, _, _, rfl⟩ (fun _ _ _ _ _ => trivial) ?_ ?_
    · rintro j x σ _ u2 hj ⟨eu, pu, h6, h7, rfl⟩ ⟨rfl, rfl⟩
      have sq2 : u2.S q = some (.lst ((wordsZ R).map V.str)) := st_go eu s59
      wtm_at "gs"
      refine ⟨p, q, wordsZ R, rfl, rfl, pu, sq2, words_wd hN, by rw [hw]; omega, fun v10 r10 us e10 pu10 s10 hus hul => ?_⟩
      have hsu : (us.map (·.length)).sum ≤ us.length * 100 := by
        have := sum_le (l := us.map (·.length)) (n := 100) (by
          intro x hx
          obtain ⟨y, hy, rfl⟩ := List.mem_map.mp hx
          exact (hus y hy).1.1)
        rw [List.length_map] at this
        exact this
      wtm_at "gs"
      refine ⟨_, r10, us, rfl, rfl, .inl (by wtm_at "sq"), by rw [h2]; omega, ?_⟩
      rw [TL.join_eq, show Str.join (Str.ofString " ") us = mkZ (joinL [32] (us.map tl)) from ext_tl (by rw [tl_mkZ, tl_join, tl_sp])]
      have htx := joined_txw hus hul
      generalize mkZ (joinL [32] (us.map tl)) = z at htx
      wtm_at "gs"
      refine ⟨_, .str z, fun y e => by cases e; exact htx, fun v11 t11 e11 ht11 => ?_⟩
      wtm_at "gs"
      refine s_reprS ht11 (due_tup _) (due_show htx.2.1) ?_
      wtm_at "gs"
      refine ⟨z, rfl, htx, fun v12 t12 e12 ht12 => ?_⟩
      wtm_at "gs"
      refine s_reprS ht12 (due_tup _) (due_show htx.2.1) ?_
      wtm_at "gs"
      rw [decide_eq_false (show ¬ ((toldD (PyData.str z)).shown ≠ (dueD (tl z)).shown) from fun z => z rfl), if_neg (by decide)]
      wtm_at "gs"
      exact ⟨((eu.trans e10).step (e11.trans e12) fun _ z => z.elim), pu10.go (e11.trans e12) fun z => z, _, _, rfl⟩
    · rintro σ u2 ⟨eu, pu, h6, h7, rfl⟩
      wtm_at "gs"
      have sq2 : u2.S q = some (.lst ((wordsZ R).map V.str)) := st_go eu s59
      refine ⟨_, q, wordsZ R, rfl, rfl, .inl (by wtm_at "sq"), by rw [hw, h2]; omega, ?_⟩
      rw [TL.join_eq, join_words]
      have htx1 := htw.1
      have hlf := lf_txw hN (R := R) (by omega)
      have htx2 := hlf.1
      wtm_at "gs"
      generalize mkZ (spansL R) ++ Str.ofString "\n" = z at hlf htx2
      refine ⟨_, .str z, fun y e => by cases e; exact hlf, fun v11 t11 e11 ht11 => ?_⟩
      wtm_at "gs"
      refine ⟨z, rfl, hlf, fun v12 t12 e12 ht12 => ?_⟩
      refine s_neRs (due_show hlf.2.1).1 (ht11.go e12) ht12 ?_
      have eu12 : Ext (One p) v9 v12 := eu.step (e11.trans e12) fun _ z => z.elim
      have sr12 : v12.S rp = some (.lst rvs) := st_go eu12 sr9
      have ra12 : RpA v12.S rvs (R.map prD) := ra9.go eu12
      clear e11 e12 ht11 ht12 eu pu pu9 sr9 ra9 s59 sq2 htx1 htx2 hlf
      wtm_at "gs"
      rename_i q1 w1 f1 m1 r1 q2 w2 f2 m2 r2 q3 w3 f3 m3 r3
      have hall : ∀ x ∈ [V.non, V.int 5, V.ref rp, V.ref q1, V.bl true, V.ref q2], ∃ d, Rp w3.S x d ∧ (∀ z, d ≠ .str z) := by
        have a1 : Rp w3.S (.ref q1) (.tuple [.str (Str.ofString "1")]) := .tup (by wtm_at "stb") (.cons (.str _) .nil)
        have a2 : Rp w3.S (.ref q2) (.dict []) := .dct (by wtm_at "stb")
        have a3 : Rp w3.S (.ref rp) (spD R) := .lst (by wtm_at "stb") (by wtm_at "rpa")
        intro x hx
        simp only [List.mem_cons, List.not_mem_nil, or_false] at hx
        rcases hx with rfl | rfl | rfl | rfl | rfl | rfl
        · exact ⟨_, .non, fun z e => by cases e⟩
        · exact ⟨_, .int _, fun z e => by cases e⟩
        · exact ⟨_, a3, fun z e => by cases e⟩
        · exact ⟨_, a1, fun z e => by cases e⟩
        · exact ⟨_, .bl true, fun z e => by cases e⟩
        · exact ⟨_, a2, fun z e => by cases e⟩
      have ew3 : Ext Non w w3 := (ew9.step eu12 fun b hb => .inl (by rw [show b = p from hb]; exact npw)).trans (f1.trans (f2.trans f3))
      clear f1 f2 f3 r1 r2 eu12 ew9 m1 m2 m3
      refine forW (ww_list (xs := _)) (fun j σ u => Ext Non w3 u ∧ ∃ h8, σ = [some (V.ref a), some (V.int (0 + ((i : Nat) : Int))), some (V.ref p), some (V.ref rp), some (V.ref q), some (V.ref hp), h6, some (V.str z), h8]) ⟨Ext.refl _ _, _, rfl⟩ (fun j σ u _ hh => sql_of (st_go hh.1 r3)) ?_ ?_
      · rintro j x σ _ u hj ⟨eu, h8, rfl⟩ ⟨rfl, hx⟩
        obtain ⟨d, hd, hns⟩ := hall x (List.mem_of_getElem? hx)
        wtm_at "gs"
        refine ⟨d, hd.go eu, fun z e => absurd e (hns z), fun v14 t14 e14 ht14 => ?_⟩
        have htd : toldD d = .tuple [.str (Str.ofString "refused"), .int 0] := by
          cases d with
          | str z => exact absurd rfl (hns z)
          | _ => rfl
        rw [htd] at ht14
        wtm_at "gs"
        refine s_neRs (shaped_ti (by decide +kernel) 0) (ht14.go (by assumption)) (.tup (by wtm_at "stb") (.cons (.str _) (.cons (.int _) .nil))) ?_
        wtm_at "gs"
        exact ⟨by wtm_at "ch", _, rfl⟩
      · rintro σ u ⟨eu, h8, rfl⟩
        wtm_at "gs"
        exact ⟨ew3.trans eu, _, _, _, _, _, _, _, _, rfl⟩
  · rintro σ u ⟨eu, a1, a2, a3, a4, a5, a6, a7, a8, rfl⟩
    wtm_at "go"
    exact k u eu
theorem law_in {K : PySem.W.Frag} {H : Hp} {a : Addr} {ns : List Int} {E : XK} (hl : ns.length ≤ 63) (hS : SqL K H a (ns.map V.int)) : p_law K ⟨H, H, fun _ _ h => h⟩ (.ref a) (fun v _ => v = .bl true) E := ⟨⟨a, ns, rfl, hS, hl⟩, fun _ _ => rfl⟩

end
/-! ### the end -/
theorem all_mk {l : PySem.W.OpenLaw} {ww : World} {K : PySem.W.Frag} {h : Heap} {mg : Str → Option Value} {fa : Addr} (X : K.In h) (G : h.Ns mainGlobals mg) (hfa : mg "law" = some (.ref fa))
    {C_LogError : Addr} (g_LogError : PySem.W.nsIn K mainGlobals "LogError" = some (some (.ref C_LogError))) (rd_LogError : PySem.W.readsIn K C_LogError (.type "type") = true)
    (gs_LogError : PySem.W.specialIn K (.ref C_LogError) "__getattribute__" = some (some (.builtin "type.__getattribute__"))) (vv_LogError : PySem.W.findCls K (.ref C_LogError) (.type "type") "__init__" = some (.val (.builtin "ValueError.__init__")))
    (xp : PySem.W.specialIn K (.builtin "object.__class__") "__get__" = some (some (.builtin "getset_descriptor.__get__"))) (xq : PySem.W.takesIn K (.builtin "object.__class__") = some true)
    {C_NoSpans : Addr} (g_NoSpans : PySem.W.nsIn K mainGlobals "NoSpans" = some (some (.ref C_NoSpans)))
    {nm_NoSpans q_NoSpans : Str} {N_NoSpans : Addr} {bs_NoSpans : List Value} {sn_NoSpans : List Str} {su_NoSpans : List Value} {ab_NoSpans : Bool} {co_NoSpans : Option Bool} {dd_NoSpans : Option Addr} {m0_NoSpans m1_NoSpans m2_NoSpans m3_NoSpans m5_NoSpans : Option Value}
    (xl_NoSpans : K.lookup C_NoSpans = some (excClassObj nm_NoSpans q_NoSpans C_NoSpans N_NoSpans bs_NoSpans [.ref C_LogError, .type "ValueError", .type "Exception", .type "BaseException", .type "object"] true sn_NoSpans su_NoSpans ab_NoSpans co_NoSpans dd_NoSpans m0_NoSpans m1_NoSpans m2_NoSpans m3_NoSpans m5_NoSpans "ValueError.__new__"))
    (xs_NoSpans : PySem.W.findIn K (.ref C_NoSpans) "__setattr__" = some (some (.builtin "object.__setattr__"))) (xe_NoSpans : PySem.W.subIn K (.ref C_NoSpans) (.type "BaseException") = some true) (xt_NoSpans : PySem.W.typeIn K (.ref C_NoSpans) = some (.type "type")) (xk_NoSpans : PySem.W.keepIn K (.ref C_NoSpans) = true)
    (xg_NoSpans : PySem.W.findIn K (.ref C_NoSpans) "__getattribute__" = some (some (.builtin "BaseException.__getattribute__"))) (xh_NoSpans : PySem.W.findIn K (.ref C_NoSpans) "__getattr__" = some none) (xd_NoSpans : PySem.W.hasDictIn K C_NoSpans = true) (xc_NoSpans : PySem.W.findIn K (.ref C_NoSpans) "__class__" = some (some (.builtin "object.__class__"))) (xo_NoSpans : PySem.W.mroIn K C_NoSpans (.type "object") = some true) (xn_NoSpans : PySem.W.findIn K (.ref C_NoSpans) "at" = some none)
    {C_NoText : Addr} (g_NoText : PySem.W.nsIn K mainGlobals "NoText" = some (some (.ref C_NoText)))
    {nm_NoText q_NoText : Str} {N_NoText : Addr} {bs_NoText : List Value} {sn_NoText : List Str} {su_NoText : List Value} {ab_NoText : Bool} {co_NoText : Option Bool} {dd_NoText : Option Addr} {m0_NoText m1_NoText m2_NoText m3_NoText m5_NoText : Option Value}
    (xl_NoText : K.lookup C_NoText = some (excClassObj nm_NoText q_NoText C_NoText N_NoText bs_NoText [.ref C_LogError, .type "ValueError", .type "Exception", .type "BaseException", .type "object"] true sn_NoText su_NoText ab_NoText co_NoText dd_NoText m0_NoText m1_NoText m2_NoText m3_NoText m5_NoText "ValueError.__new__"))
    (xs_NoText : PySem.W.findIn K (.ref C_NoText) "__setattr__" = some (some (.builtin "object.__setattr__"))) (xe_NoText : PySem.W.subIn K (.ref C_NoText) (.type "BaseException") = some true) (xt_NoText : PySem.W.typeIn K (.ref C_NoText) = some (.type "type")) (xk_NoText : PySem.W.keepIn K (.ref C_NoText) = true)
    (xg_NoText : PySem.W.findIn K (.ref C_NoText) "__getattribute__" = some (some (.builtin "BaseException.__getattribute__"))) (xh_NoText : PySem.W.findIn K (.ref C_NoText) "__getattr__" = some none) (xd_NoText : PySem.W.hasDictIn K C_NoText = true) (xc_NoText : PySem.W.findIn K (.ref C_NoText) "__class__" = some (some (.builtin "object.__class__"))) (xo_NoText : PySem.W.mroIn K C_NoText (.type "object") = some true) (xn_NoText : PySem.W.findIn K (.ref C_NoText) "at" = some none)
    (su_NoText_ValueError : PySem.W.subIn K (.ref C_NoText) (.type "ValueError") = some true)
    (su_NoText_NoSpans : PySem.W.subIn K (.ref C_NoText) (.ref C_NoSpans) = some false)
    (ne_NoText_NoSpans : (Value.ref C_NoText == Value.ref C_NoSpans) = false)
    (su_NoText_LogError : PySem.W.subIn K (.ref C_NoText) (.ref C_LogError) = some true)
    (xe_LogError : PySem.W.subIn K (.ref C_LogError) (.type "BaseException") = some true) (xd_LogError : PySem.W.hasDictIn K C_LogError = true) (xt_LogError : PySem.W.typeIn K (.ref C_LogError) = some (.type "type"))
    {f_is_plain : Addr} {od_is_plain an_is_plain : Option Addr} {sl_is_plain : Array (Option Value)} {oc_is_plain kv_is_plain dc_is_plain pm_is_plain cd_is_plain ct_is_plain : Value}
    (a_is_plain : PySem.W.nsIn K mainGlobals "is_plain" = some (some (.ref f_is_plain)))
    (l_is_plain : K.lookup f_is_plain = some ⟨oc_is_plain, od_is_plain, .func (PySem.W.fnOf "is_plain" "is_plain" (defArgs s_is_plain) (defBody s_is_plain) (defScope s_is_plain) .none kv_is_plain dc_is_plain pm_is_plain an_is_plain cd_is_plain ct_is_plain), sl_is_plain⟩)
    (d_is_plain : PySem.W.codeIn K cd_is_plain "is_plain" = true) (k_is_plain : PySem.W.keepIn K (.ref f_is_plain) = true)
    {f_whole_in : Addr} {od_whole_in an_whole_in : Option Addr} {sl_whole_in : Array (Option Value)} {oc_whole_in kv_whole_in dc_whole_in pm_whole_in cd_whole_in ct_whole_in : Value}
    (a_whole_in : PySem.W.nsIn K mainGlobals "whole_in" = some (some (.ref f_whole_in)))
    (l_whole_in : K.lookup f_whole_in = some ⟨oc_whole_in, od_whole_in, .func (PySem.W.fnOf "whole_in" "whole_in" (defArgs s_whole_in) (defBody s_whole_in) (defScope s_whole_in) .none kv_whole_in dc_whole_in pm_whole_in an_whole_in cd_whole_in ct_whole_in), sl_whole_in⟩)
    (d_whole_in : PySem.W.codeIn K cd_whole_in "whole_in" = true) (k_whole_in : PySem.W.keepIn K (.ref f_whole_in) = true)
    {f_NoText_init : Addr} {od_NoText_init an_NoText_init : Option Addr} {sl_NoText_init : Array (Option Value)} {oc_NoText_init kv_NoText_init dc_NoText_init pm_NoText_init cd_NoText_init ct_NoText_init : Value}
    (a_NoText_init : PySem.W.findIn K (.ref C_NoText) "__init__" = some (some (.ref f_NoText_init))) (i_NoText_init : PySem.W.typeIn K (.ref f_NoText_init) = some (.type "function"))
    (l_NoText_init : K.lookup f_NoText_init = some ⟨oc_NoText_init, od_NoText_init, .func (PySem.W.fnOf "__init__" "NoText.__init__" (defArgs s_NoText_init) (defBody s_NoText_init) (defScope s_NoText_init) .none kv_NoText_init dc_NoText_init pm_NoText_init an_NoText_init cd_NoText_init ct_NoText_init), sl_NoText_init⟩)
    (d_NoText_init : PySem.W.codeIn K cd_NoText_init "NoText.__init__" = true) (k_NoText_init : PySem.W.keepIn K (.ref f_NoText_init) = true)
    {f_stretch_in : Addr} {od_stretch_in an_stretch_in : Option Addr} {sl_stretch_in : Array (Option Value)} {oc_stretch_in kv_stretch_in dc_stretch_in pm_stretch_in cd_stretch_in ct_stretch_in : Value}
    (a_stretch_in : PySem.W.nsIn K mainGlobals "stretch_in" = some (some (.ref f_stretch_in)))
    (l_stretch_in : K.lookup f_stretch_in = some ⟨oc_stretch_in, od_stretch_in, .func (PySem.W.fnOf "stretch_in" "stretch_in" (defArgs s_stretch_in) (defBody s_stretch_in) (defScope s_stretch_in) .none kv_stretch_in dc_stretch_in pm_stretch_in an_stretch_in cd_stretch_in ct_stretch_in), sl_stretch_in⟩)
    (d_stretch_in : PySem.W.codeIn K cd_stretch_in "stretch_in" = true) (k_stretch_in : PySem.W.keepIn K (.ref f_stretch_in) = true)
    {f_spans_in : Addr} {od_spans_in an_spans_in : Option Addr} {sl_spans_in : Array (Option Value)} {oc_spans_in kv_spans_in dc_spans_in pm_spans_in cd_spans_in ct_spans_in : Value}
    (a_spans_in : PySem.W.nsIn K mainGlobals "spans_in" = some (some (.ref f_spans_in)))
    (l_spans_in : K.lookup f_spans_in = some ⟨oc_spans_in, od_spans_in, .func (PySem.W.fnOf "spans_in" "spans_in" (defArgs s_spans_in) (defBody s_spans_in) (defScope s_spans_in) .none kv_spans_in dc_spans_in pm_spans_in an_spans_in cd_spans_in ct_spans_in), sl_spans_in⟩)
    (d_spans_in : PySem.W.codeIn K cd_spans_in "spans_in" = true) (k_spans_in : PySem.W.keepIn K (.ref f_spans_in) = true)
    {f_l_cell : Addr} {od_l_cell an_l_cell : Option Addr} {sl_l_cell : Array (Option Value)} {oc_l_cell kv_l_cell dc_l_cell pm_l_cell cd_l_cell ct_l_cell : Value}
    (a_l_cell : PySem.W.nsIn K mainGlobals "_law_cell" = some (some (.ref f_l_cell)))
    (l_l_cell : K.lookup f_l_cell = some ⟨oc_l_cell, od_l_cell, .func (PySem.W.fnOf "_law_cell" "_law_cell" (defArgs s_l_cell) (defBody s_l_cell) (defScope s_l_cell) .none kv_l_cell dc_l_cell pm_l_cell an_l_cell cd_l_cell ct_l_cell), sl_l_cell⟩)
    (d_l_cell : PySem.W.codeIn K cd_l_cell "_law_cell" = true) (k_l_cell : PySem.W.keepIn K (.ref f_l_cell) = true)
    {f_l_purse : Addr} {od_l_purse an_l_purse : Option Addr} {sl_l_purse : Array (Option Value)} {oc_l_purse kv_l_purse dc_l_purse pm_l_purse cd_l_purse ct_l_purse : Value}
    (a_l_purse : PySem.W.nsIn K mainGlobals "_law_purse" = some (some (.ref f_l_purse)))
    (l_l_purse : K.lookup f_l_purse = some ⟨oc_l_purse, od_l_purse, .func (PySem.W.fnOf "_law_purse" "_law_purse" (defArgs s_l_purse) (defBody s_l_purse) (defScope s_l_purse) .none kv_l_purse dc_l_purse pm_l_purse an_l_purse cd_l_purse ct_l_purse), sl_l_purse⟩)
    (d_l_purse : PySem.W.codeIn K cd_l_purse "_law_purse" = true) (k_l_purse : PySem.W.keepIn K (.ref f_l_purse) = true)
    {f_l_take : Addr} {od_l_take an_l_take : Option Addr} {sl_l_take : Array (Option Value)} {oc_l_take kv_l_take dc_l_take pm_l_take cd_l_take ct_l_take : Value}
    (a_l_take : PySem.W.nsIn K mainGlobals "_law_take" = some (some (.ref f_l_take)))
    (l_l_take : K.lookup f_l_take = some ⟨oc_l_take, od_l_take, .func (PySem.W.fnOf "_law_take" "_law_take" (defArgs s_l_take) (defBody s_l_take) (defScope s_l_take) .none kv_l_take dc_l_take pm_l_take an_l_take cd_l_take ct_l_take), sl_l_take⟩)
    (d_l_take : PySem.W.codeIn K cd_l_take "_law_take" = true) (k_l_take : PySem.W.keepIn K (.ref f_l_take) = true)
    {f_spans_text : Addr} {od_spans_text an_spans_text : Option Addr} {sl_spans_text : Array (Option Value)} {oc_spans_text kv_spans_text dc_spans_text pm_spans_text cd_spans_text ct_spans_text : Value}
    (a_spans_text : PySem.W.nsIn K mainGlobals "spans_text" = some (some (.ref f_spans_text)))
    (l_spans_text : K.lookup f_spans_text = some ⟨oc_spans_text, od_spans_text, .func (PySem.W.fnOf "spans_text" "spans_text" (defArgs s_spans_text) (defBody s_spans_text) (defScope s_spans_text) .none kv_spans_text dc_spans_text pm_spans_text an_spans_text cd_spans_text ct_spans_text), sl_spans_text⟩)
    (d_spans_text : PySem.W.codeIn K cd_spans_text "spans_text" = true) (k_spans_text : PySem.W.keepIn K (.ref f_spans_text) = true)
    {f_l_stretches : Addr} {od_l_stretches an_l_stretches : Option Addr} {sl_l_stretches : Array (Option Value)} {oc_l_stretches kv_l_stretches dc_l_stretches pm_l_stretches cd_l_stretches ct_l_stretches : Value}
    (a_l_stretches : PySem.W.nsIn K mainGlobals "_law_stretches" = some (some (.ref f_l_stretches)))
    (l_l_stretches : K.lookup f_l_stretches = some ⟨oc_l_stretches, od_l_stretches, .func (PySem.W.fnOf "_law_stretches" "_law_stretches" (defArgs s_l_stretches) (defBody s_l_stretches) (defScope s_l_stretches) .none kv_l_stretches dc_l_stretches pm_l_stretches an_l_stretches cd_l_stretches ct_l_stretches), sl_l_stretches⟩)
    (d_l_stretches : PySem.W.codeIn K cd_l_stretches "_law_stretches" = true) (k_l_stretches : PySem.W.keepIn K (.ref f_l_stretches) = true)
    {f_l_words : Addr} {od_l_words an_l_words : Option Addr} {sl_l_words : Array (Option Value)} {oc_l_words kv_l_words dc_l_words pm_l_words cd_l_words ct_l_words : Value}
    (a_l_words : PySem.W.nsIn K mainGlobals "_law_words" = some (some (.ref f_l_words)))
    (l_l_words : K.lookup f_l_words = some ⟨oc_l_words, od_l_words, .func (PySem.W.fnOf "_law_words" "_law_words" (defArgs s_l_words) (defBody s_l_words) (defScope s_l_words) .none kv_l_words dc_l_words pm_l_words an_l_words cd_l_words ct_l_words), sl_l_words⟩)
    (d_l_words : PySem.W.codeIn K cd_l_words "_law_words" = true) (k_l_words : PySem.W.keepIn K (.ref f_l_words) = true)
    {f_l_value : Addr} {od_l_value an_l_value : Option Addr} {sl_l_value : Array (Option Value)} {oc_l_value kv_l_value dc_l_value pm_l_value cd_l_value ct_l_value : Value}
    (a_l_value : PySem.W.nsIn K mainGlobals "_law_value" = some (some (.ref f_l_value)))
    (l_l_value : K.lookup f_l_value = some ⟨oc_l_value, od_l_value, .func (PySem.W.fnOf "_law_value" "_law_value" (defArgs s_l_value) (defBody s_l_value) (defScope s_l_value) .none kv_l_value dc_l_value pm_l_value an_l_value cd_l_value ct_l_value), sl_l_value⟩)
    (d_l_value : PySem.W.codeIn K cd_l_value "_law_value" = true) (k_l_value : PySem.W.keepIn K (.ref f_l_value) = true)
    {f_l_due : Addr} {od_l_due an_l_due : Option Addr} {sl_l_due : Array (Option Value)} {oc_l_due kv_l_due dc_l_due pm_l_due cd_l_due ct_l_due : Value}
    (a_l_due : PySem.W.nsIn K mainGlobals "_law_due" = some (some (.ref f_l_due)))
    (l_l_due : K.lookup f_l_due = some ⟨oc_l_due, od_l_due, .func (PySem.W.fnOf "_law_due" "_law_due" (defArgs s_l_due) (defBody s_l_due) (defScope s_l_due) .none kv_l_due dc_l_due pm_l_due an_l_due cd_l_due ct_l_due), sl_l_due⟩)
    (d_l_due : PySem.W.codeIn K cd_l_due "_law_due" = true) (k_l_due : PySem.W.keepIn K (.ref f_l_due) = true)
    {f_l_told : Addr} {od_l_told an_l_told : Option Addr} {sl_l_told : Array (Option Value)} {oc_l_told kv_l_told dc_l_told pm_l_told cd_l_told ct_l_told : Value}
    (a_l_told : PySem.W.nsIn K mainGlobals "_law_told" = some (some (.ref f_l_told)))
    (l_l_told : K.lookup f_l_told = some ⟨oc_l_told, od_l_told, .func (PySem.W.fnOf "_law_told" "_law_told" (defArgs s_l_told) (defBody s_l_told) (defScope s_l_told) .none kv_l_told dc_l_told pm_l_told an_l_told cd_l_told ct_l_told), sl_l_told⟩)
    (d_l_told : PySem.W.codeIn K cd_l_told "_law_told" = true) (k_l_told : PySem.W.keepIn K (.ref f_l_told) = true)
    {f_l_spoilt : Addr} {od_l_spoilt an_l_spoilt : Option Addr} {sl_l_spoilt : Array (Option Value)} {oc_l_spoilt kv_l_spoilt dc_l_spoilt pm_l_spoilt cd_l_spoilt ct_l_spoilt : Value}
    (a_l_spoilt : PySem.W.nsIn K mainGlobals "_law_spoilt" = some (some (.ref f_l_spoilt)))
    (l_l_spoilt : K.lookup f_l_spoilt = some ⟨oc_l_spoilt, od_l_spoilt, .func (PySem.W.fnOf "_law_spoilt" "_law_spoilt" (defArgs s_l_spoilt) (defBody s_l_spoilt) (defScope s_l_spoilt) .none kv_l_spoilt dc_l_spoilt pm_l_spoilt an_l_spoilt cd_l_spoilt ct_l_spoilt), sl_l_spoilt⟩)
    (d_l_spoilt : PySem.W.codeIn K cd_l_spoilt "_law_spoilt" = true) (k_l_spoilt : PySem.W.keepIn K (.ref f_l_spoilt) = true)
    {f_l_laid : Addr} {od_l_laid an_l_laid : Option Addr} {sl_l_laid : Array (Option Value)} {oc_l_laid kv_l_laid dc_l_laid pm_l_laid cd_l_laid ct_l_laid : Value}
    (a_l_laid : PySem.W.nsIn K mainGlobals "_law_laid" = some (some (.ref f_l_laid)))
    (l_l_laid : K.lookup f_l_laid = some ⟨oc_l_laid, od_l_laid, .func (PySem.W.fnOf "_law_laid" "_law_laid" (defArgs s_l_laid) (defBody s_l_laid) (defScope s_l_laid) .none kv_l_laid dc_l_laid pm_l_laid an_l_laid cd_l_laid ct_l_laid), sl_l_laid⟩)
    (d_l_laid : PySem.W.codeIn K cd_l_laid "_law_laid" = true) (k_l_laid : PySem.W.keepIn K (.ref f_l_laid) = true)
    {f_law : Addr} {od_law an_law : Option Addr} {sl_law : Array (Option Value)} {oc_law kv_law dc_law pm_law cd_law ct_law : Value}
    (a_law : PySem.W.nsIn K mainGlobals "law" = some (some (.ref f_law)))
    (l_law : K.lookup f_law = some ⟨oc_law, od_law, .func (PySem.W.fnOf "law" "law" (defArgs s_law) (defBody s_law) (defScope s_law) .none kv_law dc_law pm_law an_law cd_law ct_law), sl_law⟩)
    (d_law : PySem.W.codeIn K cd_law "law" = true) (k_law : PySem.W.keepIn K (.ref f_law) = true)
    (n_all : PySem.W.nsIn K mainGlobals "all" = some none)
    (n_enumerate : PySem.W.nsIn K mainGlobals "enumerate" = some none)
    (n_int : PySem.W.nsIn K mainGlobals "int" = some none)
    (n_isinstance : PySem.W.nsIn K mainGlobals "isinstance" = some none)
    (n_len : PySem.W.nsIn K mainGlobals "len" = some none)
    (n_list : PySem.W.nsIn K mainGlobals "list" = some none)
    (n_max : PySem.W.nsIn K mainGlobals "max" = some none)
    (n_min : PySem.W.nsIn K mainGlobals "min" = some none)
    (n_range : PySem.W.nsIn K mainGlobals "range" = some none)
    (n_repr : PySem.W.nsIn K mainGlobals "repr" = some none)
    (n_set : PySem.W.nsIn K mainGlobals "set" = some none)
    (n_sorted : PySem.W.nsIn K mainGlobals "sorted" = some none)
    (n_str : PySem.W.nsIn K mainGlobals "str" = some none)
    {v_c_FARTHEST : Value} (c_FARTHEST : PySem.W.nsIn K mainGlobals "FARTHEST" = some (some v_c_FARTHEST)) (r_c_FARTHEST : RelV (.int 999999999999999999999999999999) v_c_FARTHEST)
    {v_c_FIGURES : Value} (c_FIGURES : PySem.W.nsIn K mainGlobals "FIGURES" = some (some v_c_FIGURES)) (r_c_FIGURES : RelV (.str (Str.ofString "0123456789")) v_c_FIGURES)
    {v_c_MOST_FIGURES : Value} (c_MOST_FIGURES : PySem.W.nsIn K mainGlobals "MOST_FIGURES" = some (some v_c_MOST_FIGURES)) (r_c_MOST_FIGURES : RelV (.int 30) v_c_MOST_FIGURES)
    : ∃ fd : FuncData, (∀ (s : Shared) (v : Value), BindsTo s fd ⟨[v], []⟩ [("_law_script", v)]) ∧ ∀ base : Heap, K.In base → base.Ns mainGlobals mg → ST.TopOk l.prog ww K mg base CX0 fa fd ["_law_script"] (pr1 (p_law K)) := by
  have e := hfa.symm.trans (PySem.W.mg_of X G a_law)
  cases e
  have T : Txt K mg C_LogError C_NoSpans C_NoText := ⟨PySem.W.mg_of X G g_LogError, rd_LogError, gs_LogError, vv_LogError, PySem.W.mg_of X G g_NoSpans, ⟨⟨nm_NoSpans, q_NoSpans, N_NoSpans, bs_NoSpans, _, sn_NoSpans, su_NoSpans, ab_NoSpans, co_NoSpans, dd_NoSpans, m0_NoSpans, m1_NoSpans, m2_NoSpans, m3_NoSpans, m5_NoSpans, xl_NoSpans, (by first | rfl | decide +kernel)⟩, xs_NoSpans, xe_NoSpans, xt_NoSpans, xk_NoSpans⟩, ⟨xg_NoSpans, xh_NoSpans, xe_NoSpans, xd_NoSpans⟩, ⟨xg_NoSpans, xh_NoSpans, xe_NoSpans, xd_NoSpans, xc_NoSpans, xp, xq, xo_NoSpans⟩, xn_NoSpans, PySem.W.mg_of X G g_NoText, ⟨⟨nm_NoText, q_NoText, N_NoText, bs_NoText, _, sn_NoText, su_NoText, ab_NoText, co_NoText, dd_NoText, m0_NoText, m1_NoText, m2_NoText, m3_NoText, m5_NoText, xl_NoText, (by first | rfl | decide +kernel)⟩, xs_NoText, xe_NoText, xt_NoText, xk_NoText⟩, ⟨xg_NoText, xh_NoText, xe_NoText, xd_NoText⟩, ⟨xg_NoText, xh_NoText, xe_NoText, xd_NoText, xc_NoText, xp, xq, xo_NoText⟩, xn_NoText, kit_self, (kit_rt su_NoText_ValueError (by decide +kernel)), (kit_rr su_NoText_NoSpans xd_NoSpans xt_NoSpans (.inl ne_NoText_NoSpans)), (PySem.W.exm_ref xe_LogError xd_LogError xt_LogError su_NoText_LogError), PySem.W.mg_none_of X G n_all, PySem.W.mg_none_of X G n_enumerate, PySem.W.mg_none_of X G n_int, PySem.W.mg_none_of X G n_isinstance, PySem.W.mg_none_of X G n_len, PySem.W.mg_none_of X G n_list, PySem.W.mg_none_of X G n_max, PySem.W.mg_none_of X G n_min, PySem.W.mg_none_of X G n_range, PySem.W.mg_none_of X G n_repr, PySem.W.mg_none_of X G n_set, PySem.W.mg_none_of X G n_sorted, PySem.W.mg_none_of X G n_str, ⟨_, PySem.W.mg_of X G c_FARTHEST, r_c_FARTHEST⟩, ⟨_, PySem.W.mg_of X G c_FIGURES, r_c_FIGURES⟩, ⟨_, PySem.W.mg_of X G c_MOST_FIGURES, r_c_MOST_FIGURES⟩⟩
  refine ⟨PySem.W.fnOf "law" "law" (defArgs s_law) (defBody s_law) (defScope s_law) .none kv_law dc_law pm_law an_law cd_law ct_law, fun s v => .of_eq rfl, fun base _ _ => ?_⟩
  have F_is_plain := fun_mk (st := s_is_plain) l_is_plain d_is_plain k_is_plain
  have G_is_plain := ok_is_plain (P := l.prog) (ww := ww) (base := base) F_is_plain T 
  have c_is_plain : Fnc l.prog ww K mg base CX0 1 "is_plain" (pr1 (p_is_plain)) := ⟨_, _, _, G_is_plain, PySem.W.mg_of X G a_is_plain, k_is_plain, F_is_plain.binds (ps := ["text"]) fun _ _ _ _ _ _ us hl => match us, hl with | [_], _ => rfl⟩
  have F_whole_in := fun_mk (st := s_whole_in) l_whole_in d_whole_in k_whole_in
  have G_whole_in := ok_whole_in (P := l.prog) (ww := ww) (base := base) F_whole_in T c_is_plain
  have c_whole_in : Fnc l.prog ww K mg base CX0 2 "whole_in" (pr3 (p_whole_in)) := ⟨_, _, _, G_whole_in, PySem.W.mg_of X G a_whole_in, k_whole_in, F_whole_in.binds (ps := ["thing", "low", "high"]) fun _ _ _ _ _ _ us hl => match us, hl with | [_, _, _], _ => rfl⟩
  have F_NoText_init := fun_mk (st := s_NoText_init) l_NoText_init d_NoText_init k_NoText_init
  have G_NoText_init := ok_NoText_init (P := l.prog) (ww := ww) (base := base) F_NoText_init T 
  have c_NoText_init : Mxr l.prog ww K mg base C_NoText 1 (pr2 (p_NoText_init C_NoText)) := ⟨_, _, _, G_NoText_init, T.oex_NoText, a_NoText_init, i_NoText_init, F_NoText_init.binds (ps := ["self", "at"]) fun _ _ _ _ _ _ us hl => match us, hl with | [_, _], _ => rfl⟩
  have F_stretch_in := fun_mk (st := s_stretch_in) l_stretch_in d_stretch_in k_stretch_in
  have G_stretch_in := ok_stretch_in (P := l.prog) (ww := ww) (base := base) F_stretch_in T c_whole_in
  have c_stretch_in : Fnc l.prog ww K mg base CX0 3 "stretch_in" (pr1 (p_stretch_in)) := ⟨_, _, _, G_stretch_in, PySem.W.mg_of X G a_stretch_in, k_stretch_in, F_stretch_in.binds (ps := ["word"]) fun _ _ _ _ _ _ us hl => match us, hl with | [_], _ => rfl⟩
  have F_spans_in := fun_mk (st := s_spans_in) l_spans_in d_spans_in k_spans_in
  have G_spans_in := ok_spans_in (P := l.prog) (ww := ww) (base := base) F_spans_in T c_NoText_init c_stretch_in
  have c_spans_in : Fnc l.prog ww K mg base (L2.CX l.prog ww) 4 "spans_in" (pr1 (p_spans_in C_NoText)) := ⟨_, _, _, G_spans_in, PySem.W.mg_of X G a_spans_in, k_spans_in, F_spans_in.binds (ps := ["text"]) fun _ _ _ _ _ _ us hl => match us, hl with | [_], _ => rfl⟩
  have F_l_cell := fun_mk (st := s_l_cell) l_l_cell d_l_cell k_l_cell
  have G_l_cell := ok_l_cell (P := l.prog) (ww := ww) (base := base) F_l_cell T 
  have c_l_cell : Fnc l.prog ww K mg base CX0 1 "_law_cell" (pr2 (p_l_cell K)) := ⟨_, _, _, G_l_cell, PySem.W.mg_of X G a_l_cell, k_l_cell, F_l_cell.binds (ps := ["_law_script", "_law_k"]) fun _ _ _ _ _ _ us hl => match us, hl with | [_, _], _ => rfl⟩
  have F_l_purse := fun_mk (st := s_l_purse) l_l_purse d_l_purse k_l_purse
  have G_l_purse := ok_l_purse (P := l.prog) (ww := ww) (base := base) F_l_purse T 
  have c_l_purse : Fnc l.prog ww K mg base CX0 1 "_law_purse" (pr1 (p_l_purse)) := ⟨_, _, _, G_l_purse, PySem.W.mg_of X G a_l_purse, k_l_purse, F_l_purse.binds (ps := ["_law_cell_here"]) fun _ _ _ _ _ _ us hl => match us, hl with | [_], _ => rfl⟩
  have F_l_take := fun_mk (st := s_l_take) l_l_take d_l_take k_l_take
  have G_l_take := ok_l_take (P := l.prog) (ww := ww) (base := base) F_l_take T 
  have c_l_take : Fnc l.prog ww K mg base CX0 1 "_law_take" (pr2 (p_l_take)) := ⟨_, _, _, G_l_take, PySem.W.mg_of X G a_l_take, k_l_take, F_l_take.binds (ps := ["_law_purse_here", "_law_many"]) fun _ _ _ _ _ _ us hl => match us, hl with | [_, _], _ => rfl⟩
  have F_spans_text := fun_mk (st := s_spans_text) l_spans_text d_spans_text k_spans_text
  have G_spans_text := ok_spans_text (P := l.prog) (ww := ww) (base := base) F_spans_text T 
  have c_spans_text : Fnc l.prog ww K mg base CX0 1 "spans_text" (pr1 (p_spans_text)) := ⟨_, _, _, G_spans_text, PySem.W.mg_of X G a_spans_text, k_spans_text, F_spans_text.binds (ps := ["spans"]) fun _ _ _ _ _ _ us hl => match us, hl with | [_], _ => rfl⟩
  have F_l_stretches := fun_mk (st := s_l_stretches) l_l_stretches d_l_stretches k_l_stretches
  have G_l_stretches := ok_l_stretches (P := l.prog) (ww := ww) (base := base) F_l_stretches T c_l_take
  have c_l_stretches : Fnc l.prog ww K mg base CX0 2 "_law_stretches" (pr1 (p_l_stretches)) := ⟨_, _, _, G_l_stretches, PySem.W.mg_of X G a_l_stretches, k_l_stretches, F_l_stretches.binds (ps := ["_law_purse_here"]) fun _ _ _ _ _ _ us hl => match us, hl with | [_], _ => rfl⟩
  have F_l_words := fun_mk (st := s_l_words) l_l_words d_l_words k_l_words
  have G_l_words := ok_l_words (P := l.prog) (ww := ww) (base := base) F_l_words T 
  have c_l_words : Fnc l.prog ww K mg base CX0 1 "_law_words" (pr1 (p_l_words)) := ⟨_, _, _, G_l_words, PySem.W.mg_of X G a_l_words, k_l_words, F_l_words.binds (ps := ["_law_spans"]) fun _ _ _ _ _ _ us hl => match us, hl with | [_], _ => rfl⟩
  have F_l_value := fun_mk (st := s_l_value) l_l_value d_l_value k_l_value
  have G_l_value := ok_l_value (P := l.prog) (ww := ww) (base := base) F_l_value T 
  have c_l_value : Fnc l.prog ww K mg base CX0 1 "_law_value" (pr1 (p_l_value)) := ⟨_, _, _, G_l_value, PySem.W.mg_of X G a_l_value, k_l_value, F_l_value.binds (ps := ["_law_word"]) fun _ _ _ _ _ _ us hl => match us, hl with | [_], _ => rfl⟩
  have F_l_due := fun_mk (st := s_l_due) l_l_due d_l_due k_l_due
  have G_l_due := ok_l_due (P := l.prog) (ww := ww) (base := base) F_l_due T c_l_value
  have c_l_due : Fnc l.prog ww K mg base CX0 2 "_law_due" (pr1 (p_l_due)) := ⟨_, _, _, G_l_due, PySem.W.mg_of X G a_l_due, k_l_due, F_l_due.binds (ps := ["_law_text"]) fun _ _ _ _ _ _ us hl => match us, hl with | [_], _ => rfl⟩
  have F_l_told := fun_mk (st := s_l_told) l_l_told d_l_told k_l_told
  have G_l_told := ok_l_told (P := l.prog) (ww := ww) (base := base) F_l_told T c_spans_in
  have c_l_told : Fnc l.prog ww K mg base CX0 5 "_law_told" (pr1 (p_l_told)) := ⟨_, _, _, G_l_told, PySem.W.mg_of X G a_l_told, k_l_told, F_l_told.binds (ps := ["_law_text"]) fun _ _ _ _ _ _ us hl => match us, hl with | [_], _ => rfl⟩
  have F_l_spoilt := fun_mk (st := s_l_spoilt) l_l_spoilt d_l_spoilt k_l_spoilt
  have G_l_spoilt := ok_l_spoilt (P := l.prog) (ww := ww) (base := base) F_l_spoilt T c_l_take
  have c_l_spoilt : Fnc l.prog ww K mg base CX0 2 "_law_spoilt" (pr2 (p_l_spoilt)) := ⟨_, _, _, G_l_spoilt, PySem.W.mg_of X G a_l_spoilt, k_l_spoilt, F_l_spoilt.binds (ps := ["_law_purse_here", "_law_words_here"]) fun _ _ _ _ _ _ us hl => match us, hl with | [_, _], _ => rfl⟩
  have F_l_laid := fun_mk (st := s_l_laid) l_l_laid d_l_laid k_l_laid
  have G_l_laid := ok_l_laid (P := l.prog) (ww := ww) (base := base) F_l_laid T 
  have c_l_laid : Fnc l.prog ww K mg base CX0 1 "_law_laid" (pr1 (p_l_laid)) := ⟨_, _, _, G_l_laid, PySem.W.mg_of X G a_l_laid, k_l_laid, F_l_laid.binds (ps := ["_law_stretches_here"]) fun _ _ _ _ _ _ us hl => match us, hl with | [_], _ => rfl⟩
  have F_law := fun_mk (st := s_law) l_law d_law k_law
  have G_law := ok_law (P := l.prog) (ww := ww) (base := base) F_law T c_l_cell c_l_due c_l_laid c_l_purse c_l_spoilt c_l_stretches c_l_told c_l_words c_spans_text
  exact G_law
theorem walk {l : PySem.W.OpenLaw} {q : Program} {loose : List Str} {XP : (Str → Option Value) → Heap → Prop} {YP : World → Heap → Prop} {d : DefRec} {K : Params → PySem.W.Frag} (hn : l.most = some 63) (hdf : d.params.defaults = [])
    (hY : ∀ (w : World) (h : Heap), YP w h → (K w.params).In h)
    (F : ∀ (w : World) (mg : Str → Option Value) (fa : Addr) (h : Heap), (K w.params).In h → h.Ns mainGlobals mg → mg d.name = some (.ref fa) →
      ∃ fd : FuncData, (∀ (s : Shared) (u : Value), BindsTo s fd ⟨[u], []⟩ [("_law_script", u)]) ∧ ∀ base : Heap, (K w.params).In base → base.Ns mainGlobals mg → ST.TopOk l.prog w (K w.params) mg base CX0 fa fd ["_law_script"] (pr1 (p_law (K w.params)))) :
    PySem.W.WalkO q loose XP YP l.row.toRowW d [] (fun f vs => PySem.call f vs) :=
  ST.walk_top (n := 63) (x := "_law_script") (CX := fun _ => CX0) (sp := fun w => pr1 (p_law (K w.params))) hn (by decide) hdf hY F (fun _ H a ns hl _ hS => ⟨⟨H, H, fun _ _ h => h⟩, _, rfl, rfl, law_in hl hS⟩) fun _ _ _ _ _ z => z
end L
open PySem PySem.W PyProof.Rows in
set_option maxRecDepth 100000 in
set_option maxHeartbeats 0 in
theorem PySem.Challenge.cw_foldlog_k08_spans_as_texts_holds : PySem.Challenge.rw_foldlog_k08_spans_as_texts.Holds := by
  w_on; o_law; k_head; (case hw => w_witness2)
  k_fill
  refine L.walk (l := PySem.Challenge.rw_foldlog_k08_spans_as_texts) rfl rfl (fun w h Y => PySem.W.kIn_of Y) ?F
  case F =>
    intro w mg fa h KX G hmg
    refine' L.all_mk KX G hmg ?g_LogError ?rd_LogError ?gs_LogError ?vv_LogError ?xp ?xq ?g_NoSpans ?xl_NoSpans ?xs_NoSpans ?xe_NoSpans ?xt_NoSpans ?xk_NoSpans ?xg_NoSpans ?xh_NoSpans ?xd_NoSpans ?xc_NoSpans ?xo_NoSpans ?xn_NoSpans ?g_NoText ?xl_NoText ?xs_NoText ?xe_NoText ?xt_NoText ?xk_NoText ?xg_NoText ?xh_NoText ?xd_NoText ?xc_NoText ?xo_NoText ?xn_NoText ?su_NoText_ValueError ?su_NoText_NoSpans ?ne_NoText_NoSpans ?su_NoText_LogError ?xe_LogError ?xd_LogError ?xt_LogError ?a_is_plain ?l_is_plain ?d_is_plain ?k_is_plain ?a_whole_in ?l_whole_in ?d_whole_in ?k_whole_in ?a_NoText_init ?i_NoText_init ?l_NoText_init ?d_NoText_init ?k_NoText_init ?a_stretch_in ?l_stretch_in ?d_stretch_in ?k_stretch_in ?a_spans_in ?l_spans_in ?d_spans_in ?k_spans_in ?a_l_cell ?l_l_cell ?d_l_cell ?k_l_cell ?a_l_purse ?l_l_purse ?d_l_purse ?k_l_purse ?a_l_take ?l_l_take ?d_l_take ?k_l_take ?a_spans_text ?l_spans_text ?d_spans_text ?k_spans_text ?a_l_stretches ?l_l_stretches ?d_l_stretches ?k_l_stretches ?a_l_words ?l_l_words ?d_l_words ?k_l_words ?a_l_value ?l_l_value ?d_l_value ?k_l_value ?a_l_due ?l_l_due ?d_l_due ?k_l_due ?a_l_told ?l_l_told ?d_l_told ?k_l_told ?a_l_spoilt ?l_l_spoilt ?d_l_spoilt ?k_l_spoilt ?a_l_laid ?l_l_laid ?d_l_laid ?k_l_laid ?a_law ?l_law ?d_law ?k_law ?n_all ?n_enumerate ?n_int ?n_isinstance ?n_len ?n_list ?n_max ?n_min ?n_range ?n_repr ?n_set ?n_sorted ?n_str ?c_FARTHEST ?r_c_FARTHEST ?c_FIGURES ?r_c_FIGURES ?c_MOST_FIGURES ?r_c_MOST_FIGURES
    (case g_LogError => k_is)
    (case rd_LogError => k_is)
    (case gs_LogError => k_is)
    (case vv_LogError => k_is)
    (case xp => k_is)
    (case xq => k_is)
    (case g_NoSpans => k_is)
    (case xl_NoSpans => k_is)
    (case xs_NoSpans => k_is)
    (case xe_NoSpans => k_is)
    (case xt_NoSpans => k_is)
    (case xk_NoSpans => k_is)
    (case xg_NoSpans => k_is)
    (case xh_NoSpans => k_is)
    (case xd_NoSpans => k_is)
    (case xc_NoSpans => k_is)
    (case xo_NoSpans => k_is)
    (case xn_NoSpans => k_is)
    (case g_NoText => k_is)
    (case xl_NoText => k_is)
    (case xs_NoText => k_is)
    (case xe_NoText => k_is)
    (case xt_NoText => k_is)
    (case xk_NoText => k_is)
    (case xg_NoText => k_is)
    (case xh_NoText => k_is)
    (case xd_NoText => k_is)
    (case xc_NoText => k_is)
    (case xo_NoText => k_is)
    (case xn_NoText => k_is)
    (case su_NoText_ValueError => k_is)
    (case su_NoText_NoSpans => k_is)
    (case ne_NoText_NoSpans => first | rfl | decide | k_is)
    (case su_NoText_LogError => k_is)
    (case xe_LogError => k_is)
    (case xd_LogError => k_is)
    (case xt_LogError => k_is)
    (case a_is_plain => k_is)
    (case l_is_plain => k_is)
    (case d_is_plain => k_is)
    (case k_is_plain => k_is)
    (case a_whole_in => k_is)
    (case l_whole_in => k_is)
    (case d_whole_in => k_is)
    (case k_whole_in => k_is)
    (case a_NoText_init => k_is)
    (case i_NoText_init => k_is)
    (case l_NoText_init => k_is)
    (case d_NoText_init => k_is)
    (case k_NoText_init => k_is)
    (case a_stretch_in => k_is)
    (case l_stretch_in => k_is)
    (case d_stretch_in => k_is)
    (case k_stretch_in => k_is)
    (case a_spans_in => k_is)
    (case l_spans_in => k_is)
    (case d_spans_in => k_is)
    (case k_spans_in => k_is)
    (case a_l_cell => k_is)
    (case l_l_cell => k_is)
    (case d_l_cell => k_is)
    (case k_l_cell => k_is)
    (case a_l_purse => k_is)
    (case l_l_purse => k_is)
    (case d_l_purse => k_is)
    (case k_l_purse => k_is)
    (case a_l_take => k_is)
    (case l_l_take => k_is)
    (case d_l_take => k_is)
    (case k_l_take => k_is)
    (case a_spans_text => k_is)
    (case l_spans_text => k_is)
    (case d_spans_text => k_is)
    (case k_spans_text => k_is)
    (case a_l_stretches => k_is)
    (case l_l_stretches => k_is)
    (case d_l_stretches => k_is)
    (case k_l_stretches => k_is)
    (case a_l_words => k_is)
    (case l_l_words => k_is)
    (case d_l_words => k_is)
    (case k_l_words => k_is)
    (case a_l_value => k_is)
    (case l_l_value => k_is)
    (case d_l_value => k_is)
    (case k_l_value => k_is)
    (case a_l_due => k_is)
    (case l_l_due => k_is)
    (case d_l_due => k_is)
    (case k_l_due => k_is)
    (case a_l_told => k_is)
    (case l_l_told => k_is)
    (case d_l_told => k_is)
    (case k_l_told => k_is)
    (case a_l_spoilt => k_is)
    (case l_l_spoilt => k_is)
    (case d_l_spoilt => k_is)
    (case k_l_spoilt => k_is)
    (case a_l_laid => k_is)
    (case l_l_laid => k_is)
    (case d_l_laid => k_is)
    (case k_l_laid => k_is)
    (case a_law => k_is)
    (case l_law => k_is)
    (case d_law => k_is)
    (case k_law => k_is)
    (case n_all => k_is)
    (case n_enumerate => k_is)
    (case n_int => k_is)
    (case n_isinstance => k_is)
    (case n_len => k_is)
    (case n_list => k_is)
    (case n_max => k_is)
    (case n_min => k_is)
    (case n_range => k_is)
    (case n_repr => k_is)
    (case n_set => k_is)
    (case n_sorted => k_is)
    (case n_str => k_is)
    (case c_FARTHEST => k_is)
    (case r_c_FARTHEST => first | exact ⟨_, rfl⟩ | exact rfl)
    (case c_FIGURES => k_is)
    (case r_c_FIGURES => first | exact ⟨_, rfl⟩ | exact rfl)
    (case c_MOST_FIGURES => k_is)
    (case r_c_MOST_FIGURES => first | exact ⟨_, rfl⟩ | exact rfl)
#print axioms PySem.Challenge.cw_foldlog_k08_spans_as_texts_holds
