import PyProof.Rows.All
import Wide.All
import OpenK.AllK
import Wide.FinOn
import HandS.ForMost
import HandS.Exc
import HandS.TryOnly
import HandS.ExcOwn
import HandS.WordsExc
import HandS.ExcInit
import HandS.Flow
import HandS.Style
import HandS.IsInst
import HandS.StrMore
import HandS.SortRule
import HandS.SortInts
import HandS.Wide
import HandS.TupAny
import HandS.Walk
import KE.DataMinMax
import HandS.SortKw
import HandS.More
import HandS.Zip
import HandS.CallLocal
import HandS.Text
import HandS.Replace
import HandS.FStr
import KE.IntTextLaws
import HandS.ExcField
import HandS.ExcIs
import KE.KExcIs
import HandS.DictComp
import HandS.DeepEq
import HandS.Set
import KE.KDictSum
import HandS.ExcValue
import HandS.Finally
import PyProof.Rows.TmSorted
import PyProof.Rows.StrMeet
import PySem.Challenge.RW_foldlog_k31_entries_by_themselves
set_option Elab.async false
set_option linter.all false
set_option maxRecDepth 100000
set_option maxHeartbeats 4000000
namespace G
open PySem L2
/-- S: what will never change; H: all that stands -/
structure Wd where
  S : Hp
  H : Hp
  ok : Same S H
/-- from w to v: m the cells that were touched -/
structure Ext (m : Addr → Prop) (w v : Wd) : Prop where
  st : Same w.S v.S
  hp : ∀ b o, ¬ m b → w.H b = some o → v.H b = some o
  nw : ∀ b, ¬ m b → w.S b = none → w.H b ≠ none → v.S b = none
  al : ∀ b, w.H b ≠ none → v.H b ≠ none
abbrev Non : Addr → Prop := fun _ => False
abbrev One (l : Addr) : Addr → Prop := fun b => b = l
abbrev Two (l k : Addr) : Addr → Prop := fun b => b = l ∨ b = k
theorem Ext.refl (m : Addr → Prop) (w : Wd) : Ext m w w := ⟨fun _ _ h => h, fun _ _ _ h => h, fun _ _ h _ => h, fun _ h => h⟩
theorem Ext.back {m : Addr → Prop} {w v : Wd} {l : Addr} (e : Ext m w v) (h : v.H l = none) : w.H l = none := by
  cases q : w.H l with
  | none => rfl
  | some o => exact absurd h (e.al l (by rw [q]; exact fun z => by cases z))
theorem Ext.trans {m : Addr → Prop} {u w v : Wd} (a : Ext m u w) (b : Ext m w v) : Ext m u v :=
  ⟨fun c o h => b.st c o (a.st c o h), fun c o n h => b.hp c o n (a.hp c o n h), fun c n h q => b.nw c n (a.nw c n h q) (a.al c q), fun c h => b.al c (a.al c h)⟩
/-- a step that touches cells that u does not know, or may be touched -/
theorem Ext.step {m k : Addr → Prop} {u w v : Wd} (a : Ext m u w) (b : Ext k w v) (h : ∀ l, k l → u.H l = none ∨ m l) : Ext m u v := by
  have key : ∀ c, ¬ m c → u.H c ≠ none → ¬ k c := fun c n q z => (h c z).elim q n
  refine ⟨fun c o x => b.st c o (a.st c o x), fun c o n x => b.hp c o (key c n (by rw [x]; exact fun z => by cases z)) (a.hp c o n x), fun c n x q => b.nw c (key c n q) (a.nw c n x q) (a.al c q), fun c x => b.al c (a.al c x)⟩
theorem Ext.more {m k : Addr → Prop} {w v : Wd} (a : Ext m w v) (h : ∀ l, m l → w.H l = none ∨ k l) : Ext k w v := (Ext.refl k w).step a h
/-- a cell that is one's own -/
structure Own (w : Wd) (l : Addr) (o : HO) : Prop where
  s : w.S l = none
  h : w.H l = some o
theorem Own.ext {m : Addr → Prop} {w v : Wd} {l : Addr} {o : HO} (e : Ext m w v) (n : ¬ m l) (h : Own w l o) : Own v l o :=
  ⟨e.nw l n h.s (by rw [h.h]; exact fun z => by cases z), e.hp l o n h.h⟩
theorem Own.ne {w : Wd} {l p : Addr} {o : HO} (h : Own w l o) (n : w.H p = none) : l ≠ p := ne_of_none h.h n
theorem Own.ne' {w : Wd} {l p : Addr} {o : HO} (h : Own w l o) (n : w.H p = none) : p ≠ l := (ne_of_none h.h n).symm
section
variable {w : Wd} {o u : HO} {l : Addr} {Q : VK} {R : Hp → Prop}
/-- a new stable thing -/
theorem newS (k : ∀ p v, Ext Non w v → w.H p = none → v.S p = some o → Q (.ref p) v.H) : ∀ p, w.H p = none → Q (.ref p) (upd w.H p o) := fun p hp => by
  have sp : w.S p = none := w.ok.free hp
  refine k p ⟨upd w.S p o, upd w.H p o, fun b q h => ?_⟩ ⟨fun b q h => ?_, fun b q _ h => ?_, fun b _ h z => ?_, fun b h => ?_⟩ hp upd_same
  · by_cases e : b = p
    · subst e
      rw [upd_same] at h
      rw [upd_same]
      exact h
    · rw [upd_ne e] at h
      rw [upd_ne e]
      exact w.ok b q h
  · show upd w.S p o b = some q
    rw [upd_ne (ne_of_none h sp)]
    exact h
  · show upd w.H p o b = some q
    rw [upd_ne (ne_of_none h hp)]
    exact h
  · have e : b ≠ p := fun e => by rw [e, hp] at z; exact z rfl
    show upd w.S p o b = none
    rw [upd_ne e]
    exact h
  · have e : b ≠ p := fun e => by rw [e, hp] at h; exact h rfl
    show upd w.H p o b ≠ none
    rw [upd_ne e]
    exact h
/-- a new thing of one's own -/
theorem newO (k : ∀ p v, Ext Non w v → w.H p = none → Own v p o → Q (.ref p) v.H) : ∀ p, w.H p = none → Q (.ref p) (upd w.H p o) := fun p hp => by
  have sp : w.S p = none := w.ok.free hp
  refine k p ⟨w.S, upd w.H p o, fun b q h => ?_⟩ ⟨fun b q h => h, fun b q _ h => ?_, fun b _ h z => h, fun b h => ?_⟩ hp ⟨sp, upd_same⟩
  · rw [upd_ne (ne_of_none h sp)]
    exact w.ok b q h
  · show upd w.H p o b = some q
    rw [upd_ne (ne_of_none h hp)]
    exact h
  · have e : b ≠ p := fun e => by rw [e, hp] at h; exact h rfl
    show upd w.H p o b ≠ none
    rw [upd_ne e]
    exact h
/-- a store into a cell of one's own -/
theorem put (h : Own w l o) (k : ∀ v, Ext (One l) w v → Own v l u → R v.H) : R (upd w.H l u) := by
  refine k ⟨w.S, upd w.H l u, fun b q x => ?_⟩ ⟨fun b q x => x, fun b q n x => ?_, fun b n x z => x, fun b x => ?_⟩ ⟨h.s, upd_same⟩
  · have e : b ≠ l := fun e => by rw [e, h.s] at x; cases x
    rw [upd_ne e]
    exact w.ok b q x
  · show upd w.H l u b = some q
    rw [upd_ne n]
    exact x
  · show upd w.H l u b ≠ none
    by_cases e : b = l
    · rw [e, upd_same]
      exact fun z => by cases z
    · rw [upd_ne e]
      exact x
/-- what one owns is laid among what never changes -/
theorem lay (h : Own w l o) (k : ∀ v, Ext (One l) w v → v.S l = some o → R v.H) : R w.H := by
  refine k ⟨upd w.S l o, w.H, fun b q x => ?_⟩ ⟨fun b q x => ?_, fun b q _ x => x, fun b n x z => ?_, fun b x => x⟩ upd_same
  · by_cases e : b = l
    · subst e
      rw [upd_same] at x
      exact (Option.some.inj x) ▸ h.h
    · rw [upd_ne e] at x
      exact w.ok b q x
  · show upd w.S l o b = some q
    rw [upd_ne (fun e => by rw [e, h.s] at x; cases x)]
    exact x
  · show upd w.S l o b = none
    rw [upd_ne n]
    exact x
end
mutual
inductive Rp (S : Hp) : V → PyData → Prop
  | non : Rp S .non .none
  | bl (b : Bool) : Rp S (.bl b) (.bool b)
  | int (i : Int) : Rp S (.int i) (.int i)
  | str (x : Str) : Rp S (.str x) (.str x)
  | lst {a : Addr} {xs : List V} {ds : List PyData} : S a = some (.lst xs) → RpA S xs ds → Rp S (.ref a) (.list ds)
  | tup {a : Addr} {xs : List V} {ds : List PyData} : S a = some (.tup xs) → RpA S xs ds → Rp S (.ref a) (.tuple ds)
  | dct {a : Addr} {kvs : List (Key × V)} : S a = some (.dK kvs) → Rp S (.ref a) (.dict [])
inductive RpA (S : Hp) : List V → List PyData → Prop
  | nil : RpA S [] []
  | cons {v : V} {vs : List V} {d : PyData} {ds : List PyData} : Rp S v d → RpA S vs ds → RpA S (v :: vs) (d :: ds)
end
mutual
theorem Rp.mono {S T : Hp} (e : Same S T) : ∀ (d : PyData) (v : V), Rp S v d → Rp T v d
  | .none, _, h => by cases h; exact .non
  | .bool b, _, h => by cases h; exact .bl b
  | .int i, _, h => by cases h; exact .int i
  | .str x, _, h => by cases h; exact .str x
  | .list ds, _, h => by
    cases h with
    | lst h1 h2 => exact .lst (e _ _ h1) (RpA.mono e ds _ h2)
  | .tuple ds, _, h => by
    cases h with
    | tup h1 h2 => exact .tup (e _ _ h1) (RpA.mono e ds _ h2)
  | .dict _, _, h => by
    cases h with
    | dct h1 => exact .dct (e _ _ h1)
theorem RpA.mono {S T : Hp} (e : Same S T) : ∀ (ds : List PyData) (vs : List V), RpA S vs ds → RpA T vs ds
  | [], _, h => by cases h; exact .nil
  | d :: ds, _, h => by
    cases h with
    | cons h1 h2 => exact .cons (Rp.mono e d _ h1) (RpA.mono e ds _ h2)
end
theorem Rp.go {m : Addr → Prop} {w v : Wd} {x : V} {d : PyData} (e : Ext m w v) (h : Rp w.S x d) : Rp v.S x d := Rp.mono e.st d x h
theorem RpA.go {m : Addr → Prop} {w v : Wd} {x : List V} {d : List PyData} (e : Ext m w v) (h : RpA w.S x d) : RpA v.S x d := RpA.mono e.st d x h
theorem st_go {m : Addr → Prop} {w v : Wd} {a : Addr} {o : HO} (e : Ext m w v) (h : w.S a = some o) : v.S a = some o := e.st _ _ h
section
variable {S : Hp} {v : V} {vs us : List V} {ds es : List PyData} {d : PyData}
theorem Rp.list_inv (h : Rp S v (.list ds)) : ∃ a vs, v = .ref a ∧ S a = some (.lst vs) ∧ RpA S vs ds := by
  cases h with
  | lst h1 h2 => exact ⟨_, _, rfl, h1, h2⟩
theorem Rp.tuple_inv (h : Rp S v (.tuple ds)) : ∃ a vs, v = .ref a ∧ S a = some (.tup vs) ∧ RpA S vs ds := by
  cases h with
  | tup h1 h2 => exact ⟨_, _, rfl, h1, h2⟩
theorem Rp.int_inv {i : Int} (h : Rp S v (.int i)) : v = .int i := by cases h; rfl
theorem Rp.str_inv {i : Str} (h : Rp S v (.str i)) : v = .str i := by cases h; rfl
theorem RpA.length : ∀ {vs : List V} {ds : List PyData}, RpA S vs ds → vs.length = ds.length
  | _, _, .nil => rfl
  | _, _, .cons _ t => by rw [List.length_cons, List.length_cons, RpA.length t]
theorem RpA.get : ∀ {vs : List V} {ds : List PyData} {i : Nat} {v : V}, RpA S vs ds → vs[i]? = some v → ∃ d, ds[i]? = some d ∧ Rp S v d
  | _, _, i, _, .nil, h => by simp at h
  | _, _, 0, _, .cons r _, h => by simp at h; subst h; exact ⟨_, rfl, r⟩
  | _, _, i + 1, _, .cons _ t, h => by
    obtain ⟨d, h1, h2⟩ := RpA.get (i := i) t (by simpa using h)
    exact ⟨d, by simpa using h1, h2⟩
theorem RpA.get' : ∀ {vs : List V} {ds : List PyData} {i : Nat} {d : PyData}, RpA S vs ds → ds[i]? = some d → ∃ v, vs[i]? = some v ∧ Rp S v d
  | _, _, i, _, .nil, h => by simp at h
  | _, _, 0, _, .cons r _, h => by simp at h; subst h; exact ⟨_, rfl, r⟩
  | _, _, i + 1, _, .cons _ t, h => by
    obtain ⟨d, h1, h2⟩ := RpA.get' (i := i) t (by simpa using h)
    exact ⟨d, by simpa using h1, h2⟩
theorem RpA.append : ∀ {vs us : List V} {ds es : List PyData}, RpA S vs ds → RpA S us es → RpA S (vs ++ us) (ds ++ es)
  | _, _, _, _, .nil, h => h
  | _, _, _, _, .cons r t, h => .cons r (RpA.append t h)
theorem RpA.take : ∀ {vs : List V} {ds : List PyData} (n : Nat), RpA S vs ds → RpA S (vs.take n) (ds.take n)
  | _, _, 0, _ => .nil
  | _, _, _ + 1, .nil => .nil
  | _, _, n + 1, .cons r t => .cons r (RpA.take n t)
theorem RpA.drop : ∀ {vs : List V} {ds : List PyData} (n : Nat), RpA S vs ds → RpA S (vs.drop n) (ds.drop n)
  | _, _, 0, h => h
  | _, _, _ + 1, .nil => .nil
  | _, _, n + 1, .cons _ t => RpA.drop n t
theorem RpA.one (h : Rp S v d) : RpA S [v] [d] := .cons h .nil
theorem RpA.ints_inv : ∀ {vs : List V} {ns : List Int}, RpA S vs (ns.map PyData.int) → vs = ns.map V.int
  | _, [], h => by cases h; rfl
  | _, n :: ns, h => by
    cases h with
    | cons h1 h2 =>
      rw [h1.int_inv, RpA.ints_inv h2]
      rfl
theorem RpA.strs_inv : ∀ {vs : List V} {ns : List Str}, RpA S vs (ns.map PyData.str) → vs = ns.map V.str
  | _, [], h => by cases h; rfl
  | _, n :: ns, h => by
    cases h with
    | cons h1 h2 =>
      rw [h1.str_inv, RpA.strs_inv h2]
      rfl
end
/-- no dict within -/
def nd : PyData → Bool
  | .dict _ => false
  | .list ds => ds.attach.all fun ⟨d, _⟩ => nd d
  | .tuple ds => ds.attach.all fun ⟨d, _⟩ => nd d
  | _ => true
mutual
theorem Rp.dp {K : PySem.W.Frag} {S : Hp} : ∀ (d : PyData) (v : V), Rp S v d → nd d = true → Dp K S v d
  | .none, _, h, _ => by cases h; exact .non
  | .bool b, _, h, _ => by cases h; exact .bl b
  | .int i, _, h, _ => by cases h; exact .int i
  | .str x, _, h, _ => by cases h; exact .str x
  | .list ds, _, h, n => by
    cases h with
    | lst h1 h2 =>
      unfold nd at n
      rw [List.all_eq_true] at n
      exact .lst (SqL.of h1) (RpA.dp ds _ h2 fun d hd => n ⟨d, hd⟩ (List.mem_attach ..))
  | .tuple ds, _, h, n => by
    cases h with
    | tup h1 h2 =>
      unfold nd at n
      rw [List.all_eq_true] at n
      exact .tup (SqT.of h1) (RpA.dp ds _ h2 fun d hd => n ⟨d, hd⟩ (List.mem_attach ..))
  | .dict _, _, h, n => by unfold nd at n; cases n
theorem RpA.dp {K : PySem.W.Frag} {S : Hp} : ∀ (ds : List PyData) (vs : List V), RpA S vs ds → (∀ d ∈ ds, nd d = true) → DpAll K S vs ds
  | [], _, h, _ => by cases h; exact .nil
  | d :: ds, _, h, n => by
    cases h with
    | cons h1 h2 => exact .cons (Rp.dp d _ h1 (n d List.mem_cons_self)) (RpA.dp ds _ h2 fun e he => n e (List.mem_cons_of_mem _ he))
end
mutual
theorem dp_mono {K : PySem.W.Frag} {S T : Hp} (e : Same S T) : ∀ (d : PyData) (v : V), Dp K S v d → Dp K T v d
  | .none, _, h => by cases h; exact .non
  | .bool b, _, h => by cases h; exact .bl b
  | .int i, _, h => by cases h; exact .int i
  | .str x, _, h => by cases h; exact .str x
  | .list ds, _, h => by
    cases h with
    | lst h1 h2 => exact .lst (e.seq h1) (dp_monoA e ds _ h2)
  | .tuple ds, _, h => by
    cases h with
    | tup h1 h2 => exact .tup (h1.elim (fun q => q.elim (fun z => SqT.of (e _ _ z)) fun ⟨o, z⟩ => .inl (.inr ⟨o, e _ _ z⟩)) .inr) (dp_monoA e ds _ h2)
  | .dict _, _, h => by cases h
theorem dp_monoA {K : PySem.W.Frag} {S T : Hp} (e : Same S T) : ∀ (ds : List PyData) (vs : List V), DpAll K S vs ds → DpAll K T vs ds
  | [], _, h => by cases h; exact .nil
  | d :: ds, _, h => by
    cases h with
    | cons h1 h2 => exact .cons (dp_mono e d _ h1) (dp_monoA e ds _ h2)
end
end G
set_option Elab.async false
set_option linter.all false
set_option maxRecDepth 100000
set_option maxHeartbeats 4000000
namespace G
open PySem L2
section
variable {X : Cx}
def gAdd (K : PySem.W.Frag) : R2 := fun x y H Q => match x, y with
  | .int i, .int j => Q (.int (i + j)) H
  | .str i, .str j => i.length + j.length ≤ sizeLine ∧ Q (.str (i ++ j)) H
  | .ref a, .ref b => (∃ xs zs, H a = some (.lst xs) ∧ H b = some (.lst zs) ∧ xs.length + zs.length ≤ sizeLine ∧ ∀ p, H p = none → Q (.ref p) (upd H p (.lst (xs ++ zs)))) ∨ rCatA K (.ref a) (.ref b) H Q
  | _, _ => False
theorem g_add : OpR X (binaryOp .Add) (gAdd X.K) := by
  intro pins s σ H x y v u Q I rx ry h
  cases x <;> cases y <;> first | exact h.elim | skip
  case int.int i j => exact op_add pins s σ H _ _ v u Q I rx ry ⟨i, j, rfl, rfl, h⟩
  case str.str i j => exact op_add_str pins s σ H _ _ v u Q I rx ry ⟨i, j, rfl, rfl, h.1, h.2⟩
  case ref.ref a b =>
    rcases h with ⟨xs, zs, h1, h2, h3, h4⟩ | h
    · exact op_cat pins s σ H _ _ v u Q I rx ry ⟨a, b, xs, zs, rfl, rfl, h1, h2, h3, h4⟩
    · exact op_catA pins s σ H _ _ v u Q I rx ry h
def gMul (K : PySem.W.Frag) : R2 := fun x y H Q => match x, y with
  | .int i, .int j => (CMul i j ∨ CMulW i j) ∧ Q (.int (i * j)) H
  | .ref a, .int k => ∃ xs, H a = some (.lst xs) ∧ -(2 ^ 63) ≤ k ∧ k < 2 ^ 63 ∧ xs.length * k.toNat ≤ sizeLine ∧ ∀ p, H p = none → Q (.ref p) (upd H p (.lst (List.replicate k.toNat xs).flatten))
  | _, _ => False
def gSub : R2 := fun x y H Q => match x, y with
  | .int i, .int j => Q (.int (i - j)) H
  | _, _ => False
theorem g_sub : OpR X (binaryOp .Sub) gSub := by
  intro pins s σ H x y v u Q I rx ry h
  cases x <;> cases y <;> first | exact h.elim | skip
  case int.int i j => exact op_sub pins s σ H _ _ v u Q I rx ry ⟨i, j, rfl, rfl, h⟩
/-- any divisor above nought, of fewer than 9,000 bits -/
def gDiv : R2 := fun x y H Q => match x, y with
  | .int i, .int j => CDivW i j ∧ Q (.int (i / j)) H
  | _, _ => False
theorem g_div : OpR X (binaryOp .FloorDiv) gDiv := by
  intro pins s σ H x y v u Q I rx ry h
  cases x <;> cases y <;> first | exact h.elim | skip
  case int.int i j => exact op_fdivW pins s σ H _ _ v u Q I rx ry ⟨i, j, rfl, rfl, h.1, h.2⟩
def gMod : R2 := fun x y H Q => match x, y with
  | .int i, .int j => 0 < j ∧ Q (.int (i % j)) H
  | _, _ => False
theorem g_mod : OpR X (binaryOp .Mod) gMod := by
  intro pins s σ H x y v u Q I rx ry h
  cases x <;> cases y <;> first | exact h.elim | skip
  case int.int i j => exact op_mod pins s σ H _ _ v u Q I rx ry ⟨i, j, rfl, rfl, h.1, h.2⟩
def gPow : R2 := fun x y H Q => match x, y with
  | .int i, .int j => CPow i j ∧ Q (.int (i ^ j.toNat)) H
  | _, _ => False
theorem g_pow : OpR X (binaryOp .Pow) gPow := by
  intro pins s σ H x y v u Q I rx ry h
  cases x <;> cases y <;> first | exact h.elim | skip
  case int.int i j => exact op_pow pins s σ H _ _ v u Q I rx ry ⟨i, j, rfl, rfl, h.1, h.2⟩
def gLt : R2 := fun x y H Q => match x, y with
  | .int i, .int j => Q (.bl (decide (i < j))) H
  | .str i, .str j => Q (.bl (decide (i.cps.toList < j.cps.toList))) H
  | _, _ => False
theorem g_lt : OpR X (compareOp .Lt) gLt := by
  intro pins s σ H x y v u Q I rx ry h
  cases x <;> cases y <;> first | exact h.elim | skip
  case int.int i j => exact op_lt pins s σ H _ _ v u Q I rx ry ⟨i, j, rfl, rfl, h⟩
  case str.str i j => exact op_lt_str pins s σ H _ _ v u Q I rx ry ⟨i, j, rfl, rfl, h⟩
def gLe : R2 := fun x y H Q => match x, y with
  | .int i, .int j => Q (.bl (decide (i ≤ j))) H
  | .str i, .str j => Q (.bl (!decide (j.cps.toList < i.cps.toList))) H
  | _, _ => False
theorem g_le : OpR X (compareOp .LtE) gLe := by
  intro pins s σ H x y v u Q I rx ry h
  cases x <;> cases y <;> first | exact h.elim | skip
  case int.int i j => exact op_le pins s σ H _ _ v u Q I rx ry ⟨i, j, rfl, rfl, h⟩
  case str.str i j => exact op_le_str pins s σ H _ _ v u Q I rx ry ⟨i, j, rfl, rfl, h⟩
def gGt : R2 := fun x y H Q => match x, y with
  | .int i, .int j => Q (.bl (decide (j < i))) H
  | _, _ => False
theorem g_gt : OpR X (compareOp .Gt) gGt := by
  intro pins s σ H x y v u Q I rx ry h
  cases x <;> cases y <;> first | exact h.elim | skip
  case int.int i j => exact op_gt pins s σ H _ _ v u Q I rx ry ⟨i, j, rfl, rfl, h⟩
/-- ==: two plain values, or data -/
def gEq (K : PySem.W.Frag) : R2 := fun x y H Q => rEq x y H Q ∨ rEqD K x y H Q
theorem g_eq (hu : X.A.units + 64 < cLine) : OpR X (compareOp .Eq) (gEq X.K) := op_eq.or (op_eqD hu)
def gNe (K : PySem.W.Frag) : R2 := fun x y H Q => rNe x y H Q ∨ rNeD K x y H Q
theorem g_ne (hu : X.A.units + 64 < cLine) : OpR X (compareOp .NotEq) (gNe X.K) := op_ne.or (op_neD hu)
def gIs : R2 := fun x y H Q => match y with
  | .non => Q (.bl (decide (x = .non))) H
  | .bl b => ∃ a, x = .bl a ∧ Q (.bl (decide (a = b))) H
  | _ => False
theorem g_is : OpR X (compareOp .Is) gIs := by
  intro pins s σ H x y v u Q I rx ry h
  cases y <;> first | exact h.elim | skip
  case non => exact op_isN pins s σ H _ _ v u Q I rx ry ⟨rfl, h⟩
  case bl b =>
    obtain ⟨a, rfl, h⟩ := h
    exact op_isBl pins s σ H _ _ v u Q I rx ry ⟨a, b, rfl, rfl, h⟩
def gIsNot : R2 := fun x y H Q => match y with
  | .non => Q (.bl (!decide (x = .non))) H
  | .bl b => ∃ a, x = .bl a ∧ Q (.bl (!decide (a = b))) H
  | _ => False
theorem g_isnot : OpR X (compareOp .IsNot) gIsNot := by
  intro pins s σ H x y v u Q I rx ry h
  cases y <;> first | exact h.elim | skip
  case non => exact op_notN pins s σ H _ _ v u Q I rx ry ⟨rfl, h⟩
  case bl b =>
    obtain ⟨a, rfl, h⟩ := h
    exact op_notBl pins s σ H _ _ v u Q I rx ry ⟨a, b, rfl, rfl, h⟩
/-- in: a sign in a text; a flat thing in a list or tuple of flat things -/
def gIn (K : PySem.W.Frag) : R2 := fun x y H Q => match x, y with
  | .str a, .str z => ∃ c, a = ⟨#[c]⟩ ∧ Q (.bl (decide (c ∈ z.cps.toList))) H
  | x, y => rIn K false x y H Q
theorem g_in : OpR X (compareOp .In) (gIn X.K) := by
  intro pins s σ H x y v u Q I rx ry h
  have two : (∃ a z, x = .str a ∧ y = .str z) ∨ rIn X.K false x y H Q := by
    cases x <;> cases y <;> first | exact .inl ⟨_, _, rfl, rfl⟩ | exact .inr h
  rcases two with ⟨a, z, rfl, rfl⟩ | h
  · obtain ⟨c, rfl, h⟩ := h
    exact op_in_sign pins s σ H _ _ v u Q I rx ry ⟨c, z, rfl, rfl, h⟩
  · exact op_in_seq pins s σ H _ _ v u Q I rx ry h
/-- x[i] of a list, a tuple, a text -/
def gIx (K : PySem.W.Frag) : R2 := fun x y H Q => match x, y with
  | .ref p, .int i => ∃ xs v, (SqL K H p xs ∨ SqT K H p xs) ∧ atI xs i = some v ∧ Q v H
  | .str z, .int i => ∃ c, z.length ≤ sizeLine ∧ atI z.cps.toList i = some c ∧ Q (.str ⟨#[c]⟩) H
  | _, _ => False
theorem g_ix : IxR X (gIx X.K) := by
  intro value slice pins s σ H x y v u Q I rx ry h hs
  cases x <;> cases y <;> first | exact h.elim | skip
  case ref.int p i =>
    obtain ⟨xs, z, h1 | h1, h2, h3⟩ := h
    · exact ix_list value slice pins s σ H _ _ v u Q I rx ry ⟨p, xs, i, z, rfl, rfl, h1, h2, h3⟩ hs
    · exact ix_tup value slice pins s σ H _ _ v u Q I rx ry ⟨p, xs, i, z, rfl, rfl, h1, h2, h3⟩ hs
  case str.int z i =>
    obtain ⟨c, h1, h2, h3⟩ := h
    exact ix_str value slice pins s σ H _ _ v u Q I rx ry ⟨z, i, c, rfl, rfl, h1, h2, h3⟩ hs
/-- x[lo:hi] -/
def gSl (K : PySem.W.Frag) : V → Option Int → Option Int → Hp → VK → Prop := fun x lo hi H Q => match x with
  | .str z => z.length ≤ sizeLine ∧ Q (.str (cutS z lo hi)) H
  | .ref a => (∃ xs, SqL K H a xs ∧ ∀ p, H p = none → Q (.ref p) (upd H p (.lst (cutV xs lo hi)))) ∨ rSlA K (.ref a) lo hi H Q
  | _ => False
theorem g_sl : SlR X (gSl X.K) := by
  intro pins s σ H x v vl vu lo hi sl Q I rx hs pl pu h
  cases x <;> first | exact h.elim | skip
  case str z => exact sl_str pins s σ H _ v vl vu lo hi sl Q I rx hs pl pu ⟨z, rfl, h.1, h.2⟩
  case ref a =>
    rcases h with ⟨xs, h1, h2⟩ | h
    · exact sl_list pins s σ H _ v vl vu lo hi sl Q I rx hs pl pu ⟨a, xs, rfl, h1, h2⟩
    · exact sl_tupA pins s σ H _ v vl vu lo hi sl Q I rx hs pl pu h
/-- len -/
def gLen (K : PySem.W.Frag) : List V → Hp → VK → Prop := fun vs H Q => match vs with
  | [.ref p] => ∃ n : Nat, ((∃ ys, (SqL K H p ys ∨ SqT K H p ys) ∧ n = ys.length) ∨ ∃ kvs, H p = some (.dK kvs) ∧ n = kvs.length) ∧ Q (.int n) H
  | [.str z] => z.length ≤ sizeLine ∧ Q (.int z.length) H
  | _ => False
theorem g_len : CallR X (.builtin "len") (gLen X.K) := by
  intro pins s σ H xs us Q I r h
  match xs, h with
  | [.ref p], h =>
    obtain ⟨n, ⟨ys, h1, rfl⟩ | ⟨kvs, h1, rfl⟩, h2⟩ := h
    · exact call_len_seq pins s σ H _ us Q I r ⟨p, ys, rfl, h1, h2⟩
    · exact call_lenD pins s σ H _ us Q I r ⟨p, kvs, rfl, h1, h2⟩
  | [.str z], h => exact call_len_str pins s σ H _ us Q I r ⟨z, rfl, h.1, h.2⟩
/-- max of two numbers, or of a list of them -/
def gMax (K : PySem.W.Frag) : List V → Hp → VK → Prop := fun vs H Q => match vs with
  | [.int i, .int j] => Q (.int (max i j)) H
  | vs => rMax K vs H Q
theorem max_if (i j : Int) : (if j > i then j else i) = max i j := by omega
theorem min_if (i j : Int) : (if j < i then j else i) = min i j := by omega
theorem g_max (hc : X.calm = true) : CallR X (.builtin "max") (gMax X.K) := by
  intro pins s σ H xs us Q I r h
  have two : (∃ i j, xs = [.int i, .int j]) ∨ rMax X.K xs H Q := by
    unfold gMax at h
    split at h
    · exact .inl ⟨_, _, rfl⟩
    · exact .inr h
  rcases two with ⟨i, j, rfl⟩ | h
  · exact call_max2 hc pins s σ H _ us Q I r ⟨i, j, rfl, by rw [max_if]; exact h⟩
  · exact cr_max hc pins s σ H _ us Q I r h
def gMin (K : PySem.W.Frag) : List V → Hp → VK → Prop := fun vs H Q => match vs with
  | [.int i, .int j] => Q (.int (min i j)) H
  | vs => rMin K vs H Q
theorem g_min (hc : X.calm = true) : CallR X (.builtin "min") (gMin X.K) := by
  intro pins s σ H xs us Q I r h
  have two : (∃ i j, xs = [.int i, .int j]) ∨ rMin X.K xs H Q := by
    unfold gMin at h
    split at h
    · exact .inl ⟨_, _, rfl⟩
    · exact .inr h
  rcases two with ⟨i, j, rfl⟩ | h
  · exact call_min2 hc pins s σ H _ us Q I r ⟨i, j, rfl, by rw [min_if]; exact h⟩
  · exact cr_min hc pins s σ H _ us Q I r h
def gInt : List V → Hp → VK → Prop := fun vs H Q => match vs with
  | [.int i] => Q (.int i) H
  | [.bl b] => Q (.int (if b then 1 else 0)) H
  | [.str a] => ∃ n, PySem.intText? a = some n ∧ a.length ≤ 640 ∧ Q (.int n) H
  | _ => False
theorem g_int : CallR X (.type "int") gInt := by
  intro pins s σ H xs us Q I r h
  match xs, h with
  | [.int i], h => exact call_int1 pins s σ H _ us Q I r (.inl ⟨i, rfl, h⟩)
  | [.bl i], h => exact call_int1 pins s σ H _ us Q I r (.inr ⟨i, rfl, h⟩)
  | [.str a], h =>
    obtain ⟨n, h1, h2, h3⟩ := h
    exact call_int_str pins s σ H _ us Q I r ⟨a, n, rfl, h1, h2, h3⟩
/-- list(x): of a list, a tuple -/
def gList (K : PySem.W.Frag) : List V → Hp → VK → Prop := fun vs H Q => match vs with
  | [.ref p] => ∃ ys, (SqL K H p ys ∨ SqT K H p ys) ∧ ∀ l, H l = none → Q (.ref l) (upd H l (.lst ys))
  | _ => False
theorem g_list : CallR X (.type "list") (gList X.K) := by
  intro pins s σ H xs us Q I r h
  match xs, h with
  | [.ref p], h =>
    obtain ⟨ys, h1, h2⟩ := h
    exact call_list_of pins s σ H _ us Q I r ⟨p, ys, rfl, h1, h2⟩
end
end G
set_option Elab.async false
set_option linter.all false
set_option maxRecDepth 100000
set_option maxHeartbeats 4000000
namespace G
open PySem L2
section
variable {X : Cx} {K : PySem.W.Frag}
theorem g_mul : OpR X (binaryOp .Mult) (gMul X.K) := by
  intro pins s σ H x y v u Q I rx ry h
  cases x <;> cases y <;> first | exact h.elim | skip
  case int.int i j =>
    rcases h with ⟨h | h, q⟩
    · exact op_mul pins s σ H _ _ v u Q I rx ry ⟨i, j, rfl, rfl, h, q⟩
    · exact op_mulW pins s σ H _ _ v u Q I rx ry ⟨i, j, rfl, rfl, h, q⟩
  case ref.int a k =>
    obtain ⟨xs, h1, h2, h3, h4, h5⟩ := h
    exact op_rep pins s σ H _ _ v u Q I rx ry ⟨a, k, xs, rfl, rfl, h1, h2, h3, h4, h5⟩
end
def isInt : PyData → Bool | .int _ => true | .bool _ => true | _ => false
def isBool : PyData → Bool | .bool _ => true | _ => false
def isStr : PyData → Bool | .str _ => true | _ => false
def isList : PyData → Bool | .list _ => true | _ => false
def isTup : PyData → Bool | .tuple _ => true | _ => false
def tyN : PyData → String | .none => "NoneType" | .bool _ => "bool" | .int _ => "int" | .str _ => "str" | .list _ => "list" | .tuple _ => "tuple" | .dict _ => "dict"
theorem Rp.ty {K : PySem.W.Frag} {w : Wd} {x : V} {d : PyData} (h : Rp w.S x d) : TyX K w.H x (.type (tyN d)) := by
  cases h with
  | non => exact .base .non
  | bl b => exact .base (.bl b)
  | int i => exact .base (.int i)
  | str s => exact .base (.str s)
  | lst h1 _ => exact .base (.lst (w.ok _ _ h1))
  | tup h1 _ => exact .base (.tup (w.ok _ _ h1))
  | dct h1 => exact .base (.dK (w.ok _ _ h1))
def isT (T : String) (d : PyData) : Option Bool := kitB (tyN d) T
theorem s_isi {K : PySem.W.Frag} {w : Wd} {x : V} {d : PyData} {T : String} {b : Bool} {Q : VK} (h : Rp w.S x d) (e : isT T d = some b) (k : Q (.bl b) w.H) : rIsi K [x, .ty T] w.H Q :=
  ⟨x, .ty T, _, _, b, rfl, .ty T, h.ty, kit_ty e, k⟩
theorem isT_int : ∀ d : PyData, isT "int" d = some (isInt d)
  | .none => (by decide +kernel : kitB "NoneType" "int" = some false)
  | .bool _ => (by decide +kernel : kitB "bool" "int" = some true)
  | .int _ => (by decide +kernel : kitB "int" "int" = some true)
  | .str _ => (by decide +kernel : kitB "str" "int" = some false)
  | .list _ => (by decide +kernel : kitB "list" "int" = some false)
  | .tuple _ => (by decide +kernel : kitB "tuple" "int" = some false)
  | .dict _ => (by decide +kernel : kitB "dict" "int" = some false)
theorem isT_bool : ∀ d : PyData, isT "bool" d = some (isBool d)
  | .none => (by decide +kernel : kitB "NoneType" "bool" = some false)
  | .bool _ => (by decide +kernel : kitB "bool" "bool" = some true)
  | .int _ => (by decide +kernel : kitB "int" "bool" = some false)
  | .str _ => (by decide +kernel : kitB "str" "bool" = some false)
  | .list _ => (by decide +kernel : kitB "list" "bool" = some false)
  | .tuple _ => (by decide +kernel : kitB "tuple" "bool" = some false)
  | .dict _ => (by decide +kernel : kitB "dict" "bool" = some false)
theorem isT_str : ∀ d : PyData, isT "str" d = some (isStr d)
  | .none => (by decide +kernel : kitB "NoneType" "str" = some false)
  | .bool _ => (by decide +kernel : kitB "bool" "str" = some false)
  | .int _ => (by decide +kernel : kitB "int" "str" = some false)
  | .str _ => (by decide +kernel : kitB "str" "str" = some true)
  | .list _ => (by decide +kernel : kitB "list" "str" = some false)
  | .tuple _ => (by decide +kernel : kitB "tuple" "str" = some false)
  | .dict _ => (by decide +kernel : kitB "dict" "str" = some false)
theorem isT_list : ∀ d : PyData, isT "list" d = some (isList d)
  | .none => (by decide +kernel : kitB "NoneType" "list" = some false)
  | .bool _ => (by decide +kernel : kitB "bool" "list" = some false)
  | .int _ => (by decide +kernel : kitB "int" "list" = some false)
  | .str _ => (by decide +kernel : kitB "str" "list" = some false)
  | .list _ => (by decide +kernel : kitB "list" "list" = some true)
  | .tuple _ => (by decide +kernel : kitB "tuple" "list" = some false)
  | .dict _ => (by decide +kernel : kitB "dict" "list" = some false)
theorem isT_tup : ∀ d : PyData, isT "tuple" d = some (isTup d)
  | .none => (by decide +kernel : kitB "NoneType" "tuple" = some false)
  | .bool _ => (by decide +kernel : kitB "bool" "tuple" = some false)
  | .int _ => (by decide +kernel : kitB "int" "tuple" = some false)
  | .str _ => (by decide +kernel : kitB "str" "tuple" = some false)
  | .list _ => (by decide +kernel : kitB "list" "tuple" = some false)
  | .tuple _ => (by decide +kernel : kitB "tuple" "tuple" = some true)
  | .dict _ => (by decide +kernel : kitB "dict" "tuple" = some false)
section
variable {X : Cx} {K : PySem.W.Frag} {σ σ' : L2.St} {H : Hp} {Q : VK} {v x y : V} {i n : Nat} {ta tb tc te : TE} {t u : TT} {r r' : R2} {D : Ends} {A : TA} {w : Wd} {vs : List V}
theorem s_seq {t u : TS} (k : t { D with nx := u D } σ H) : tSeq t u D σ H := k
theorem s_next (k : D.nx σ H) : tNext D σ H := k
theorem s_asg {g : TG} (k : te σ H fun x H1 => g x σ H1 D.nx) : tAsg te g D σ H := k
theorem s_gname {R : L2.St → Hp → Prop} (e : σ.set i (some v) = σ') (k : R σ' H) : gName i v σ H R := by subst e; exact k
theorem s_drop (k : te σ H fun _ H1 => D.nx σ H1) : tDrop te D σ H := k
theorem s_ret (k : te σ H D.rt) : tRet te D σ H := k
theorem s_ifS {c : TT} {t u : TS} (k : c σ H fun b H1 => if b = true then t D σ H1 else u D σ H1) : tIfS c t u D σ H := k
theorem s_var (e : σ[i]? = some (some v)) (k : Q v H) : tVar i σ H Q := ⟨v, e, k⟩
theorem s_c (k : Q v H) : tC v σ H Q := k
theorem s_op (k : ta σ H fun x H1 => tb σ H1 fun y H2 => r x y H2 Q) : tOp r ta tb σ H Q := k
theorem s_un {r : V → Hp → VK → Prop} (k : ta σ H fun x H1 => r x H1 Q) : tUn r ta σ H Q := k
theorem s_neg {j : Int} (k : Q (.int (-j)) H) : (rU fun i => .int (-i)) (.int j) H Q := ⟨j, rfl, k⟩
theorem s_test {R : Bool → Hp → Prop} (k : te σ H fun x H' => ∃ k, x = .bl k ∧ R k H') : tTest te σ H R := k
theorem s_B {R : Bool → Hp → Prop} (k : te σ H fun x H1 => ∃ c, x = .bl c ∧ R c H1) : tB te σ H R := k
theorem s_bl {b : Bool} {P : Bool → Prop} (k : P b) : ∃ c, V.bl b = V.bl c ∧ P c := ⟨b, rfl, k⟩
theorem s_and {R : Bool → Hp → Prop} (k : t σ H fun c H1 => if c = true then u σ H1 R else R false H1) : tAnd t u σ H R := k
theorem s_or {R : Bool → Hp → Prop} (k : t σ H fun c H1 => if c = true then R true H1 else u σ H1 R) : tOr t u σ H R := k
theorem s_not {R : Bool → Hp → Prop} (k : t σ H fun c H1 => R (!c) H1) : tNot t σ H R := k
theorem s_andV (k : ta σ H fun x H1 => ∃ c, x = .bl c ∧ if c = true then tb σ H1 Q else Q (.bl false) H1) : tAndV ta tb σ H Q := k
theorem s_orV (k : ta σ H fun x H1 => ∃ c, x = .bl c ∧ if c = true then Q (.bl true) H1 else tb σ H1 Q) : tOrV ta tb σ H Q := k
theorem s_notV (k : ta σ H fun x H1 => ∃ c, x = .bl c ∧ Q (.bl (!c)) H1) : tNotV ta σ H Q := k
theorem s_chain (k : ta σ H fun x H1 => tb σ H1 fun y H2 => r x y H2 fun z H3 => ∃ k, z = .bl k ∧ (if k = true then tc σ H3 fun w' H4 => r' y w' H4 Q else Q (.bl false) H3)) : tChain r r' ta tb tc σ H Q := k
theorem s_nil {R : List V → Hp → Prop} (k : R [] H) : tNil σ H R := k
theorem s_cons {tr : TA} {R : List V → Hp → Prop} (k : ta σ H fun x H1 => tr σ H1 fun xs H2 => R (x :: xs) H2) : tCons ta tr σ H R := k
theorem s_CB {r : List V → Hp → VK → Prop} (k : A σ H fun vs H1 => r vs H1 Q) : tCB r A σ H Q := k
theorem s_call {sp : L2.Sp} {dvs : List V} {E : XK} (k : A σ H fun vs H1 => sp (vs ++ dvs) H1 Q E) : tCall sp dvs E A σ H Q := k
theorem s_BM {T : String} {r : V → List V → Hp → VK → Prop} {to : TE} (k : to σ H fun x H1 => tyV K T x H1 ∧ A σ H1 fun xs H2 => r x xs H2 Q) : tBM K T r to A σ H Q := k
theorem s_sl {r : V → Option Int → Option Int → Hp → VK → Prop} {tl th : TO} (k : te σ H fun x H1 => tl σ H1 fun l H2 => th σ H2 fun u H3 => r x l u H3 Q) : tSl r te tl th σ H Q := k
theorem s_nopart {R : Option Int → Hp → Prop} (k : R none H) : tNoPart σ H R := k
theorem s_part {R : Option Int → Hp → Prop} (k : te σ H fun x H1 => ∃ i, x = .int i ∧ R (some i) H1) : tPart te σ H R := k
theorem s_int {j : Int} {P : Int → Prop} (k : P j) : ∃ i, V.int j = V.int i ∧ P i := ⟨j, rfl, k⟩
theorem s_add {a b : Int} (k : Q (.int (a + b)) H) : gAdd K (.int a) (.int b) H Q := k
theorem s_sub {a b : Int} (k : Q (.int (a - b)) H) : gSub (.int a) (.int b) H Q := k
theorem s_mul {a b : Int} (h : CMul a b ∨ CMulW a b) (k : Q (.int (a * b)) H) : gMul K (.int a) (.int b) H Q := ⟨h, k⟩
theorem s_div {a b : Int} (h : CDivW a b) (k : Q (.int (a / b)) H) : gDiv (.int a) (.int b) H Q := ⟨h, k⟩
theorem s_mod {a b : Int} (h : 0 < b) (k : Q (.int (a % b)) H) : gMod (.int a) (.int b) H Q := ⟨h, k⟩
theorem s_lt {a b : Int} (k : Q (.bl (decide (a < b))) H) : gLt (.int a) (.int b) H Q := k
theorem s_le {a b : Int} (k : Q (.bl (decide (a ≤ b))) H) : gLe (.int a) (.int b) H Q := k
theorem s_gt {a b : Int} (k : Q (.bl (decide (b < a))) H) : gGt (.int a) (.int b) H Q := k
theorem s_eqI {a b : Int} (k : Q (.bl (decide (a = b))) H) : gEq K (.int a) (.int b) H Q := .inl ⟨rfl, by
  have e : decide (V.int a = V.int b) = decide (a = b) := by by_cases h : a = b <;> simp [h]
  rw [e]; exact k⟩
theorem s_eqS {a b : Str} (k : Q (.bl (decide (a = b))) H) : gEq K (.str a) (.str b) H Q := .inl ⟨rfl, by
  have e : decide (V.str a = V.str b) = decide (a = b) := by by_cases h : a = b <;> simp [h]
  rw [e]; exact k⟩
theorem s_neI {a b : Int} (k : Q (.bl (decide (a ≠ b))) H) : gNe K (.int a) (.int b) H Q := .inl ⟨rfl, by
  have e : (!decide (V.int a = V.int b)) = decide (a ≠ b) := by by_cases h : a = b <;> simp [h]
  rw [e]; exact k⟩
theorem s_neS {a b : Str} (k : Q (.bl (decide (a ≠ b))) H) : gNe K (.str a) (.str b) H Q := .inl ⟨rfl, by
  have e : (!decide (V.str a = V.str b)) = decide (a ≠ b) := by by_cases h : a = b <;> simp [h]
  rw [e]; exact k⟩
theorem s_isN (k : Q (.bl (decide (x = .non))) H) : gIs x .non H Q := k
theorem s_notN (k : Q (.bl (!decide (x = .non))) H) : gIsNot x .non H Q := k
theorem s_max {a b : Int} (k : Q (.int (max a b)) H) : gMax K [.int a, .int b] H Q := k
theorem s_min {a b : Int} (k : Q (.int (min a b)) H) : gMin K [.int a, .int b] H Q := k
theorem s_intb {a : Bool} (k : Q (.int (if a then 1 else 0)) H) : gInt [.bl a] H Q := k
theorem s_ixT {p : Addr} {j : Int} (h : w.S p = some (.tup vs)) (e : atI vs j = some v) (k : Q v w.H) : gIx K (.ref p) (.int j) w.H Q := ⟨vs, v, .inr (SqT.of (w.ok _ _ h)), e, k⟩
theorem s_ixL {p : Addr} {j : Int} (h : w.S p = some (.lst vs)) (e : atI vs j = some v) (k : Q v w.H) : gIx K (.ref p) (.int j) w.H Q := ⟨vs, v, .inl (SqL.of (w.ok _ _ h)), e, k⟩
theorem s_ixO {p : Addr} {j : Int} (h : Own w p (.lst vs)) (e : atI vs j = some v) (k : Q v w.H) : gIx K (.ref p) (.int j) w.H Q := ⟨vs, v, .inl (SqL.of h.h), e, k⟩
theorem s_lenT {p : Addr} (h : w.S p = some (.tup vs)) (k : Q (.int vs.length) w.H) : gLen K [.ref p] w.H Q := ⟨_, .inl ⟨vs, .inr (SqT.of (w.ok _ _ h)), rfl⟩, k⟩
theorem s_lenL {p : Addr} (h : w.S p = some (.lst vs)) (k : Q (.int vs.length) w.H) : gLen K [.ref p] w.H Q := ⟨_, .inl ⟨vs, .inl (SqL.of (w.ok _ _ h)), rfl⟩, k⟩
theorem s_lenO {p : Addr} (h : Own w p (.lst vs)) (k : Q (.int vs.length) w.H) : gLen K [.ref p] w.H Q := ⟨_, .inl ⟨vs, .inl (SqL.of h.h), rfl⟩, k⟩
theorem s_lenK {p : Addr} (h : SqL K w.H p vs) (k : Q (.int vs.length) w.H) : gLen K [.ref p] w.H Q := ⟨_, .inl ⟨vs, .inl h, rfl⟩, k⟩
theorem s_setL {l : Addr} {j : Int} {m : Nat} {R : Hp → Prop} (h : Own w l (.lst vs)) (e : ixN vs.length j = some m) (k : ∀ u, Ext (One l) w u → Own u l (.lst (vs.set m v)) → R u.H) : rSetL (.ref l) (.int j) v w.H R :=
  ⟨l, vs, j, m, rfl, rfl, h.h, e, put (R := R) h k⟩
theorem ty_own {l : Addr} (h : Own w l (.lst vs)) : tyV K "list" (.ref l) w.H := .inl ⟨rfl, vs, SqL.of h.h⟩
theorem s_dget {td ty : TE} (k : td σ H fun x H1 => ty σ H1 fun y H2 => ∃ a v, x = .ref a ∧ DGet H2 a y (some v) ∧ Q v H2) : tDGet td ty σ H Q := k
theorem s_dput {td ty tv : TE} (k : tv σ H fun v H1 => td σ H1 fun x H2 => ty σ H2 fun y H3 => ∃ a H4, x = .ref a ∧ DPut H3 a y v H4 ∧ D.nx σ H4) : sDPut td ty tv D σ H := k
theorem ite_b {A B : Prop} {c : Bool} (k1 : c = true → A) (k2 : c = false → B) : if c = true then A else B := by
  cases c with
  | true => exact k1 rfl
  | false => exact k2 rfl
theorem ite_d {A B p : Prop} [Decidable p] (k1 : p → A) (k2 : ¬ p → B) : if decide p = true then A else B := by
  by_cases h : p
  · rw [decide_eq_true h]; exact k1 h
  · rw [decide_eq_false h]; exact k2 h
theorem ite_nd {A B p : Prop} [Decidable p] (k1 : ¬ p → A) (k2 : p → B) : if (!decide p) = true then A else B := by
  by_cases h : p
  · rw [decide_eq_true h]; exact k2 h
  · rw [decide_eq_false h]; exact k1 h
theorem ite_n {A B : Prop} {c : Bool} (k1 : c = false → A) (k2 : c = true → B) : if (!c) = true then A else B := by
  cases c with
  | true => exact k2 rfl
  | false => exact k1 rfl
end
/-- an iterator by worlds -/
structure WWalk (J : It) (n : Nat) (G : Wd → Prop) (Y : Nat → Wd → V → Wd → Prop) : Prop where
  goes : ∀ i w, i < n → G w → J.go i w.H
  stops : ∀ w, G w → J.stop n w.H
  yields : ∀ i w x H', i < n → G w → J.yld i w.H x H' → ∃ v : Wd, v.H = H' ∧ Y i w x v
def wds (P : L2.St → Wd → Prop) : L2.St → Hp → Prop := fun σ H => ∃ u : Wd, u.H = H ∧ P σ u
theorem wds_i {P : L2.St → Wd → Prop} {σ : L2.St} {w : Wd} (h : P σ w) : wds P σ w.H := ⟨w, rfl, h⟩
section
variable {J : It} {n : Nat} {G : Wd → Prop} {Y : Nat → Wd → V → Wd → Prop} {K : PySem.W.Frag}
theorem forW (k : WWalk J n G Y) {g : TG} {tb : TS} {D : Ends} {σ : L2.St} {w : Wd} (Pv : Nat → L2.St → Wd → Prop) (h0 : Pv 0 σ w) (hG : ∀ i σ w, i ≤ n → Pv i σ w → G w)
    (hs : ∀ i x σ w v, i < n → Pv i σ w → Y i w x v → g x σ v.H fun σ2 H2 => tb { D with nx := wds (Pv (i + 1)), ct := wds (Pv (i + 1)), bk := D.nx } σ2 H2) (hd : ∀ σ w, Pv n σ w → D.nx σ w.H) :
    ∃ W : Nat → Nat → L2.St → Hp → Prop, (∃ m, W 0 m σ w.H) ∧ ∀ i m σ H, W i m σ H →
      (J.stop i H ∧ D.nx σ H) ∨ (J.go i H ∧ ∃ N : L2.St → Hp → Prop, (∀ σ' H', N σ' H' → ∃ m', m' < m ∧ W (i + 1) m' σ' H') ∧ ∀ x H', J.yld i H x H' → g x σ H' fun σ2 H2 => tb { D with nx := N, ct := N, bk := D.nx } σ2 H2) := by
  refine ⟨fun i m σ H => m = n - i ∧ i ≤ n ∧ wds (Pv i) σ H, ⟨n, by simp, Nat.zero_le _, w, rfl, h0⟩, ?_⟩
  rintro i m σ H ⟨rfl, hi, u, rfl, p⟩
  have q := hG i σ u hi p
  by_cases hlt : i < n
  · refine .inr ⟨k.goes i u hlt q, wds (Pv (i + 1)), fun σ' H' p' => ⟨n - (i + 1), by omega, rfl, hlt, p'⟩, fun x H' y => ?_⟩
    obtain ⟨v, rfl, yv⟩ := k.yields i u x H' hlt q y
    exact hs i x σ u v hlt p yv
  · have e : i = n := by omega
    subst e
    exact .inl ⟨k.stops u q, hd σ u p⟩
/-- a comprehension: the new list at D holds acc -/
def lcN (D : Addr) (P : Wd → List V → Prop) : Hp → Prop := fun H => ∃ (u : Wd) (acc : List V), u.H = H ∧ Own u D (.lst acc) ∧ P u acc
theorem lcN_i {D : Addr} {P : Wd → List V → Prop} {u : Wd} {acc : List V} (o : Own u D (.lst acc)) (h : P u acc) : lcN D P u.H := ⟨u, acc, rfl, o, h⟩
theorem lc_put {D : Addr} {P : Wd → List V → Prop} {u : Wd} {acc : List V} {y : V} (o : Own u D (.lst acc)) (z : acc.length < sizeLine) (k : ∀ v, Ext (One D) u v → Own v D (.lst (acc ++ [y])) → P v (acc ++ [y])) :
    ∃ acc, u.H D = some (.lst acc) ∧ acc.length < sizeLine ∧ lcN D P (upd u.H D (.lst (acc ++ [y]))) :=
  ⟨acc, o.h, z, put (R := lcN D P) o fun v e ov => ⟨v, _, rfl, ov, k v e ov⟩⟩
theorem lcW (k : WWalk J n G Y) {g : TG} {tt : TT} {te : TE} {vs : List Nat} {σ : L2.St} {w : Wd} {D : Addr} {Qd : Hp → Prop} (Pv : Nat → Wd → List V → Prop) (hD : w.H D = none)
    (h0 : ∀ u, Ext Non w u → Own u D (.lst []) → Pv 0 u []) (hG : ∀ i u acc, i ≤ n → Pv i u acc → G u)
    (hs : ∀ i x u v acc, i < n → Own u D (.lst acc) → Pv i u acc → Y i u x v → g x (wipe σ vs) v.H fun σ2 H2 => wipe σ2 vs = wipe σ vs ∧ tt σ2 H2 fun b H3 =>
      if b = true then te σ2 H3 fun y H4 => ∃ acc, H4 D = some (.lst acc) ∧ acc.length < sizeLine ∧ lcN D (Pv (i + 1)) (upd H4 D (.lst (acc ++ [y]))) else lcN D (Pv (i + 1)) H3)
    (hd : ∀ u acc, Pv n u acc → Own u D (.lst acc) → Qd u.H) :
    ∃ W : Nat → Nat → Hp → Prop, (∃ m, W 0 m (upd w.H D (.lst []))) ∧ ∀ i m H, W i m H →
      (J.stop i H ∧ Qd H) ∨ (J.go i H ∧ ∃ Nx : Hp → Prop, (∀ H', Nx H' → ∃ m', m' < m ∧ W (i + 1) m' H') ∧ ∀ x H', J.yld i H x H' → g x (wipe σ vs) H' fun σ2 H2 => wipe σ2 vs = wipe σ vs ∧ tt σ2 H2 fun b H3 =>
        if b = true then te σ2 H3 fun y H4 => ∃ acc, H4 D = some (.lst acc) ∧ acc.length < sizeLine ∧ Nx (upd H4 D (.lst (acc ++ [y]))) else Nx H3) := by
  refine ⟨fun i m H => m = n - i ∧ i ≤ n ∧ lcN D (Pv i) H, ⟨n, by simp, Nat.zero_le _, ?_⟩, ?_⟩
  · have z := newO (w := w) (o := .lst []) (Q := fun _ H => H = upd w.H D (.lst []) → lcN D (Pv 0) (upd w.H D (.lst []))) (fun p v e hp o hq => ?_) D hD rfl
    · exact z
    · have ep : p = D := by
        by_cases ep : p = D
        · exact ep
        · have h1 : v.H p = some (.lst []) := o.h
          rw [hq, upd_ne ep, hp] at h1
          cases h1
      subst ep
      exact ⟨v, [], hq, o, h0 v e o⟩
  rintro i m H ⟨rfl, hi, u, acc, rfl, o, p⟩
  have q := hG i u acc hi p
  by_cases hlt : i < n
  · refine .inr ⟨k.goes i u hlt q, lcN D (Pv (i + 1)), fun H' p' => ⟨n - (i + 1), by omega, rfl, hlt, p'⟩, fun x H' y => ?_⟩
    obtain ⟨v, rfl, yv⟩ := k.yields i u x H' hlt q y
    exact hs i x u v acc hlt o p yv
  · have e : i = n := by omega
    subst e
    exact .inl ⟨k.stops u q, hd u acc p o⟩
theorem s_Lc {wi : TI} {g : TG} {tt : TT} {te : TE} {vs : List Nat} {σ : L2.St} {H : Hp} {Q : VK} (k : wi σ H fun J H1 => ∀ D, H1 D = none → ∃ W : Nat → Nat → Hp → Prop, (∃ m, W 0 m (upd H1 D (.lst []))) ∧ ∀ i m H, W i m H →
  (J.stop i H ∧ Q (.ref D) H) ∨ (J.go i H ∧ ∃ Nx : Hp → Prop, (∀ H', Nx H' → ∃ m', m' < m ∧ W (i + 1) m' H') ∧ ∀ x H', J.yld i H x H' → g x (wipe σ vs) H' fun σ2 H2 => wipe σ2 vs = wipe σ vs ∧ tt σ2 H2 fun b H3 =>
    if b = true then te σ2 H3 fun y H4 => ∃ acc, H4 D = some (.lst acc) ∧ acc.length < sizeLine ∧ Nx (upd H4 D (.lst (acc ++ [y]))) else Nx H3)) : tLc wi g tt te vs σ H Q := k
def YI (xs : List V) : Nat → Wd → V → Wd → Prop := fun i w x v => v = w ∧ xs[i]? = some x
theorem ww_list {a : Addr} {xs : List V} : WWalk (Itl K a) xs.length (fun w => SqL K w.H a xs) (YI xs) :=
  ⟨fun i w h q => (walk_list (K := K)).goes i w.H h q, fun w q => (walk_list (K := K)).stops w.H q, fun i w x H' h q y => by
    obtain ⟨e, h2⟩ := (walk_list (K := K)).yields i w.H x H' h q y
    exact ⟨w, e.symm, rfl, h2⟩⟩
theorem ww_tup {a : Addr} {xs : List V} : WWalk (Itt K a) xs.length (fun w => SqT K w.H a xs) (YI xs) :=
  ⟨fun i w h q => (walk_tup (K := K)).goes i w.H h q, fun w q => (walk_tup (K := K)).stops w.H q, fun i w x H' h q y => by
    obtain ⟨e, h2⟩ := (walk_tup (K := K)).yields i w.H x H' h q y
    exact ⟨w, e.symm, rfl, h2⟩⟩
theorem ww_range {lo : Int} {m : Nat} : WWalk (Itr lo m) m (fun _ => True) (fun i w x v => v = w ∧ x = .int (lo + i)) :=
  ⟨fun i w h q => walk_range.goes i w.H h q, fun w q => walk_range.stops w.H q, fun i w x H' h q y => by
    obtain ⟨e, h2⟩ := walk_range.yields i w.H x H' h q y
    exact ⟨w, e.symm, rfl, h2⟩⟩
theorem ww_str {z : Str} : WWalk (Its z) z.cps.size (fun _ => True) (fun i w x v => v = w ∧ ∃ c, z.cps[i]? = some c ∧ x = .str ⟨#[c]⟩) :=
  ⟨fun i w h q => walk_str.goes i w.H h q, fun w q => walk_str.stops w.H q, fun i w x H' h q y => by
    obtain ⟨e, h2⟩ := walk_str.yields i w.H x H' h q y
    exact ⟨w, e.symm, rfl, h2⟩⟩
theorem s_for {wi : TI} {g : TG} {tb : TS} {D : Ends} {σ : L2.St} {H : Hp} (k : wi σ H fun J H1 => ∃ W : Nat → Nat → L2.St → Hp → Prop, (∃ m, W 0 m σ H1) ∧ ∀ i m σ H, W i m σ H →
  (J.stop i H ∧ D.nx σ H) ∨ (J.go i H ∧ ∃ N : L2.St → Hp → Prop, (∀ σ' H', N σ' H' → ∃ m', m' < m ∧ W (i + 1) m' σ' H') ∧ ∀ x H', J.yld i H x H' → g x σ H' fun σ2 H2 => tb { D with nx := N, ct := N, bk := D.nx } σ2 H2)) : tFor wi g tb D σ H := k
theorem s_iList {te : TE} {σ : L2.St} {H : Hp} {R : It → Hp → Prop} (k : te σ H fun x H1 => ∃ a, x = .ref a ∧ (∃ xs, SqL K H1 a xs) ∧ R (Itl K a) H1) : iList K te σ H R := k
theorem s_iTup {te : TE} {σ : L2.St} {H : Hp} {R : It → Hp → Prop} (k : te σ H fun x H1 => ∃ a, x = .ref a ∧ (∃ xs, SqT K H1 a xs) ∧ R (Itt K a) H1) : iTup K te σ H R := k
theorem s_iRng1 {ta : TA} {σ : L2.St} {H : Hp} {R : It → Hp → Prop} (k : ta σ H fun vs H1 => ∃ j : Int, vs = [.int j] ∧ -(2 ^ 62) ≤ j ∧ j < 2 ^ 62 ∧ R (Itr 0 j.toNat) H1) : iRng1 ta σ H R := k
theorem s_iStr {te : TE} {σ : L2.St} {H : Hp} {R : It → Hp → Prop} (k : te σ H fun v H1 => ∃ x, v = .str x ∧ R (Its x) H1) : iStr te σ H R := k
end
end G
namespace G
open PySem L2
theorem nm_one {l k : Addr} (h : l ≠ k) : ¬ One k l := h
theorem own_ne {w : Wd} {l k : Addr} {o u : HO} (h : Own w l o) (h' : Own w k u) (d : o ≠ u) : l ≠ k := ne_of h.h h'.h d
theorem sq_go {K : PySem.W.Frag} {w v : Wd} {a : Addr} {xs : List V} {m : Addr → Prop} (e : Ext m w v) (h : SqL K w.S a xs) : SqL K v.S a xs := e.st.seq h
theorem tch_one {u : Wd} {m : Addr → Prop} {k : Addr} (h : u.H k = none ∨ m k) : ∀ l, One k l → u.H l = none ∨ m l := fun l e => by
  have e : l = k := e
  rw [e]; exact h
theorem ite_tt {A B : Prop} (k : A) : if true = true then A else B := by rw [if_pos rfl]; exact k
theorem ite_ff {A B : Prop} (k : B) : if false = true then A else B := by rw [if_neg (by decide)]; exact k
def pr1 (P : Wd → V → VK → XK → Prop) : L2.Sp := fun vs H Q E => ∃ (w : Wd) (a : V), w.H = H ∧ vs = [a] ∧ P w a Q E
def pr2 (P : Wd → V → V → VK → XK → Prop) : L2.Sp := fun vs H Q E => ∃ (w : Wd) (a b : V), w.H = H ∧ vs = [a, b] ∧ P w a b Q E
def pr3 (P : Wd → V → V → V → VK → XK → Prop) : L2.Sp := fun vs H Q E => ∃ (w : Wd) (a b c : V), w.H = H ∧ vs = [a, b, c] ∧ P w a b c Q E
def pr4 (P : Wd → V → V → V → V → VK → XK → Prop) : L2.Sp := fun vs H Q E => ∃ (w : Wd) (a b c d : V), w.H = H ∧ vs = [a, b, c, d] ∧ P w a b c d Q E
section
variable {vs : List V} {H : Hp} {Q : VK} {E : XK} {w : Wd} {a b c d : V}
theorem len1 {P} (h : pr1 P vs H Q E) : vs.length = 1 := by obtain ⟨_, _, _, rfl, _⟩ := h; rfl
theorem len2 {P} (h : pr2 P vs H Q E) : vs.length = 2 := by obtain ⟨_, _, _, _, rfl, _⟩ := h; rfl
theorem len3 {P} (h : pr3 P vs H Q E) : vs.length = 3 := by obtain ⟨_, _, _, _, _, rfl, _⟩ := h; rfl
theorem len4 {P} (h : pr4 P vs H Q E) : vs.length = 4 := by obtain ⟨_, _, _, _, _, _, rfl, _⟩ := h; rfl
theorem s_pr1 {P} (h : P w a Q E) : pr1 P ([a] ++ []) w.H Q E := ⟨w, a, rfl, rfl, h⟩
theorem s_pr2 {P} (h : P w a b Q E) : pr2 P ([a, b] ++ []) w.H Q E := ⟨w, a, b, rfl, rfl, h⟩
theorem s_pr3 {P} (h : P w a b c Q E) : pr3 P ([a, b, c] ++ []) w.H Q E := ⟨w, a, b, c, rfl, rfl, h⟩
theorem s_pr4 {P} (h : P w a b c d Q E) : pr4 P ([a, b, c, d] ++ []) w.H Q E := ⟨w, a, b, c, d, rfl, rfl, h⟩
end
structure Fnc (P : Program) (w : World) (K : PySem.W.Frag) (mg : Str → Option Value) (base : Heap) (CX : CXT) (k : Nat) (x : Str) (sp : L2.Sp) : Prop where
  ex : ∃ (f : Addr) (fd : FuncData) (ps : List Str), FnOk P w K mg base CX k f fd ps sp ∧ mg x = some (.ref f) ∧ PySem.W.keepIn K (.ref f) = true ∧ Binds K fd ps []
section
variable {X : Cx} {k j : Nat} {x : Str} {sp : L2.Sp} {p pos : Pos} {e : Expr} {es : List Expr} {t : TA} {CX : CXT} {E : XK}
theorem pe_fn (c : Fnc X.prog X.w X.K X.mg X.base CX k x sp) (hr : Room j X.A) (hk : k ≤ j) (hx : Passes CX X E) (ha : PA X (e :: es) t) (hg : Gl X x := by rfl)
    (he : starEach (e :: es) X.env = (false, eval e X.env) :: starEach es X.env := by rfl) (hpl : (backTo pos (starEach es X.env)).any (·.1) = false := by rfl) (hd : (x == ("__debug__" : Str)) = false := by decide) :
    PE X (.Call (.Name x p) (e :: es) [] pos) (tCall sp [] E t) := by
  obtain ⟨f, fd, ps, F, hm, hkp, hb⟩ := c.ex
  exact pe_call F (hr.mono hk) hg hm hkp hb .nil hx ha hd he hpl
end
end G
namespace G
open PySem L2
section
variable {X : Cx}
theorem kAdd (K : PySem.W.Frag) (e : X.K = K := by rfl) : OpR X (binaryOp .Add) (gAdd K) := e ▸ g_add
theorem kMul (K : PySem.W.Frag) (e : X.K = K := by rfl) : OpR X (binaryOp .Mult) (gMul K) := e ▸ g_mul
theorem kEq (K : PySem.W.Frag) (hu : X.A.units + 64 < cLine) (e : X.K = K := by rfl) : OpR X (compareOp .Eq) (gEq K) := e ▸ g_eq hu
theorem kNe (K : PySem.W.Frag) (hu : X.A.units + 64 < cLine) (e : X.K = K := by rfl) : OpR X (compareOp .NotEq) (gNe K) := e ▸ g_ne hu
theorem kIn (K : PySem.W.Frag) (e : X.K = K := by rfl) : OpR X (compareOp .In) (gIn K) := e ▸ g_in
theorem kIx (K : PySem.W.Frag) (e : X.K = K := by rfl) : IxR X (gIx K) := e ▸ g_ix
theorem kSl (K : PySem.W.Frag) (e : X.K = K := by rfl) : SlR X (gSl K) := e ▸ g_sl
theorem kLen (K : PySem.W.Frag) (e : X.K = K := by rfl) : CallR X (.builtin "len") (gLen K) := e ▸ g_len
theorem kMax (K : PySem.W.Frag) (hc : X.calm = true) (e : X.K = K := by rfl) : CallR X (.builtin "max") (gMax K) := e ▸ g_max hc
theorem kMin (K : PySem.W.Frag) (hc : X.calm = true) (e : X.K = K := by rfl) : CallR X (.builtin "min") (gMin K) := e ▸ g_min hc
theorem kAll (K : PySem.W.Frag) (hc : X.calm = true) (e : X.K = K := by rfl) : CallR X (.builtin "all") (rAll K) := e ▸ cr_all hc
theorem kSortedP (K : PySem.W.Frag) (e : X.K = K := by rfl) : CallR X (.builtin "sorted") (rSortedPO K) := e ▸ cr_sortedPO
theorem kList (K : PySem.W.Frag) (e : X.K = K := by rfl) : CallR X (.type "list") (gList K) := e ▸ g_list
theorem kIsi (K : PySem.W.Frag) (e : X.K = K := by rfl) : CallR X (.builtin "isinstance") (rIsi K) := e ▸ call_isi
theorem kpList (K : PySem.W.Frag) {tg l : Expr} {tl : TE} (hl : PE X l tl) (e : X.K = K := by rfl) : PI X tg l (iList K tl) := e ▸ pi_list hl
theorem kpTup (K : PySem.W.Frag) {tg l : Expr} {tl : TE} (hl : PE X l tl) (e : X.K = K := by rfl) : PI X tg l (iTup K tl) := e ▸ pi_tup hl
theorem kgTup (K : PySem.W.Frag) {es : List Expr} {k : Nat} {t : TGs} {n : Nat} {pos : Pos} (hc : X.calm = true) (h : PGs X es t) (e : X.K = K := by rfl) (hn : (assignEach es X.env).length = n := by rfl)
    (hst : (assignEach es X.env).findIdx? (·.1) = none := by rfl) : PG X (.Tuple es k pos) (gTup K n t) := e ▸ pg_tup hc h hn hst
end
end G
set_option Elab.async false
set_option linter.all false
set_option maxRecDepth 100000
set_option maxHeartbeats 4000000
namespace G
open PySem L2
theorem kb_NoneType_int : kitB "NoneType" "int" = some false := by decide +kernel
theorem kb_bool_int : kitB "bool" "int" = some true := by decide +kernel
section
variable {K : PySem.W.Frag} {w : Wd} {H : Hp} {Q : VK} {T : String} {b : Bool} {x : V} {d : PyData}
theorem si_int {z : Int} (e : kitB "int" T = some b) (k : Q (.bl b) H) : rIsi K [.int z, .ty T] H Q := ⟨(.int z), .ty T, _, _, b, rfl, .ty T, .base (.int _), kit_ty e, k⟩
theorem sd_int (h : Rp w.S x d) (k : Q (.bl (isInt d)) w.H) : rIsi K [x, .ty "int"] w.H Q := s_isi h (isT_int d) k
theorem sd_bool (h : Rp w.S x d) (k : Q (.bl (isBool d)) w.H) : rIsi K [x, .ty "bool"] w.H Q := s_isi h (isT_bool d) k
theorem sd_str (h : Rp w.S x d) (k : Q (.bl (isStr d)) w.H) : rIsi K [x, .ty "str"] w.H Q := s_isi h (isT_str d) k
theorem sd_list (h : Rp w.S x d) (k : Q (.bl (isList d)) w.H) : rIsi K [x, .ty "list"] w.H Q := s_isi h (isT_list d) k
theorem sd_tuple (h : Rp w.S x d) (k : Q (.bl (isTup d)) w.H) : rIsi K [x, .ty "tuple"] w.H Q := s_isi h (isT_tup d) k
theorem si_own {p : Addr} {vs : List V} (h : Own w p (.lst vs)) (e : kitB "list" T = some b) (k : Q (.bl b) w.H) : rIsi K [.ref p, .ty T] w.H Q := ⟨_, .ty T, _, _, b, rfl, .ty T, .base (.lst h.h), kit_ty e, k⟩
end
theorem isTup_inv {d : PyData} (h : isTup d = true) : ∃ ds, d = .tuple ds := by cases d <;> first | exact ⟨_, rfl⟩ | cases h
theorem isList_inv {d : PyData} (h : isList d = true) : ∃ ds, d = .list ds := by cases d <;> first | exact ⟨_, rfl⟩ | cases h
theorem isStr_inv {d : PyData} (h : isStr d = true) : ∃ ds, d = .str ds := by cases d <;> first | exact ⟨_, rfl⟩ | cases h
def isNum (d : PyData) : Bool := isInt d && !isBool d
theorem isNum_inv {d : PyData} (h : isNum d = true) : ∃ i, d = .int i := by cases d <;> first | exact ⟨_, rfl⟩ | cases h
theorem sqt_of {K : PySem.W.Frag} {w : Wd} {p : Addr} {vs : List V} (h : w.S p = some (.tup vs)) : SqT K w.H p vs := SqT.of (w.ok _ _ h)
theorem sql_of {K : PySem.W.Frag} {w : Wd} {p : Addr} {vs : List V} (h : w.S p = some (.lst vs)) : SqL K w.H p vs := SqL.of (w.ok _ _ h)
theorem sqt_ext {K : PySem.W.Frag} {w v : Wd} {p : Addr} {vs : List V} {m : Addr → Prop} (e : Ext m w v) (h : w.S p = some (.tup vs)) : SqT K v.H p vs := SqT.of (v.ok _ _ (e.st _ _ h))
theorem s_yes {σ : L2.St} {H : Hp} {R : Bool → Hp → Prop} (k : R true H) : tYes σ H R := k
/-- each item's plain value is told: ys -/
theorem lc_pure {J : It} {n : Nat} {G : Wd → Prop} {xs : List V} (k : WWalk J n G (YI xs)) {te : TE} {j : Nat} {σ : L2.St} {w : Wd} {D : Addr} {Qd : Hp → Prop} (ys : List V) (hD : w.H D = none) (hG : ∀ u, Ext (One D) w u → G u) (hn : ys.length = n) (hz : n < sizeLine)
    (hw : ∀ x, wipe ((wipe σ [j]).set j (some x)) [j] = wipe σ [j])
    (hs : ∀ i x y u, i < n → xs[i]? = some x → ys[i]? = some y → Ext (One D) w u → ∀ R : VK, (∀ v, Ext Non u v → R y v.H) → te ((wipe σ [j]).set j (some x)) u.H R)
    (hd : ∀ u, Ext Non w u → w.H D = none → Own u D (.lst ys) → Qd u.H) :
    ∃ W : Nat → Nat → Hp → Prop, (∃ m, W 0 m (upd w.H D (.lst []))) ∧ ∀ i m H, W i m H →
      (J.stop i H ∧ Qd H) ∨ (J.go i H ∧ ∃ Nx : Hp → Prop, (∀ H', Nx H' → ∃ m', m' < m ∧ W (i + 1) m' H') ∧ ∀ x H', J.yld i H x H' → gName j x (wipe σ [j]) H' fun σ2 H2 => wipe σ2 [j] = wipe σ [j] ∧ tYes σ2 H2 fun b H3 =>
        if b = true then te σ2 H3 fun y H4 => ∃ acc, H4 D = some (.lst acc) ∧ acc.length < sizeLine ∧ Nx (upd H4 D (.lst (acc ++ [y]))) else Nx H3) := by
  refine lcW k (fun i u acc => Ext (One D) w u ∧ acc = ys.take i) hD (fun u e o => ⟨e.more fun _ z => z.elim, by simp⟩) (fun i u acc _ p => hG u p.1) ?_ ?_
  · rintro i x u v acc hi o ⟨e, ha⟩ ⟨rfl, hx⟩
    refine ⟨hw x, s_yes (ite_tt ?_)⟩
    have hy : i < ys.length := by omega
    refine hs i x ys[i] v hi hx (by simp [hy]) e _ fun t et => ?_
    have ha2 : acc.length < sizeLine := by rw [ha, List.length_take]; omega
    refine lc_put (o.ext et fun z => z) ha2 fun z ez oz => ⟨(e.step et fun _ z => z.elim).step ez fun l hl => .inr hl, ?_⟩
    rw [ha, List.take_succ]
    simp [hy]
  · rintro u acc ⟨e, ha⟩ o
    refine hd u (e.more fun l hl => .inl (by rw [show l = D from hl]; exact hD)) hD ?_
    rw [ha, ← hn, List.take_length] at o
    exact o
end G
set_option Elab.async false
set_option linter.all false
set_option maxRecDepth 100000
set_option maxHeartbeats 4000000
namespace G
open PySem L2
section
variable {K : PySem.W.Frag} {w : Wd} {H : Hp} {Q : VK} {σ : L2.St} {v x y : V} {vs : List V} {D : Ends}
theorem s_allO {p : Addr} {bs : List Bool} (h : Own w p (.lst (bs.map V.bl))) (k : Q (.bl (bs.all id)) w.H) : rAll K [.ref p] w.H Q := ⟨p, bs, rfl, SqL.of h.h, k⟩
theorem s_dputS {p : Addr} {kvs kvs' : List (Key × V)} {z : Str} {R : Hp → Prop} (h : Own w p (.dK kvs)) (e : putK kvs (.inr z) v = kvs') (hz : kvs.length < sizeLine) (q : ∀ u, Ext (One p) w u → Own u p (.dK kvs') → R u.H) :
    ∃ b H4, V.ref p = V.ref b ∧ DPut w.H b (.str z) v H4 ∧ R H4 := by
  subst e
  exact ⟨p, _, rfl, DPut.k (k := .inr z) h.h hz, put (R := R) h q⟩
theorem s_dnew (k : ∀ p u, Ext Non w u → w.H p = none → Own u p (.dK []) → Q (.ref p) u.H) : tDNewK σ w.H Q := newO k
end
/-- of numbers below 2 ^ 200 -/
theorem divW {i j : Int} (h : 0 < j) (h2 : j < 2 ^ 200) : CDivW i j := ⟨h, by
  have : j.natAbs < 2 ^ 200 := by omega
  exact Nat.lt_of_lt_of_le (PySem.Flt.log2_lt_of (by decide) this) (by decide)⟩
section
variable {a b : Str} {u v : V} {r r' : List (Key × V)}
theorem valS_pos : valV ((.inr a, u) :: r) (.inr a) = some u := valV_pos rfl
theorem any_none {k : Key} (h : valV r k = none) : (r.any fun kv => decide (kv.1 = k)) = false := by rw [valV_any, h]; rfl
theorem merge_go : ∀ (r acc : List (Key × V)), ((acc ++ r).map (·.1)).Nodup → mergeK acc r = acc ++ r
  | [], acc, _ => by simp [mergeK]
  | p :: r, acc, h => by
    have hn : valV acc p.1 = none := by
      cases e : valV acc p.1 with
      | none => rfl
      | some z =>
        exfalso
        have h1 : (acc.any fun kv => decide (kv.1 = p.1)) = true := by rw [valV_any, e]; rfl
        rw [List.any_eq_true] at h1
        obtain ⟨q, hq, hqe⟩ := h1
        rw [List.map_append, List.nodup_append] at h
        exact h.2.2 q.1 (List.mem_map_of_mem hq) p.1 (by simp) (of_decide_eq_true hqe)
    have e1 : putK acc p.1 p.2 = acc ++ [p] := by
      unfold putK
      rw [if_neg (by rw [any_none hn]; decide)]
    show List.foldl _ (putK acc p.1 p.2) r = _
    rw [e1]
    have ih := merge_go r (acc ++ [p]) (by simpa using h)
    unfold mergeK at ih
    rw [ih]
    simp
theorem mergeK_nd {r : List (Key × V)} (h : (r.map (·.1)).Nodup) : mergeK [] r = r := merge_go r [] h
end
theorem atI_nn {α : Type} {xs : List α} {i : Int} (h : 0 ≤ i) (h2 : i < xs.length) : atI xs i = xs[i.toNat]? := by
  unfold atI ixN
  rw [if_pos h, if_pos h2]
  rfl
theorem atI_of {α : Type} {xs : List α} {i : Int} {v : α} (h : 0 ≤ i) (h2 : xs[i.toNat]? = some v) : atI xs i = some v := by
  have h3 := (List.getElem?_eq_some_iff.mp h2).1
  rw [atI_nn h (by omega), h2]
theorem atI_back {α : Type} {xs : List α} {v : α} (h : xs.getLast? = some v) : atI xs (-1) = some v := by
  have hne : xs ≠ [] := by intro z; rw [z] at h; cases h
  have hl : 0 < xs.length := List.length_pos_iff.mpr hne
  unfold atI ixN
  rw [if_neg (by decide), if_pos (by omega)]
  show xs[((-1 : Int) + xs.length).toNat]? = _
  rw [List.getLast?_eq_getElem?] at h
  rw [← h]
  congr 1
  omega
/-- a pair of numbers -/
abbrev prD (p : Int × Int) : PyData := .tuple [.int p.1, .int p.2]
abbrev spD (xs : List (Int × Int)) : PyData := .list (xs.map prD)
theorem pr_inv {S : Hp} {v : V} {a b : Int} (h : Rp S v (.tuple [.int a, .int b])) : ∃ t, v = .ref t ∧ S t = some (.tup [.int a, .int b]) := by
  obtain ⟨t, vs, rfl, h1, h2⟩ := h.tuple_inv
  cases h2 with
  | cons a1 a2 => cases a2 with
    | cons b1 b2 =>
      cases b2
      rw [a1.int_inv, b1.int_inv] at h1
      exact ⟨t, rfl, h1⟩
theorem pr_rp {S : Hp} {t : Addr} {a b : Int} (h : S t = some (.tup [.int a, .int b])) : Rp S (.ref t) (.tuple [.int a, .int b]) := .tup h (.cons (.int a) (.cons (.int b) .nil))
end G
set_option Elab.async false
set_option linter.all false
set_option maxRecDepth 100000
set_option maxHeartbeats 4000000
namespace G
open PySem L2
section
variable {K : PySem.W.Frag} {w : Wd} {H : Hp} {Q : VK} {σ : L2.St} {v x y : V} {d1 d2 : PyData} {vs xs ys : List V} {a b : Addr} {lo hi : Option Int}
theorem s_catS (h1 : w.H a = some (.lst xs)) (h2 : w.H b = some (.lst ys)) (z : xs.length + ys.length ≤ sizeLine) (k : ∀ p v, Ext Non w v → w.H p = none → v.S p = some (.lst (xs ++ ys)) → Q (.ref p) v.H) : gAdd K (.ref a) (.ref b) w.H Q :=
  .inl ⟨xs, ys, h1, h2, z, newS k⟩
theorem s_slS (h : SqL K w.H a xs) (k : ∀ p v, Ext Non w v → w.H p = none → v.S p = some (.lst (cutV xs lo hi)) → Q (.ref p) v.H) : gSl K (.ref a) lo hi w.H Q := .inl ⟨xs, h, newS k⟩
theorem s_listS (h : SqL K w.H a xs ∨ SqT K w.H a xs) (k : ∀ p v, Ext Non w v → w.H p = none → v.S p = some (.lst xs) → Q (.ref p) v.H) : gList K [.ref a] w.H Q := ⟨xs, h, newS k⟩
theorem s_neD (h1 : Dp K w.H x d1) (h2 : Dp K w.H y d2) (s1 : SeqAt.shaped d1 = true) (s2 : SeqAt.shaped d2 = true) (k : Q (.bl (!PyData.eqv d1 d2)) w.H) : gNe K x y w.H Q := .inr ⟨d1, d2, h1, h2, s1, s2, k⟩
/-- a tuple as a target -/
theorem s_gtup {n : Nat} {t : TGs} {R : L2.St → Hp → Prop} (h : w.S a = some (.tup vs)) (e : vs.length = n) (k : t vs σ w.H R) : gTup K n t (.ref a) σ w.H R := ⟨a, vs, rfl, sqt_of h, e, k⟩
theorem s_gcons {t : TG} {u : TGs} {R : L2.St → Hp → Prop} (k : t v σ H fun σ' H' => u vs σ' H' R) : gCons t u (v :: vs) σ H R := ⟨v, vs, rfl, k⟩
theorem s_gnil {R : L2.St → Hp → Prop} (k : R σ H) : gNil [] σ H R := ⟨rfl, k⟩
theorem s_gsub {to ti : TE} {t : TSet} {R : L2.St → Hp → Prop} (k : to σ H fun o H1 => ti σ H1 fun i H2 => t o i v H2 fun H3 => R σ H3) : L2.gSub to ti t v σ H R := k
end
theorem Rp.dpH {K : PySem.W.Frag} {w : Wd} {v : V} {d : PyData} (h : Rp w.S v d) (n : nd d = true) : Dp K w.H v d := dp_mono w.ok d v (Rp.dp d v h n)
theorem rpa_pr {S : Hp} {vs : List V} {ps : List (Int × Int)} {i : Nat} {v : V} (h : RpA S vs (ps.map prD)) (e : vs[i]? = some v) : ∃ p t, ps[i]? = some p ∧ v = .ref t ∧ S t = some (.tup [.int p.1, .int p.2]) := by
  obtain ⟨d, h1, h2⟩ := h.get e
  rw [List.getElem?_map] at h1
  cases hp : ps[i]? with
  | none => rw [hp] at h1; cases h1
  | some p =>
    rw [hp] at h1
    obtain rfl := Option.some.inj h1
    obtain ⟨t, rfl, h3⟩ := pr_inv h2
    exact ⟨p, t, rfl, rfl, h3⟩
section
variable {K : PySem.W.Frag} {w : Wd} {H : Hp} {Q : VK} {σ : L2.St} {v x y : V} {vs xs ys : List V} {l : Addr} {P : Prop}
theorem s_ty (h : Own w l (.lst vs)) (k : P) : tyV K "list" (.ref l) w.H ∧ P := ⟨ty_own h, k⟩
theorem s_app (h : Own w l (.lst vs)) (z : vs.length < sizeLine) (k : ∀ v, Ext (One l) w v → Own v l (.lst (vs ++ [y])) → Q .non v.H) : rAppend (.ref l) [y] w.H Q := ⟨l, vs, y, rfl, rfl, h.h, z, put (R := Q .non) h k⟩
theorem s_m1 {r : V → List V → Hp → VK → Prop} {to te : TE} (k : to σ H fun x H1 => (∃ a, x = .str a) ∧ te σ H1 fun y H2 => r x [y] H2 Q) : tM1 r to te σ H Q := k
theorem s_isS {z : Str} (k : P) : (∃ a, V.str z = .str a) ∧ P := ⟨⟨z, rfl⟩, k⟩
end
section
variable {K : PySem.W.Frag} {w : Wd} {H : Hp} {Q : VK} {vs : List V} {p : Addr} {a b c j : Int}
theorem s_powN (h : CPow a b) (e : a ^ b.toNat = c) (k : Q (.int c) H) : gPow (.int a) (.int b) H Q := ⟨h, by rw [e]; exact k⟩
theorem at_mem {α : Type} {xs : List α} (h0 : 0 ≤ j) (h1 : j < xs.length) : ∃ v, xs[j.toNat]? = some v ∧ atI xs j = some v ∧ v ∈ xs := by
  have hd : xs[j.toNat]? = some xs[j.toNat] := List.getElem?_eq_getElem (by omega)
  exact ⟨_, hd, atI_of h0 hd, List.getElem_mem _⟩
theorem s_ixOm (h : Own w p (.lst vs)) (h0 : 0 ≤ j) (h1 : j < vs.length) (k : ∀ v, vs[j.toNat]? = some v → v ∈ vs → Q v w.H) : gIx K (.ref p) (.int j) w.H Q := by
  obtain ⟨v, h2, h3, h4⟩ := at_mem h0 h1
  exact s_ixO h h3 (k v h2 h4)
theorem s_ixSm (h : w.S p = some (.lst vs)) (h0 : 0 ≤ j) (h1 : j < vs.length) (k : ∀ v, vs[j.toNat]? = some v → v ∈ vs → Q v w.H) : gIx K (.ref p) (.int j) w.H Q := by
  obtain ⟨v, h2, h3, h4⟩ := at_mem h0 h1
  exact s_ixL h h3 (k v h2 h4)
end
theorem p10_6 : (10 : Int) ^ (6 : Int).toNat = 1000000 := by decide
theorem p10_7 : (10 : Int) ^ (7 : Int).toNat = 10000000 := by decide
theorem p10_8 : (10 : Int) ^ (8 : Int).toNat = 100000000 := by decide
theorem p10_9 : (10 : Int) ^ (9 : Int).toNat = 1000000000 := by decide
theorem p10_10 : (10 : Int) ^ (10 : Int).toNat = 10000000000 := by decide
theorem p10_18 : (10 : Int) ^ (18 : Int).toNat = 1000000000000000000 := by decide
section
variable {K : PySem.W.Frag} {w : Wd} {H : Hp} {Q : VK} {vs xs : List V} {p a : Addr} {σ : L2.St} {A : TA}
/-- a new tuple, a new list: what is wanted of it -/
def mkT (Q : VK) (xs : List V) (H : Hp) : Prop := xs.length ≤ sizeLine ∧ ∀ p, H p = none → Q (.ref p) (upd H p (.tup xs))
def mkL (Q : VK) (xs : List V) (H : Hp) : Prop := xs.length ≤ sizeLine ∧ ∀ p, H p = none → Q (.ref p) (upd H p (.lst xs))
theorem t_tup (k : A σ H (mkT Q)) : tTup A σ H Q := k
theorem t_lst (k : A σ H (mkL Q)) : tLst A σ H Q := k
theorem t_newT (h : vs.length ≤ sizeLine) (k : ∀ p v, Ext Non w v → w.H p = none → v.S p = some (.tup vs) → Q (.ref p) v.H) : mkT Q vs w.H := ⟨h, newS k⟩
theorem t_newL (h : vs.length ≤ sizeLine) (k : ∀ p v, Ext Non w v → w.H p = none → Own v p (.lst vs) → Q (.ref p) v.H) : mkL Q vs w.H := ⟨h, newO k⟩
theorem t_newLS (h : vs.length ≤ sizeLine) (k : ∀ p v, Ext Non w v → w.H p = none → v.S p = some (.lst vs) → Q (.ref p) v.H) : mkL Q vs w.H := ⟨h, newS k⟩
end
end G
namespace G
open PySem L2
mutual
theorem nd_can : ∀ d : PyData, d.canLay0 = true → nd d = true
  | .none, _ => by unfold nd; rfl
  | .bool _, _ => by unfold nd; rfl
  | .int _, _ => by unfold nd; rfl
  | .str _, _ => by unfold nd; rfl
  | .list ds, h => by
    unfold nd
    rw [List.all_eq_true]
    rintro ⟨d, hd⟩ _
    exact nd_canA ds (by simpa [PyData.canLay0] using h) d hd
  | .tuple ds, h => by
    unfold nd
    rw [List.all_eq_true]
    rintro ⟨d, hd⟩ _
    exact nd_canA ds (by simpa [PyData.canLay0] using h) d hd
  | .dict _, h => by simp [PyData.canLay0] at h
theorem nd_canA : ∀ ds : List PyData, PyData.canLayAll0 ds = true → ∀ d ∈ ds, nd d = true
  | [], _, d, h => by cases h
  | x :: xs, h, d, hd => by
    have h' : x.canLay0 = true ∧ PyData.canLayAll0 xs = true := by simpa [PyData.canLayAll0] using h
    cases hd with
    | head => exact nd_can x h'.1
    | tail _ hd => exact nd_canA xs h'.2 d hd
end
theorem can_prs : ∀ rows : List (Int × Int), PyData.canLayAll0 (rows.map prD) = true
  | [] => by simp [PyData.canLayAll0]
  | q :: r => by simp [PyData.canLayAll0, PyData.canLay0, can_prs r]
theorem dep_prs : ∀ rows : List (Int × Int), PyData.depthAll (rows.map prD) ≤ 2
  | [] => by simp [PyData.depthAll]
  | q :: r => by
    have := dep_prs r
    simp only [List.map_cons, PyData.depthAll, PyData.depth]
    omega
theorem shaped_spD (rows : List (Int × Int)) : SeqAt.shaped (spD rows) = true := by
  have h1 := dep_prs rows
  have h2 : PyData.depth (spD rows) ≤ 64 := by simp only [PyData.depth]; omega
  show (PyData.canLay0 (spD rows) && decide (PyData.depth (spD rows) ≤ 64)) = true
  rw [Bool.and_eq_true]
  exact ⟨by simp only [PyData.canLay0]; exact can_prs rows, decide_eq_true h2⟩
theorem s_dnewS {w : Wd} {Q : VK} {σ : L2.St} (k : ∀ p v, Ext Non w v → w.H p = none → v.S p = some (.dK []) → Q (.ref p) v.H) : tDNewK σ w.H Q := newS k
theorem ite_nt {A B : Prop} (k : B) : if (!true) = true then A else B := k
theorem ite_nf {A B : Prop} (k : A) : if (!false) = true then A else B := k
theorem nd_shaped {d : PyData} (h : SeqAt.shaped d = true) : nd d = true := nd_can d (SeqAt.canLay_of_shaped h)
section
variable {K : PySem.W.Frag} {w : Wd} {x y : V} {d1 d2 : PyData} {Q : VK}
theorem s_neR (h1 : Rp w.S x d1) (h2 : Rp w.S y d2) (s1 : SeqAt.shaped d1 = true) (s2 : SeqAt.shaped d2 = true) (k : Q (.bl (!PyData.eqv d1 d2)) w.H) : gNe K x y w.H Q := s_neD (h1.dpH (nd_shaped s1)) (h2.dpH (nd_shaped s2)) s1 s2 k
theorem eqv_self {d : PyData} (h : SeqAt.shaped d = true) : PyData.eqv d d = true := SeqAt.eqv_refl d (SeqAt.canLay_of_shaped h)
end
end G
namespace G
open PySem L2
section
variable {K : PySem.W.Frag} {w u v : Wd} {a p : Addr} {o : HO} {m : Addr → Prop} {vs : List V} {Q : VK} {x y : V}
/-- what stands at a, for good or owned: may be read -/
def Rd (w : Wd) (a : Addr) (o : HO) : Prop := w.S a = some o ∨ Own w a o
theorem Rd.h (r : Rd w a o) : w.H a = some o := r.elim (fun s => w.ok _ _ s) Own.h
theorem Rd.go (e : Ext m w v) (n : ¬ m a) (r : Rd w a o) : Rd v a o := r.elim (fun s => .inl (st_go e s)) fun s => .inr (s.ext e n)
theorem Rd.ne (r : Rd w a o) (n : w.H p = none) : a ≠ p := ne_of_none r.h n
theorem nil_or_snoc {α : Type} (l : List α) : l = [] ∨ ∃ r x, l = r ++ [x] := by
  by_cases h : l = []
  · exact .inl h
  · exact .inr ⟨l.dropLast, l.getLast h, (List.dropLast_concat_getLast h).symm⟩
theorem atI_snoc {α : Type} {xs : List α} {v : α} : atI (xs ++ [v]) (-1) = some v := atI_back (by simp)
theorem rd_dp {ds : List PyData} (r : Rd w a (.lst vs)) (h : RpA w.S vs ds) (n : nd (.list ds) = true) : Dp K w.H (.ref a) (.list ds) := by
  unfold nd at n
  rw [List.all_eq_true] at n
  exact .lst (SqL.of r.h) (dp_monoA w.ok ds vs (RpA.dp ds vs h fun d hd => n ⟨d, hd⟩ (List.mem_attach ..)))
theorem s_neL {b : Addr} {us : List V} {ds es : List PyData} (r1 : Rd w a (.lst vs)) (h1 : RpA w.S vs ds) (r2 : Rd w b (.lst us)) (h2 : RpA w.S us es) (s1 : SeqAt.shaped (.list ds) = true) (s2 : SeqAt.shaped (.list es) = true)
    (k : Q (.bl (!PyData.eqv (.list ds) (.list es))) w.H) : gNe K (.ref a) (.ref b) w.H Q := s_neD (rd_dp r1 h1 (nd_shaped s1)) (rd_dp r2 h2 (nd_shaped s2)) s1 s2 k
theorem si_rd {T : String} {b : Bool} (h : Rd w a (.lst vs)) (e : kitB "list" T = some b) (k : Q (.bl b) w.H) : rIsi K [.ref a, .ty T] w.H Q := ⟨_, .ty T, _, _, b, rfl, .ty T, .base (.lst h.h), kit_ty e, k⟩
theorem filter_all {α : Type} (l : List α) : l.filter (fun _ => true) = l := by
  induction l with
  | nil => rfl
  | cons x r ih => rw [List.filter_cons_of_pos rfl, ih]
theorem eqv_nil (ds : List PyData) : PyData.eqv (.list ds) (.list []) = ds.isEmpty := by
  cases ds <;> simp [PyData.eqv, PyData.eqvAll]
theorem shaped_nil : SeqAt.shaped (.list []) = true := shaped_spD []
/-- xs != [] -/
theorem s_neN {b : Addr} {rows : List (Int × Int)} (r : Rd w a (.lst vs)) (h : RpA w.S vs (rows.map prD)) (s : w.S b = some (.lst [])) (k : Q (.bl (!rows.isEmpty)) w.H) : gNe K (.ref a) (.ref b) w.H Q :=
  s_neL r h (.inl s) .nil (shaped_spD rows) shaped_nil (by rw [eqv_nil, List.isEmpty_map]; exact k)
theorem s_setB {R : Hp → Prop} (h : Own w a (.lst (vs ++ [y]))) (k : ∀ u, Ext (One a) w u → Own u a (.lst (vs ++ [x])) → R u.H) : rSetL (.ref a) (.int (-1)) x w.H R :=
  s_setL h (m := vs.length) (by simp [ixN]; omega) fun u e o => k u e (by
    have := o
    rw [List.set_append] at this
    simpa using this)
end
section
variable {K : PySem.W.Frag} {w : Wd} {a : Addr} {vs : List V} {Q : VK} {rows : List (Int × Int)}
theorem RpA.snoc_inv {S : Hp} {d : PyData} : ∀ {ds : List PyData} {vs : List V}, RpA S vs (ds ++ [d]) → ∃ us y, vs = us ++ [y] ∧ RpA S us ds ∧ Rp S y d
  | [], _, h => by
    cases h with
    | cons h1 h2 =>
      cases h2
      exact ⟨[], _, rfl, .nil, h1⟩
  | e :: ds, _, h => by
    cases h with
    | cons h1 h2 =>
      obtain ⟨us, y, rfl, h3, h4⟩ := RpA.snoc_inv h2
      exact ⟨_ :: us, y, rfl, .cons h1 h3, h4⟩
/-- a pair at an address -/
def kP (S : Hp) : V → Int × Int
  | .ref t => match S t with
    | some (.tup [.int a, .int b]) => (a, b)
    | _ => (0, 0)
  | _ => (0, 0)
theorem kP_of {S : Hp} {x : V} {q : Int × Int} (h : Rp S x (prD q)) : kP S x = q ∧ ∃ t, x = .ref t ∧ S t = some (.tup [.int q.1, .int q.2]) := by
  obtain ⟨t, rfl, ht⟩ := pr_inv h
  exact ⟨by simp [kP, ht], t, rfl, ht⟩
theorem kP_map {S : Hp} : ∀ {vs : List V} {rows : List (Int × Int)}, RpA S vs (rows.map prD) → vs.map (kP S) = rows
  | _, [], h => by cases h; rfl
  | _, q :: r, h => by
    cases h with
    | cons h1 h2 => rw [List.map_cons, (kP_of h1).1, kP_map h2]
theorem kP_back {S : Hp} : ∀ {ys : List V}, (∀ x ∈ ys, Rp S x (prD (kP S x))) → RpA S ys ((ys.map (kP S)).map prD)
  | [], _ => .nil
  | y :: ys, h => .cons (h y List.mem_cons_self) (kP_back fun x hx => h x (List.mem_cons_of_mem _ hx))
theorem kP_all {S : Hp} : ∀ {vs : List V} {rows : List (Int × Int)}, RpA S vs (rows.map prD) → ∀ x ∈ vs, Rp S x (prD (kP S x))
  | _, [], h, x, hx => by cases h; cases hx
  | _, q :: r, h, x, hx => by
    cases h with
    | cons h1 h2 =>
      cases hx with
      | head => rw [(kP_of h1).1]; exact h1
      | tail _ hx => exact kP_all h2 x hx
def leP (p q : Int × Int) : Prop := p.1 < q.1 ∨ (p.1 = q.1 ∧ p.2 ≤ q.2)
/-- sorted of pairs -/
theorem s_sortP (h : SqL K w.H a vs) (r : RpA w.S vs (rows.map prD)) (k : ∀ p v (rows' : List (Int × Int)) vs', Ext Non w v → w.H p = none → v.S p = some (.lst vs') → RpA v.S vs' (rows'.map prD) → rows'.Perm rows → rows'.Pairwise leP → Q (.ref p) v.H) :
    rSortedPO K [.ref a] w.H Q := by
  refine ⟨a, vs, kP w.S, rfl, h, fun x hx => ?_, fun ys p hs hp hn => ?_⟩
  · obtain ⟨t, e, ht⟩ := (kP_of (kP_all r x hx)).2
    exact ⟨t, e, w.ok _ _ ht⟩
  · refine newS (Q := Q) (fun p v e n s => ?_) p hn
    have hall : ∀ x ∈ ys, Rp w.S x (prD (kP w.S x)) := fun x hx => kP_all r x (hp.perm.mem_iff.mp hx)
    refine k p v (ys.map (kP w.S)) ys e n s ((kP_back hall).go e) ?_ ?_
    · rw [← kP_map r]
      exact hp.perm.map _
    · rw [List.pairwise_map]
      refine List.Pairwise.imp (fun {x y} hxy => ?_) hs
      have := SrtO.lexB_no.mp hxy
      unfold leP
      omega
/-- a comprehension over items told by rows -/
theorem lc_gen {α : Type} {rows : List α} {J : It} {n : Nat} {G : Wd → Prop} {xs : List V} (k : WWalk J n G (YI xs)) {g : TG} {tt : TT} {te : TE} {js : List Nat} {σ : L2.St} {D : Addr} {Qd : Hp → Prop} (f : α → Bool) (gd : α → PyData) (hD : w.H D = none)
    (hlen : rows.length = n) (hz : n < sizeLine) (hG : ∀ u, Ext (One D) w u → G u)
    (hs : ∀ i x q u, i < n → xs[i]? = some x → rows[i]? = some q → Ext (One D) w u → ∀ (R : VK) (Z : Hp → Prop), (∀ v y, Ext Non u v → f q = true → Rp v.S y (gd q) → R y v.H) → (∀ v, Ext Non u v → f q = false → Z v.H) →
      g x (wipe σ js) u.H fun σ2 H2 => wipe σ2 js = wipe σ js ∧ tt σ2 H2 fun b H3 => if b = true then te σ2 H3 R else Z H3)
    (hd : ∀ u acc, Ext Non w u → w.H D = none → Own u D (.lst acc) → RpA u.S acc ((rows.filter f).map gd) → Qd u.H) :
    ∃ W : Nat → Nat → Hp → Prop, (∃ m, W 0 m (upd w.H D (.lst []))) ∧ ∀ i m H, W i m H →
      (J.stop i H ∧ Qd H) ∨ (J.go i H ∧ ∃ Nx : Hp → Prop, (∀ H', Nx H' → ∃ m', m' < m ∧ W (i + 1) m' H') ∧ ∀ x H', J.yld i H x H' → g x (wipe σ js) H' fun σ2 H2 => wipe σ2 js = wipe σ js ∧ tt σ2 H2 fun b H3 =>
        if b = true then te σ2 H3 fun y H4 => ∃ acc, H4 D = some (.lst acc) ∧ acc.length < sizeLine ∧ Nx (upd H4 D (.lst (acc ++ [y]))) else Nx H3) := by
  refine lcW k (fun i u acc => Ext (One D) w u ∧ RpA u.S acc (((rows.take i).filter f).map gd)) hD (fun u e o => ⟨e.more fun _ z => z.elim, .nil⟩) (fun i u acc _ p => hG u p.1) ?_ ?_
  · rintro i x u0 u acc hi o ⟨e, ha2⟩ ⟨rfl, hx⟩
    have hi' : i < rows.length := by omega
    have ht : rows.take (i + 1) = rows.take i ++ [rows[i]] := by rw [List.take_add_one, List.getElem?_eq_getElem hi']; rfl
    have hal : acc.length < sizeLine := by
      have h1 := ha2.length
      rw [List.length_map] at h1
      have h2 := List.length_filter_le f (rows.take i)
      rw [List.length_take] at h2
      omega
    refine hs i x rows[i] u hi hx (List.getElem?_eq_getElem hi') e _ _ (fun t y et hf hy => ?_) (fun t et hf => ?_)
    · refine lc_put (o.ext et fun z => z) hal fun z ez oz => ⟨(e.step et fun _ z => z.elim).step ez fun l hl => .inr hl, ?_⟩
      rw [ht, List.filter_append, List.filter_cons_of_pos hf, List.filter_nil, List.map_append]
      exact RpA.append ((ha2.go et).go ez) (.one (hy.go ez))
    · refine lcN_i (o.ext et fun z => z) ⟨e.step et fun _ z => z.elim, ?_⟩
      rw [ht, List.filter_append, List.filter_cons_of_neg (by rw [hf]; decide), List.filter_nil, List.append_nil]
      exact ha2.go et
  · rintro u acc ⟨e, ha2⟩ o
    refine hd u acc (e.more fun l hl => .inl (by rw [show l = D from hl]; exact hD)) hD o ?_
    rw [← hlen, List.take_length] at ha2
    exact ha2
/-- a comprehension over pairs -/
theorem lc_rows {J : It} {n : Nat} {G : Wd → Prop} {xs : List V} (k : WWalk J n G (YI xs)) {g : TG} {tt : TT} {te : TE} {js : List Nat} {σ : L2.St} {D : Addr} {Qd : Hp → Prop} (f : Int × Int → Bool) (gd : Int × Int → PyData) (hD : w.H D = none)
    (ha : RpA w.S xs (rows.map prD)) (hn : xs.length = n) (hz : n < sizeLine) (hG : ∀ u, Ext (One D) w u → G u)
    (hs : ∀ i x q u, i < n → xs[i]? = some x → rows[i]? = some q → Rp u.S x (prD q) → Ext (One D) w u → ∀ (R : VK) (Z : Hp → Prop), (∀ v y, Ext Non u v → f q = true → Rp v.S y (gd q) → R y v.H) → (∀ v, Ext Non u v → f q = false → Z v.H) →
      g x (wipe σ js) u.H fun σ2 H2 => wipe σ2 js = wipe σ js ∧ tt σ2 H2 fun b H3 => if b = true then te σ2 H3 R else Z H3)
    (hd : ∀ u acc, Ext Non w u → w.H D = none → Own u D (.lst acc) → RpA u.S acc ((rows.filter f).map gd) → Qd u.H) :
    ∃ W : Nat → Nat → Hp → Prop, (∃ m, W 0 m (upd w.H D (.lst []))) ∧ ∀ i m H, W i m H →
      (J.stop i H ∧ Qd H) ∨ (J.go i H ∧ ∃ Nx : Hp → Prop, (∀ H', Nx H' → ∃ m', m' < m ∧ W (i + 1) m' H') ∧ ∀ x H', J.yld i H x H' → g x (wipe σ js) H' fun σ2 H2 => wipe σ2 js = wipe σ js ∧ tt σ2 H2 fun b H3 =>
        if b = true then te σ2 H3 fun y H4 => ∃ acc, H4 D = some (.lst acc) ∧ acc.length < sizeLine ∧ Nx (upd H4 D (.lst (acc ++ [y]))) else Nx H3) := by
  have hlen : rows.length = n := by have := ha.length; rw [List.length_map] at this; omega
  refine lc_gen k f gd hD hlen hz hG (fun i x q u hi hx hq e R Z h1 h2 => ?_) hd
  obtain ⟨d, h3, h4⟩ := ha.get hx
  have h3' : d = prD q := by rw [List.getElem?_map, hq] at h3; exact (Option.some.inj h3).symm
  subst h3'
  exact hs i x q u hi hx hq (h4.go e) e R Z h1 h2
end
end G
namespace G
open PySem L2
theorem cut_to {xs : List V} {d : Int} (h : 0 ≤ d) : cutV xs none (some d) = xs.take d.toNat := by
  have e : HT.sIx xs.length 0 none = 0 := rfl
  unfold cutV
  rw [e, List.drop_zero, Nat.sub_zero]
  by_cases hd : d ≤ xs.length
  · have e2 : HT.sIx xs.length xs.length (some d) = d.toNat := by
      show (if d < 0 then _ else min d.toNat _) = _
      rw [if_neg (by omega)]
      omega
    rw [e2]
  · have e2 : HT.sIx xs.length xs.length (some d) = xs.length := by
      show (if d < 0 then _ else min d.toNat _) = _
      rw [if_neg (by omega)]
      omega
    rw [e2, List.take_length, List.take_of_length_le (by omega)]
theorem cut_from {xs : List V} {d : Int} (h : 0 ≤ d) : cutV xs (some d) none = xs.drop d.toNat := by
  have e : HT.sIx xs.length xs.length none = xs.length := rfl
  unfold cutV
  rw [e]
  by_cases hd : d ≤ xs.length
  · have e2 : HT.sIx xs.length 0 (some d) = d.toNat := by
      show (if d < 0 then _ else min d.toNat _) = _
      rw [if_neg (by omega)]
      omega
    rw [e2]
    exact List.take_of_length_le (by rw [List.length_drop]; omega)
  · have e2 : HT.sIx xs.length 0 (some d) = xs.length := by
      show (if d < 0 then _ else min d.toNat _) = _
      rw [if_neg (by omega)]
      omega
    rw [e2, List.drop_eq_nil_of_le (Nat.le_refl _), List.drop_eq_nil_of_le (by omega), List.take_nil]
end G
namespace G
open PySem L2
end G
namespace G
open PySem L2
section
variable {K : PySem.W.Frag} {w : Wd} {a b : Addr} {vs us : List V} {Q : VK} {x y : V} {d : PyData} {ds : List PyData}
theorem s_neRs (s : SeqAt.shaped d = true) (h1 : Rp w.S x d) (h2 : Rp w.S y d) (k : Q (.bl false) w.H) : gNe K x y w.H Q := s_neR h1 h2 s s (by rw [eqv_self s]; exact k)
theorem s_neLs (s : SeqAt.shaped (.list ds) = true) (r1 : Rd w a (.lst vs)) (h1 : RpA w.S vs ds) (r2 : Rd w b (.lst us)) (h2 : RpA w.S us ds) (k : Q (.bl false) w.H) : gNe K (.ref a) (.ref b) w.H Q := s_neL r1 h1 r2 h2 s s (by rw [eqv_self s]; exact k)
end
end G
namespace G
open PySem L2 PyProof.Rows RZ
section
variable {X : Cx}
theorem kpZip (K : PySem.W.Frag) {e e2 : Expr} {ta : TA} {p pos tpos : Pos} {elts : List Expr} {kk : Nat} (hg : Gl X "zip") (hm : X.mg "zip" = none) (ha : PA X [e, e2] ta) (eK : X.K = K := by rfl)
    (hs : starEach [e, e2] X.env = (false, eval e X.env) :: starEach [e2] X.env := by rfl) (hpl : (backTo pos (starEach [e2] X.env)).any (·.1) = false := by rfl) :
    PI X (.Tuple elts kk tpos) (.Call (.Name "zip" p) [e, e2] [] pos) (iZipA K ta) := eK ▸ pi_zipA hg hm ha hs hpl
end
end G
namespace G
open PySem L2 PyProof.Rows
structure Mth (P : Program) (w : World) (K : PySem.W.Frag) (mg : Str → Option Value) (base : Heap) (CX : CXT) (C : Addr) (k : Nat) (m : Str) (sp : L2.Sp) : Prop where
  ex : ∃ (f : Addr) (fd : FuncData) (ps : List Str), FnOk P w K mg base CX k f fd ps sp ∧ Meth K C m f ∧ Binds K fd ps []
structure Mkr (P : Program) (w : World) (K : PySem.W.Frag) (mg : Str → Option Value) (base : Heap) (CX : CXT) (C : Addr) (k : Nat) (sp : L2.Sp) : Prop where
  ex : ∃ (f : Addr) (fd : FuncData) (ps : List Str), FnOk P w K mg base CX k f fd ps sp ∧ Mk K C f ∧ Binds K fd ps []
section
variable {X : Cx} {k j : Nat} {x m : Str} {C : Addr} {sp : L2.Sp} {p pos apos : Pos} {o e : Expr} {es : List Expr} {to : TE} {t : TA} {CX : CXT} {E : XK}
theorem pe_mth0 {pl : Sem Bool} (c : Mth X.prog X.w X.K X.mg X.base CX C k m sp) (cl : Cls X.K C) (hr : Room j X.A) (hk : k ≤ j) (hx : Passes CX X E) (he : PE X o to)
    (ht : eval (.Call (.Attribute o m apos) [] [] pos) X.env = (do
      let ov ← eval o X.env
      standAt apos.atName
      let (f, first) ← holding [ov] (getMethod ov m pl)
      callWith pos f first (backTo pos (starEach [] X.env)) (backToKw pos (keywordEach [] X.env))) := by rfl) :
    PE X (.Call (.Attribute o m apos) [] [] pos) (tMeth C m sp [] E to tNil) := by
  obtain ⟨f, fd, ps, F, hm, hb⟩ := c.ex
  exact pe_meth0 (pl := pl) he cl hm F (hr.mono hk) hb .nil hx ht
theorem pe_mk (c : Mkr X.prog X.w X.K X.mg X.base CX C k sp) (hr : Room j X.A) (hk : k + 1 ≤ j) (hm : X.mg x = some (.ref C)) (hx : Passes CX X E) (ha : PA X (e :: es) t) (hg : Gl X x := by rfl)
    (hdb : (x == ("__debug__" : Str)) = false := by decide) (he : starEach (e :: es) X.env = (false, eval e X.env) :: starEach es X.env := by rfl) (hpl : (backTo pos (starEach es X.env)).any (·.1) = false := by rfl) :
    PE X (.Call (.Name x p) (e :: es) [] pos) (tMake C sp [] E t) := by
  obtain ⟨f, fd, ps, F, M, hb⟩ := c.ex
  exact pe_make M F (hr.mono hk) hg hm hb .nil hx ha hdb he hpl
end
section
variable {K : PySem.W.Frag} {w : Wd} {a C dx : Addr} {fs gs : List (Str × V)} {f m : Str} {y v : V} {vs : List V} {Q : VK} {E : XK} {σ : L2.St} {H : Hp} {to te : TE} {t : TA} {D : Ends} {sp : L2.Sp}
def rFld (K : PySem.W.Frag) (f : Str) (x : V) (H1 : Hp) (Q : VK) : Prop := ∃ a C dx fs v, x = .ref a ∧ H1 a = some (.ins C dx fs) ∧ Cls K C ∧ NoAttr K C f ∧ fs.lookup f = some v ∧ Q v H1
theorem s_fld (k : te σ H fun x H1 => rFld K f x H1 Q) : tFld K te f σ H Q := k
theorem s_rfld (h : w.H a = some (.ins C dx fs)) (c : Cls K C) (n : NoAttr K C f) (l : fs.lookup f = some v) (k : Q v w.H) : rFld K f (.ref a) w.H Q := ⟨a, C, dx, fs, v, rfl, h, c, n, l, k⟩
def rSfl (K : PySem.W.Frag) (f : Str) (y : V) (D : Ends) (σ : L2.St) (x : V) (H2 : Hp) : Prop := ∃ a C dx fs, x = .ref a ∧ H2 a = some (.ins C dx fs) ∧ Cls K C ∧ NoAttr K C f ∧ fs.length < 1000 ∧ D.nx σ (upd H2 a (.ins C dx (putF f y fs)))
theorem s_sfld (k : te σ H fun y H1 => to σ H1 fun x H2 => rSfl K f y D σ x H2) : sFld K to te f D σ H := k
theorem s_rsfl (h : Own w a (.ins C dx fs)) (c : Cls K C) (n : NoAttr K C f) (z : fs.length < 1000) (e : putF f y fs = gs) (k : ∀ v, Ext (One a) w v → Own v a (.ins C dx gs) → D.nx σ v.H) : rSfl K f y D σ (.ref a) w.H := by
  subst e
  exact ⟨a, C, dx, fs, rfl, h.h, c, n, z, put (R := D.nx σ) h k⟩
def rMeth (C : Addr) (m : Str) (t : TA) (sp : L2.Sp) (E : XK) (Q : VK) (σ : L2.St) (x : V) (H1 : Hp) : Prop := ∃ a dx fs, x = .ref a ∧ H1 a = some (.ins C dx fs) ∧ fs.lookup m = none ∧ t σ H1 fun vs H2 => sp (x :: (vs ++ [])) H2 Q E
theorem s_meth (k : to σ H fun x H1 => rMeth C m t sp E Q σ x H1) : tMeth C m sp [] E to t σ H Q := k
theorem s_rmeth (h : w.H a = some (.ins C dx fs)) (l : fs.lookup m = none) (k : t σ w.H fun vs H2 => sp (.ref a :: (vs ++ [])) H2 Q E) : rMeth C m t sp E Q σ (.ref a) w.H := ⟨a, dx, fs, rfl, h, l, k⟩
def rMake (C : Addr) (sp : L2.Sp) (E : XK) (Q : VK) (vs : List V) (H1 : Hp) : Prop := ∀ x dx, H1 x = none → H1 dx = none → dx ≠ x → sp (.ref x :: (vs ++ [])) (upd (upd H1 dx (.own x)) x (.ins C dx [])) (fun v H2 => v = .non ∧ Q (.ref x) H2) E
theorem s_make (k : t σ H fun vs H1 => rMake C sp E Q vs H1) : tMake C sp [] E t σ H Q := k
theorem s_rmake (k : ∀ x dx v, Ext Non w v → w.H x = none → Own v x (.ins C dx []) → sp (.ref x :: (vs ++ [])) v.H (fun r H2 => r = .non ∧ Q (.ref x) H2) E) : rMake C sp E Q vs w.H := fun x dx hx hdx hne => by
  refine newO (w := w) (o := .own x) (Q := fun r H1 => ∀ y, r = .ref y → H1 x = none → sp (.ref x :: (vs ++ [])) (upd H1 x (.ins C y [])) (fun v H2 => v = .non ∧ Q (.ref x) H2) E) (fun p v e n o y hy hxv => ?_) dx hdx dx rfl (by rw [upd_ne (Ne.symm hne)]; exact hx)
  cases hy
  refine newO (w := v) (o := .ins C p []) (Q := fun r H1 => r = .ref x → sp (.ref x :: (vs ++ [])) H1 (fun v H2 => v = .non ∧ Q (.ref x) H2) E) (fun q u e2 n2 o2 hq => ?_) x hxv rfl
  cases hq
  exact k x p u (e.step e2 fun _ z => z.elim) hx o2
theorem s_pm1 {P : Wd → V → VK → XK → Prop} (h : P w y Q E) : pr1 P (y :: ([] ++ [])) w.H Q E := ⟨w, y, rfl, rfl, h⟩
theorem s_pm2 {b : V} {P : Wd → V → V → VK → XK → Prop} (h : P w y b Q E) : pr2 P (y :: ([b] ++ [])) w.H Q E := ⟨w, y, b, rfl, rfl, h⟩
theorem s_pm3 {b c : V} {P : Wd → V → V → V → VK → XK → Prop} (h : P w y b c Q E) : pr3 P (y :: ([b, c] ++ [])) w.H Q E := ⟨w, y, b, c, rfl, rfl, h⟩
theorem lk_hd {r : List (Str × V)} : List.lookup f ((f, v) :: r) = some v := by simp [List.lookup]
theorem lk_tl {g : Str} {r : List (Str × V)} {o : Option V} (h : (f == g) = false) (t : r.lookup f = o) : List.lookup f ((g, v) :: r) = o := by
  rw [List.lookup_cons, h]
  exact t
theorem lk_nil : List.lookup f ([] : List (Str × V)) = none := rfl
theorem pf_nil : putF f y [] = [(f, y)] := rfl
theorem pf_tl {g : Str} {r r' : List (Str × V)} (h : ¬ g = f) (t : putF f y r = r') : putF f y ((g, v) :: r) = (g, v) :: r' := by
  show (if g = f then _ else _) = _
  rw [if_neg h, t]
end
section
variable {K : PySem.W.Frag} {a b : Addr} {xs ys : List V}
def YZ (xs ys : List V) : Nat → Wd → V → Wd → Prop := fun i w x v => ∃ T x1 y1, x = .ref T ∧ Ext Non w v ∧ w.H T = none ∧ v.S T = some (.tup [x1, y1]) ∧ xs[i]? = some x1 ∧ ys[i]? = some y1
theorem yz_of {w : Wd} {T : Addr} {x1 y1 : V} {i : Nat} (hT : w.H T = none) (h1 : xs[i]? = some x1) (h2 : ys[i]? = some y1) : ∃ v : Wd, v.H = upd w.H T (.tup [x1, y1]) ∧ YZ xs ys i w (.ref T) v := by
  refine newS (w := w) (o := .tup [x1, y1]) (Q := fun r H' => r = .ref T → ∃ v : Wd, v.H = H' ∧ YZ xs ys i w (.ref T) v) (fun p v e n s hq => ?_) T hT rfl
  cases hq
  exact ⟨v, rfl, T, x1, y1, rfl, e, n, s, h1, h2⟩
theorem s_iZip {ta : TA} {σ : L2.St} {H : Hp} {R : It → Hp → Prop} (k : ta σ H fun vs H1 => ∃ a b xs ys, vs = [.ref a, .ref b] ∧ ((SqL K H1 a xs ∧ SqL K H1 b ys ∧ R (Itz K a b) H1) ∨ (SqT K H1 a xs ∧ SqT K H1 b ys ∧ R (RZ.ItzT K a b) H1))) : RZ.iZipA K ta σ H R := k
theorem ww_zipL (hn : xs.length = ys.length) : WWalk (Itz K a b) xs.length (fun w => SqL K w.H a xs ∧ SqL K w.H b ys) (YZ xs ys) :=
  ⟨fun i w h q => ⟨xs, ys, xs[i], ys[i], q.1, q.2, List.getElem?_eq_getElem h, List.getElem?_eq_getElem (by omega)⟩, fun w q => ⟨xs, ys, q.1, q.2, .inl (Nat.le_refl _)⟩, fun i w x H' h q y => by
    obtain ⟨T, x1, y1, rfl, hT, rfl, h1, h2⟩ := y
    exact yz_of hT (h1 xs q.1) (h2 ys q.2)⟩
end
end G
namespace G
open PySem L2
end G
namespace G
open PySem L2
end G
namespace G
open PySem L2
end G
namespace G
open PySem L2
end G
namespace G
open PySem L2
/-- an if without an else, told by what holds behind it -/
theorem s_ifJ {c : TT} {t : TS} {D : Ends} {σ : L2.St} {w : Wd} (R : L2.St → Wd → Prop) (h : ∀ Z : L2.St → Hp → Prop, (∀ σ u, R σ u → Z σ u.H) → tIfS c t tNext { D with nx := Z } σ w.H) (hd : ∀ σ u, R σ u → D.nx σ u.H) : tIfS c t tNext D σ w.H := h D.nx hd
end G
namespace G
open PySem L2
theorem pe_gco {X : Cx} {x : Str} {v : V} {pos : Pos} (hg : Gl X x) (c : ∃ u, X.mg x = some u ∧ RelV v u) (hd : (x == ("__debug__" : Str)) = false := by decide) : PE X (.Name x pos) (tC v) := by
  obtain ⟨u, hm, r⟩ := c
  exact pe_glob hg hm r hd
/-- at most n signs, all of the first 128 -/
def Tx (n : Nat) (z : Str) : Prop := z.length ≤ n ∧ ∀ c ∈ z.cps.toList, c < 128
section
variable {a b z : Str} {n m : Nat}
theorem Tx.mono (h : Tx n z) (k : n ≤ m) : Tx m z := ⟨Nat.le_trans h.1 k, h.2⟩
theorem Tx.app (h1 : Tx n a) (h2 : Tx m b) : Tx (n + m) (a ++ b) := by
  have e : (a ++ b).cps.toList = a.cps.toList ++ b.cps.toList := Array.toList_append
  refine ⟨?_, fun c hc => ?_⟩
  · have h3 : (a ++ b).length = a.length + b.length := by
      show (a ++ b).cps.size = a.cps.size + b.cps.size
      rw [← Array.length_toList, e, List.length_append, Array.length_toList, Array.length_toList]
    have := h1.1
    have := h2.1
    omega
  · rw [e] at hc
    rcases List.mem_append.mp hc with h | h
    · exact h1.2 c h
    · exact h2.2 c h
theorem Tx.one {c : Nat} (h : c < 128) : Tx 1 ⟨#[c]⟩ := ⟨Nat.le_refl _, fun d hd => by
  have : d = c := by simpa using hd
  rw [this]; exact h⟩
theorem Tx.ok (h : Tx n z) : PyData.strOk z = true := by
  unfold PyData.strOk
  rw [Array.all_eq_true_iff_forall_mem]
  intro c hc
  have := h.2 c (by simpa using hc)
  exact decide_eq_true (by omega)
end
section
variable {K : PySem.W.Frag} {H : Hp} {Q : VK} {a b z : Str}
theorem s_lenZ (h : z.length ≤ sizeLine) (k : Q (.int z.length) H) : gLen K [.str z] H Q := ⟨h, k⟩
theorem s_addZ (h : a.length + b.length ≤ sizeLine) (k : Q (.str (a ++ b)) H) : gAdd K (.str a) (.str b) H Q := ⟨h, k⟩
theorem s_inZ {c : Nat} (k : Q (.bl (decide (c ∈ z.cps.toList))) H) : gIn K (.str ⟨#[c]⟩) (.str z) H Q := ⟨c, rfl, k⟩
def zV (z : Str) : List V := z.cps.toList.map fun c => .str ⟨#[c]⟩
theorem ww_strI : WWalk (Its z) z.cps.size (fun _ => True) (YI (zV z)) :=
  ⟨fun i w h q => ww_str.goes i w h q, fun w q => ww_str.stops w q, fun i w x H' h q y => by
    obtain ⟨v, e, e1, c, e2, rfl⟩ := ww_str.yields i w x H' h q y
    refine ⟨v, e, e1, ?_⟩
    unfold zV
    rw [List.getElem?_map, Array.getElem?_toList, e2]
    rfl⟩
end
end G
namespace G
open PySem L2
theorem Tx.sz {n : Nat} {z : Str} (h : Tx n z) (k : n ≤ 16777216) : z.length ≤ sizeLine := by
  rw [sizeLine_eq]
  exact Nat.le_trans h.1 k
theorem Tx.sum {n m : Nat} {a b : Str} (h1 : Tx n a) (h2 : Tx m b) (k : n + m ≤ 16777216) : a.length + b.length ≤ sizeLine := by
  rw [sizeLine_eq]
  have := h1.1
  have := h2.1
  omega
theorem can_strs : ∀ zs : List Str, (∀ z ∈ zs, PyData.strOk z = true) → PyData.canLayAll0 (zs.map PyData.str) = true
  | [], _ => by simp [PyData.canLayAll0]
  | z :: r, h => by
    simp [PyData.canLayAll0, PyData.canLay0, can_strs r fun x hx => h x (List.mem_cons_of_mem _ hx), h z List.mem_cons_self]
theorem dep_strs : ∀ zs : List Str, PyData.depthAll (zs.map PyData.str) ≤ 1
  | [] => by simp [PyData.depthAll]
  | z :: r => by
    have := dep_strs r
    simp only [List.map_cons, PyData.depthAll, PyData.depth]
    omega
theorem shaped_strs {zs : List Str} (h : ∀ z ∈ zs, PyData.strOk z = true) : SeqAt.shaped (.list (zs.map PyData.str)) = true := by
  have h1 := dep_strs zs
  have h2 : PyData.depth (.list (zs.map PyData.str)) ≤ 64 := by simp only [PyData.depth]; omega
  show (PyData.canLay0 (.list (zs.map PyData.str)) && decide (PyData.depth (.list (zs.map PyData.str)) ≤ 64)) = true
  rw [Bool.and_eq_true]
  exact ⟨by simp only [PyData.canLay0]; exact can_strs zs h, decide_eq_true h2⟩
end G
namespace G
open PySem L2
section
variable {w : Wd}
/-- a comprehension over a range whose items touch m, I holding all along -/
theorem lc_rngI {α : Type} {P : α → Prop} {gd : α → PyData} (m : Addr → Prop) (I : Wd → Prop) {n : Nat} {lo : Int} {g : TG} {te : TE} {js : List Nat} {σ : L2.St} {D : Addr} {Qd : Hp → Prop} (hD : w.H D = none) (hmD : ¬ m D) (hz : n < sizeLine) (hI0 : ∀ u, Ext Non w u → I u) (hI : ∀ u v, I u → Ext (One D) u v → I v)
    (hs : ∀ i u, i < n → Ext (fun l => m l ∨ l = D) w u → I u → ∀ (R : VK) (Z : Hp → Prop), (∀ v y d, Ext m u v → I v → P d → Rp v.S y (gd d) → R y v.H) →
      g (.int (lo + i)) (wipe σ js) u.H fun σ2 H2 => wipe σ2 js = wipe σ js ∧ tYes σ2 H2 fun b H3 => if b = true then te σ2 H3 R else Z H3)
    (hd : ∀ u acc (ds : List α), Ext m w u → I u → w.H D = none → Own u D (.lst acc) → RpA u.S acc (ds.map gd) → ds.length = n → (∀ d ∈ ds, P d) → Qd u.H) :
    ∃ W : Nat → Nat → Hp → Prop, (∃ m, W 0 m (upd w.H D (.lst []))) ∧ ∀ i m H, W i m H →
      ((Itr lo n).stop i H ∧ Qd H) ∨ ((Itr lo n).go i H ∧ ∃ Nx : Hp → Prop, (∀ H', Nx H' → ∃ m', m' < m ∧ W (i + 1) m' H') ∧ ∀ x H', (Itr lo n).yld i H x H' → g x (wipe σ js) H' fun σ2 H2 => wipe σ2 js = wipe σ js ∧ tYes σ2 H2 fun b H3 =>
        if b = true then te σ2 H3 fun y H4 => ∃ acc, H4 D = some (.lst acc) ∧ acc.length < sizeLine ∧ Nx (upd H4 D (.lst (acc ++ [y]))) else Nx H3) := by
  refine lcW (ww_range (lo := lo) (m := n)) (fun i u acc => Ext (fun l => m l ∨ l = D) w u ∧ I u ∧ ∃ ds : List α, RpA u.S acc (ds.map gd) ∧ ds.length = i ∧ ∀ d ∈ ds, P d) hD (fun u e o => ⟨e.more fun _ z => z.elim, hI0 u e, [], .nil, rfl, fun d h => by cases h⟩) (fun _ _ _ _ _ => trivial) ?_ ?_
  · rintro i x u0 u acc hi o ⟨e, iu, ds, hr, hl, hp⟩ ⟨rfl, rfl⟩
    have hal : acc.length < sizeLine := by
      have h1 := hr.length
      rw [List.length_map] at h1
      omega
    refine hs i u hi e iu _ _ fun v y d ev iv hd hy => ?_
    refine lc_put (o.ext ev hmD) hal fun t et ot => ⟨(e.step ev fun l hl => .inr (.inl hl)).step et fun l hl => .inr (.inr hl), hI v t iv et, ds ++ [d], ?_, by simp [hl], fun d' hd' => ?_⟩
    · rw [List.map_append]
      exact RpA.append ((hr.go ev).go et) (.one (hy.go et))
    · rcases List.mem_append.mp hd' with h | h
      · exact hp d' h
      · rw [List.mem_singleton.mp h]; exact hd
  · rintro u acc ⟨e, iu, ds, hr, hl, hp⟩ o
    exact hd u acc ds (e.more fun l hl => hl.elim .inr fun h => .inl (by rw [h]; exact hD)) iu hD o hr hl hp
end
end G
namespace G
open PySem L2
theorem tx_sum : ∀ {zs : List Str}, (∀ z ∈ zs, Tx 1 z) → (zs.map (·.length)).sum ≤ zs.length
  | [], _ => by simp
  | z :: r, h => by
    have h1 := tx_sum (zs := r) fun y hy => h y (List.mem_cons_of_mem _ hy)
    have h2 := (h z List.mem_cons_self).1
    simp only [List.map_cons, List.sum_cons, List.length_cons]
    omega
end G
namespace G
open PySem L2
end G
namespace G
open PySem L2
end G
namespace G
open PySem L2
end G
set_option linter.all false
set_option maxRecDepth 100000
namespace G
open PySem L2 TL
theorem tl_one {c : Nat} : tl ⟨#[c]⟩ = [c] := rfl
section
variable {K : PySem.W.Frag} {w : Wd} {H : Hp} {Q : VK} {σ : L2.St} {a b z : Str}
theorem s_ixZe {j : Int} (hz : z.length ≤ sizeLine) (h0 : 0 ≤ j) (h1 : j < z.length) (k : ∀ c, (tl z)[j.toNat]? = some c → Q (.str ⟨#[c]⟩) H) : gIx K (.str z) (.int j) H Q := by
  have hl : j.toNat < (tl z).length := by
    have := len_tl z
    omega
  refine ⟨(tl z)[j.toNat], hz, ?_, k _ (List.getElem?_eq_getElem hl)⟩
  have hl' : j.toNat < z.cps.toList.length := hl
  rw [atI_nn h0 (by omega)]
  exact List.getElem?_eq_getElem hl'
theorem s_isNN (k : Q (.bl true) H) : gIs .non .non H Q := s_isN (by rw [decide_eq_true rfl]; exact k)
theorem s_isIN {n : Int} (k : Q (.bl false) H) : gIs (.int n) .non H Q := s_isN (by rw [decide_eq_false (fun z => by cases z)]; exact k)
theorem s_notNN (k : Q (.bl false) H) : gIsNot .non .non H Q := s_notN (by rw [decide_eq_true rfl]; exact k)
theorem s_notIN {n : Int} (k : Q (.bl true) H) : gIsNot (.int n) .non H Q := s_notN (by rw [decide_eq_false (fun z => by cases z)]; exact k)
/-- a text in a written tuple of texts -/
theorem s_inT {p : Addr} {vs : List V} (h : w.S p = some (.tup vs)) (f : vs.all flatV = true) (k : Q (.bl (inV (.str z) vs)) w.H) : gIn K (.str z) (.ref p) w.H Q := ⟨p, vs, rfl, .inr (sqt_of h), rfl, f, k⟩
end
end G
set_option linter.all false
set_option maxRecDepth 100000
namespace G
open PySem L2 TL
def tNo : TS := fun _ _ _ => False
theorem ps_no {X : Cx} {st : Stmt} : PS X st tNo := ⟨fun _ _ _ _ _ _ h => h.elim⟩
theorem kpEnum {X : Cx} (K : PySem.W.Frag) {e : Expr} {ta : TA} {p pos tpos : Pos} {elts : List Expr} {kk : Nat} (hg : Gl X "enumerate") (hm : X.mg "enumerate" = none) (ha : PA X [e] ta) (eK : X.K = K := by rfl) (hs : starEach [e] X.env = [(false, eval e X.env)] := by rfl) :
    PI X (.Tuple elts kk tpos) (.Call (.Name "enumerate" p) [e] [] pos) (iEnum K ta) := eK ▸ pi_enum hg hm ha hs
section
variable {K : PySem.W.Frag} {w : Wd} {a C dx : Addr} {xs : List V} {Q : VK}
theorem s_iEnum {ta : TA} {σ : L2.St} {H : Hp} {R : It → Hp → Prop} (k : ta σ H fun vs H1 => ∃ a xs, vs = [.ref a] ∧ SqL K H1 a xs ∧ R (Ite K a) H1) : iEnum K ta σ H R := k
def YE (xs : List V) : Nat → Wd → V → Wd → Prop := fun i w x v => ∃ T x1, x = .ref T ∧ Ext Non w v ∧ w.H T = none ∧ v.S T = some (.tup [.int (i : Nat), x1]) ∧ xs[i]? = some x1
theorem ye_of {w : Wd} {T : Addr} {x1 : V} {i : Nat} (hT : w.H T = none) (h1 : xs[i]? = some x1) : ∃ v : Wd, v.H = upd w.H T (.tup [.int (i : Nat), x1]) ∧ YE xs i w (.ref T) v := by
  refine newS (w := w) (o := .tup [.int (i : Nat), x1]) (Q := fun r H' => r = .ref T → ∃ v : Wd, v.H = H' ∧ YE xs i w (.ref T) v) (fun p v e n s hq => ?_) T hT rfl
  cases hq
  exact ⟨v, rfl, T, x1, rfl, e, n, s, h1⟩
theorem ww_enum : WWalk (Ite K a) xs.length (fun w => SqL K w.H a xs) (YE xs) :=
  ⟨fun i w h q => ⟨xs, xs[i], q, List.getElem?_eq_getElem h⟩, fun w q => ⟨xs, q, Nat.le_refl _⟩, fun i w x H' h q y => by
    obtain ⟨T, x1, rfl, hT, rfl, h1⟩ := y
    exact ye_of hT (h1 xs q)⟩
structure ClsI (K : PySem.W.Frag) (C : Addr) : Prop where
  ha : PySem.W.findIn K (.ref C) "__class__" = some (some (.builtin "object.__class__"))
  hn : PySem.W.specialIn K (.builtin "object.__class__") "__get__" = some (some (.builtin "getset_descriptor.__get__"))
  ht : PySem.W.takesIn K (.builtin "object.__class__") = some true
  hm : PySem.W.mroIn K C (.type "object") = some true
end
end G
set_option linter.all false
set_option maxRecDepth 100000
set_option maxHeartbeats 1000000
namespace G
open PySem L2 PyProof.Rows
section
variable {X : Cx} {o e : Expr} {es : List Expr} {to te : TE} {ta : TA} {p p' p1 p2 pos : Pos}
/-- B.__init__(self, ..), B an own class that has its __init__ of ValueError -/
theorem pe_xinit {pl : Sem Bool} {C0 : Addr} {mc : Value} (he0 : PE X o (tC (.ref C0))) (rd : PySem.W.readsIn X.K C0 mc = true) (ga : PySem.W.specialIn X.K (.ref C0) "__getattribute__" = some (some (.builtin "type.__getattribute__")))
    (vV : PySem.W.findCls X.K (.ref C0) mc "__init__" = some (.val (.builtin "ValueError.__init__"))) (ha : PA X (e :: es) ta)
    (hc : eval (.Call (.Attribute o "__init__" p2) (e :: es) [] pos) X.env = (do
      let ov ← eval o X.env
      standAt p2.atName
      let (f, first) ← holding [ov] (getMethod ov "__init__" pl)
      callWith pos f first (backTo pos (starEach (e :: es) X.env)) (backToKw pos (keywordEach [] X.env))) := by rfl)
    (he : starEach (e :: es) X.env = (false, eval e X.env) :: starEach es X.env := by rfl) (hpl : (backTo pos (starEach es X.env)).any (·.1) = false := by rfl) :
    PE X (.Call (.Attribute o "__init__" p2) (e :: es) [] pos) (tVeI X.K ta) := by
  refine ⟨fun pins s σ H Q I h => ?_⟩
  refine PySem.W.methodCall_KW (pl := pl) (thn (he0.run pins s σ H (fun x H1 => x = .ref C0 ∧ tVeI X.K ta σ H1 Q) I ⟨rfl, h⟩) fun u s1 ⟨x, H1, I1, rx, ex, q0⟩ => ?_) hc
  subst ex
  obtain rfl : u = Value.ref C0 := rx
  refine PySem.W.method_cls I1.kIn ga (PySem.W.cls_value I1.kIn rd vV (by rfl) ?_)
  show wpAny _ _ (callWith pos (Value.builtin "ValueError.__init__") [] (backTo pos (starEach (e :: es) X.env)) []) _ _ _
  refine PyProof.Rows.callWith_method1 (thn (ha.run pos pins _ σ H1 _ (I1.tok _) q0) fun us s2 ⟨vs, H2, I2, r1, a, C, ws, ev, hl, T, ea, q⟩ => ?_) he hpl
  subst ev
  cases r1 with
  | @cons _ u0 _ ur ra rw' =>
    obtain rfl : u0 = Value.ref a := ra
    have hlen : ur.length ≤ sizeLine := by
      rw [← Paired.length rw', sizeLine_eq]
      omega
    exact oinit_ok T I2 ea hlen fun s' J => ⟨.non, H2, J, rfl, q⟩
end
/-- an exception class: what raise C(e) needs -/
structure Mxr (P : Program) (w : World) (K : PySem.W.Frag) (mg : Str → Option Value) (base : Heap) (C : Addr) (k : Nat) (sp : L2.Sp) : Prop where
  ex : ∃ (f : Addr) (fd : FuncData) (ps : List Str), FnOk P w K mg base CX0 k f fd ps sp ∧ OexC K C ∧ PySem.W.findIn K (.ref C) "__init__" = some (some (.ref f)) ∧ PySem.W.typeIn K (.ref f) = some (.type "function") ∧ Binds K fd ps []
def tRaiseX (C : Addr) (sp : L2.Sp) (W : WX) (ta : TA) : TS := fun _ σ H => tMkO C sp [] ta σ H fun cls d H' => W cls d σ H'
theorem ps_raiseX {X : Cx} {W : WX} {x : Str} {C : Addr} {k j : Nat} {sp : L2.Sp} {e : Expr} {ta : TA} {p pos pos2 : Pos} (hc : X.calm = true) (tk : Takes X W) (c : Mxr X.prog X.w X.K X.mg X.base C k sp) (hr : Room j X.A) (hk : k + 1 ≤ j) (hm : X.mg x = some (.ref C)) (ha : PA X [e] ta) (hg : Gl X x := by rfl)
    (hdb : (x == ("__debug__" : Str)) = false := by decide) (he : starEach [e] X.env = (false, eval e X.env) :: starEach [] X.env := by rfl) (hpl : (backTo pos (starEach [] X.env)).any (·.1) = false := by rfl) :
    PS X (.Raise (some (.Call (.Name x p) [e] [] pos)) none pos2) (tRaiseX C sp W ta) := by
  obtain ⟨f, fd, ps, F, T, iC, tI, hb⟩ := c.ex
  exact ps_raise hc tk (pmk_oex T iC tI F (hr.mono hk) hb .nil pass0 hg hm ha hdb he hpl)
/-- an __init__'s promise: it keeps its argument in the field f, nothing else -/
def initX (f : Str) (C : Addr) (w : Wd) (a b : V) (Q : VK) (_ : XK) : Prop := ∃ x, a = .ref x ∧ w.H x = some (exo x C none) ∧ ∀ dx, w.H dx = none → dx ≠ x → Q .non (upd (upd w.H dx (exd dx [(f, b)])) x (exo x C (some dx)))
section
variable {w : Wd} {K : PySem.W.Frag} {C : Addr} {f : Str} {y : V} {Q : VK} {σ : L2.St} {W : WX} {D : Ends}
theorem s_raiseX {ta : TA} {P : Wd → V → V → VK → XK → Prop} (hP : P = initX f C) (k : ta σ w.H fun vs H1 => vs.length ≤ 1000 ∧ ∀ a, H1 a = none → pr2 P (.ref a :: (vs ++ [])) (upd H1 a (exo a C none))
    (fun v H2 => v = .non ∧ ∃ (d : Addr) (fs : List (Str × V)), H2 a = some (exo a C (some d)) ∧ H2 d = some (exd d fs) ∧ H1 d = none ∧ W (.ref C) (some d) σ (upd (del H2 a) d (.xd fs))) (fun _ _ _ => False)) : tRaiseX C (pr2 P) W ta D σ w.H := k
/-- the raise itself: told by what holds where it is caught -/
theorem s_raised (k : ∀ d v, Ext Non w v → w.H d = none → Own v d (.xd [(f, y)]) → W (.ref C) (some d) σ v.H) : [y].length ≤ 1000 ∧ ∀ a, w.H a = none → pr2 (initX f C) (.ref a :: ([y] ++ [])) (upd w.H a (exo a C none))
    (fun v H2 => v = .non ∧ ∃ (d : Addr) (fs : List (Str × V)), H2 a = some (exo a C (some d)) ∧ H2 d = some (exd d fs) ∧ w.H d = none ∧ W (.ref C) (some d) σ (upd (del H2 a) d (.xd fs))) (fun _ _ _ => False) := by
  refine ⟨by simp, fun a ha => ?_⟩
  refine ⟨⟨w.S, upd w.H a (exo a C none), fun b q x => ?_⟩, .ref a, y, rfl, rfl, a, rfl, upd_same, fun dx hdx hne => ⟨rfl, dx, [(f, y)], upd_same, ?_, ?_, ?_⟩⟩
  · have hb : b ≠ a := fun e => by
      have := w.ok b q x
      rw [e, ha] at this
      cases this
    rw [upd_ne hb]
    exact w.ok b q x
  · rw [upd_ne hne, upd_same]
  · have : upd w.H a (exo a C none) dx = none := hdx
    rw [upd_ne hne] at this
    exact this
  · have hdn : w.H dx = none := by
      have : upd w.H a (exo a C none) dx = none := hdx
      rw [upd_ne hne] at this
      exact this
    have e : upd (del (upd (upd (upd w.H a (exo a C none)) dx (exd dx [(f, y)])) a (exo a C (some dx))) a) dx (.xd [(f, y)]) = upd w.H dx (.xd [(f, y)]) := by
      funext b
      by_cases hb : b = dx
      · subst hb
        rw [upd_same, upd_same]
      · rw [upd_ne hb, upd_ne hb]
        by_cases hb2 : b = a
        · subst hb2
          rw [del_same, ha]
        · rw [del_ne hb2, upd_ne hb2, upd_ne hb, upd_ne hb2]
    show W (.ref C) (some dx) σ (upd (del (upd (upd (upd w.H a (exo a C none)) dx (exd dx [(f, y)])) a (exo a C (some dx))) a) dx (.xd [(f, y)]))
    rw [e]
    refine newO (w := w) (o := .xd [(f, y)]) (Q := fun r H' => ∀ d, r = .ref d → W (.ref C) (some d) σ H') (fun p v e n o d hd => ?_) dx hdn dx rfl
    cases hd
    exact k p v e n o
end
section
variable {X : Cx} {k j : Nat} {x m : Str} {C : Addr} {sp : L2.Sp} {p pos apos : Pos} {o e : Expr} {es : List Expr} {to : TE} {t : TA} {W : WX}
/-- a call that may raise -/
def tMethX (C : Addr) (m : Str) (sp : L2.Sp) (W : WX) (to : TE) (t : TA) : TE := fun σ H Q => to σ H fun x H1 => rMeth C m t sp (fun cls d H' => W cls d σ H') Q σ x H1
theorem pe_mthX {pl : Sem Bool} (tk : Takes X W) (c : Mth X.prog X.w X.K X.mg X.base (L2.CX X.prog X.w) C k m sp) (cl : Cls X.K C) (hr : Room j X.A) (hk : k ≤ j) (he : PE X o to) (ha : PA X (e :: es) t)
    (hst : starEach (e :: es) X.env = (false, eval e X.env) :: starEach es X.env := by rfl) (hpl : (backTo pos (starEach es X.env)).any (·.1) = false := by rfl)
    (ht : eval (.Call (.Attribute o m apos) (e :: es) [] pos) X.env = (do
      let ov ← eval o X.env
      standAt apos.atName
      let (f, first) ← holding [ov] (getMethod ov m pl)
      callWith pos f first (backTo pos (starEach (e :: es) X.env)) (backToKw pos (keywordEach [] X.env))) := by rfl) :
    PE X (.Call (.Attribute o m apos) (e :: es) [] pos) (tMethX C m sp W to t) := by
  obtain ⟨f, fd, ps, F, hm, hb⟩ := c.ex
  refine ⟨fun pins s σ H Q I h => ?_⟩
  refine PySem.W.methodCall_KW (pl := pl) (thn (he.run pins s σ H _ I h) fun u s1 ⟨x, H1, I1, rx, a, dx, fs, ex, ea, l, q⟩ => ?_) ht
  subst ex
  obtain rfl : u = Value.ref a := rx
  refine getmeth_ok I1 ea cl hm l ?_
  refine PySem.W.callWith_K (first := [.ref a]) (h₀ := X.base) I.ok.mod.kin hm.kp (thn (ha.run pos pins s1 σ H1 _ I1 q) fun us s2 ⟨vs, H2, I2, r, q2⟩ => ⟨I2.kIn, ?_⟩) hst hpl
  have q3 : sp (.ref a :: vs) H2 Q (fun cls d H' => W cls d σ H') := by
    have q4 : sp (.ref a :: (vs ++ [])) H2 Q (fun cls d H' => W cls d σ H') := q2
    rw [List.append_nil] at q4
    exact q4
  exact run_fnS (E := fun σ cls d H => W cls d σ H) (us := .ref a :: us) (vs := .ref a :: vs) F (hr.mono hk) hb (passAt tk σ) I2 (.cons rfl r) q3
def tCallX (sp : L2.Sp) (W : WX) (t : TA) : TE := fun σ H Q => t σ H fun vs H1 => sp (vs ++ []) H1 Q (fun cls d H' => W cls d σ H')
end
section
variable {K : PySem.W.Frag} {w : Wd} {H : Hp} {Q : VK} {σ : L2.St} {sp : L2.Sp} {W : WX} {to te : TE} {t : TA} {C a dd : Addr} {m f : Str} {cls : Value} {d : Option Addr} {D : Ends}
theorem s_methX (k : to σ H fun x H1 => rMeth C m t sp (fun cls d H' => W cls d σ H') Q σ x H1) : tMethX C m sp W to t σ H Q := k
theorem s_callX (k : t σ H fun vs H1 => sp (vs ++ []) H1 Q (fun cls d H' => W cls d σ H')) : tCallX sp W t σ H Q := k
theorem s_ost (k : te σ H fun y H1 => to σ H1 fun x H2 => ∃ a C : Addr, x = .ref a ∧ OexC K C ∧ PySem.W.findIn K (.ref C) f = some none ∧
  ((H2 a = some (exo a C none) ∧ ∀ dx, H2 dx = none → dx ≠ a → D.nx σ (upd (upd H2 dx (exd dx [(f, y)])) a (exo a C (some dx)))) ∨
    ∃ (dx : Addr) (fs : List (Str × V)), H2 a = some (exo a C (some dx)) ∧ H2 dx = some (exd dx fs) ∧ fs.length ≤ 900 ∧ D.nx σ (upd H2 dx (exd dx ((f, y) :: fs))))) : tOst K f to te D σ H := k
/-- the __init__ of an exception class -/
theorem s_veI {ta : TA} (k : ta σ H fun vs H1 => ∃ (a C : Addr) (ws : List V), vs = .ref a :: ws ∧ ws.length ≤ 1000 ∧ OexC K C ∧ H1 a = some (exo a C none) ∧ Q .non H1) : tVeI K ta σ H Q := k
end
theorem kit_self {K : PySem.W.Frag} {A : Addr} : PySem.W.kitOne K (.ref A) (.ref A) = some true := by unfold PySem.W.kitOne; simp
theorem kit_rr {K : PySem.W.Frag} {A B : Addr} {b : Bool} (hs : PySem.W.subIn K (.ref A) (.ref B) = some b) (hd : PySem.W.hasDictIn K B = true) (ht : PySem.W.typeIn K (.ref B) = some (.type "type")) (hne : (Value.ref A == Value.ref B) = false ∨ b = true) : PySem.W.kitOne K (.ref A) (.ref B) = some b := by
  unfold PySem.W.kitOne
  by_cases h : (Value.ref A == Value.ref B) = true
  · rw [if_pos h]
    rcases hne with h2 | h2
    · rw [h] at h2; cases h2
    · rw [h2]
  · rw [if_neg h]
    obtain ⟨cd, hc, _⟩ := PySem.W.any_some hd
    have e : ((PySem.W.clsIn K B).isSome && PySem.W.typeIn K (.ref B) == some (.type "type")) = true := by rw [hc, ht] <;> rfl
    show (if ((PySem.W.clsIn K B).isSome && PySem.W.typeIn K (.ref B) == some (.type "type")) = true then PySem.W.subIn K (.ref A) (.ref B) else none) = some b
    rw [if_pos e]
    exact hs
theorem kit_rt {K : PySem.W.Frag} {A : Addr} {T : String} {b : Bool} (hs : PySem.W.subIn K (.ref A) (.type T) = some b) (hm : PySem.W.kitMeta T = true) : PySem.W.kitOne K (.ref A) (.type T) = some b := by
  unfold PySem.W.kitOne
  have e : (Value.ref A == Value.type T) = false := rfl
  rw [e, if_neg (by decide)]
  show (if PySem.W.kitMeta T = true then PySem.W.subIn K (.ref A) (.type T) else none) = some b
  rw [if_pos hm]
  exact hs
end G
set_option linter.all false
set_option maxRecDepth 100000
namespace G
open PySem L2 TL NumText
def oV : Option Int → V
  | some n => .int n
  | none => .non
theorem ov_at {a b : Option Int} {Q : VK} {H : Hp} (e : a = b) (k : Q (oV a) H) : Q (oV b) H := e ▸ k
def TxD (d : PyData) : Prop := ∀ z, d = .str z → Tx 1000 z
end G
namespace G
open PySem L2
theorem drop_at {α : Type} {xs : List α} {i : Nat} {x : α} (h : xs[i]? = some x) : xs.drop i = x :: xs.drop (i + 1) := by
  obtain ⟨h1, rfl⟩ := List.getElem?_eq_some_iff.mp h
  exact List.drop_eq_getElem_cons h1
def lastHi (l : Option Int) : List (Int × Int) → Option Int
  | [] => l
  | p :: r => lastHi (some p.2) r
def Sp : Option Int → List (Int × Int) → Prop
  | _, [] => True
  | l, q :: r => q.1 ≤ q.2 ∧ (∀ h, l = some h → h + 2 ≤ q.1) ∧ Sp (some q.2) r
def ins (rows : List (Int × Int)) (n : Int) : Prop := ∃ q ∈ rows, q.1 ≤ n ∧ n ≤ q.2
section
variable {A B fs : List (Int × Int)} {n : Int} {l : Option Int} {q s : Int × Int} {i : Nat}
theorem ins_nil : ¬ ins [] n := fun ⟨_, h, _⟩ => by cases h
theorem ins_cons : ins (q :: A) n ↔ (q.1 ≤ n ∧ n ≤ q.2) ∨ ins A n := by simp [ins]
theorem ins_app : ins (A ++ B) n ↔ ins A n ∨ ins B n := by
  simp only [ins, List.mem_append, or_and_right, exists_or]
theorem ins_one : ins [q] n ↔ q.1 ≤ n ∧ n ≤ q.2 := by simp [ins]
theorem ins_take (h : A[i]? = some q) : ins (A.take (i + 1)) n ↔ ins (A.take i) n ∨ (q.1 ≤ n ∧ n ≤ q.2) := by
  rw [List.take_add_one, h, ins_app]
  exact or_congr Iff.rfl ins_one
theorem ins_perm (p : A.Perm B) : ins A n ↔ ins B n := by
  simp only [ins, p.mem_iff]
theorem Sp.wf : ∀ {A : List (Int × Int)} {l : Option Int}, Sp l A → ∀ q ∈ A, q.1 ≤ q.2
  | [], _, _, q, h => by cases h
  | p :: r, _, h, q, hq => by
    cases hq with
    | head => exact h.1
    | tail _ hq => exact Sp.wf h.2.2 q hq
theorem Sp.low : ∀ {A : List (Int × Int)} {h : Int}, Sp (some h) A → ∀ q ∈ A, h + 2 ≤ q.1
  | [], _, _, q, hq => by cases hq
  | p :: r, h, hs, q, hq => by
    have h1 := hs.2.1 h rfl
    cases hq with
    | head => exact h1
    | tail _ hq =>
      have := Sp.low hs.2.2 q hq
      have := hs.1
      omega
theorem Sp.low_ins {h : Int} (hs : Sp (some h) A) (hn : ins A n) : h + 2 ≤ n := by
  obtain ⟨q, hq, h1, h2⟩ := hn
  have := hs.low q hq
  omega
theorem Sp.snoc {a b : Int} : ∀ {l : Option Int} {A : List (Int × Int)}, Sp l A → a ≤ b → (∀ h, lastHi l A = some h → h + 2 ≤ a) → Sp l (A ++ [(a, b)])
  | l, [], _, h1, h2 => ⟨h1, h2, trivial⟩
  | _, p :: r, h, h1, h2 => ⟨h.1, h.2.1, Sp.snoc h.2.2 h1 h2⟩
theorem lastHi_snoc {a b : Int} : ∀ {l : Option Int} {A : List (Int × Int)}, lastHi l (A ++ [(a, b)]) = some b
  | _, [] => rfl
  | _, _ :: r => lastHi_snoc (A := r)
theorem Sp.last {a b c : Int} : ∀ {l : Option Int} {A : List (Int × Int)}, Sp l (A ++ [(a, b)]) → b ≤ c → Sp l (A ++ [(a, c)])
  | l, [], h, k => ⟨by have := h.1; simp at this ⊢; omega, h.2.1, trivial⟩
  | _, p :: r, h, k => ⟨h.1, h.2.1, Sp.last (A := r) h.2.2 k⟩
theorem canon : ∀ {A B : List (Int × Int)} {l k : Option Int}, Sp l A → Sp k B → (∀ n, ins A n ↔ ins B n) → A = B
  | [], [], _, _, _, _, _ => rfl
  | [], q :: r, _, _, _, hb, e => by
    have := (e q.1).mpr (ins_cons.mpr (.inl ⟨Int.le_refl _, hb.1⟩))
    exact absurd this ins_nil
  | q :: r, [], _, _, ha, _, e => by
    have := (e q.1).mp (ins_cons.mpr (.inl ⟨Int.le_refl _, ha.1⟩))
    exact absurd this ins_nil
  | (a, b) :: A, (c, d) :: B, _, _, ha, hb, e => by
    have hab : a ≤ b := ha.1
    have hcd : c ≤ d := hb.1
    have la : ∀ n, ins A n → b + 2 ≤ n := fun n => ha.2.2.low_ins
    have lb : ∀ n, ins B n → d + 2 ≤ n := fun n => hb.2.2.low_ins
    have e' : ∀ n, ((a ≤ n ∧ n ≤ b) ∨ ins A n) ↔ ((c ≤ n ∧ n ≤ d) ∨ ins B n) := fun n => by
      have := e n
      rw [ins_cons, ins_cons] at this
      exact this
    have h1 : a = c := by
      have x1 := (e' a).mp (.inl ⟨Int.le_refl _, hab⟩)
      have x2 := (e' c).mpr (.inl ⟨Int.le_refl _, hcd⟩)
      have y1 : c ≤ a := by
        rcases x1 with x | x
        · exact x.1
        · have := lb a x; omega
      have y2 : a ≤ c := by
        rcases x2 with x | x
        · exact x.1
        · have := la c x; omega
      omega
    subst h1
    have h2 : b = d := by
      by_cases hlt : b < d
      · have x := (e' (b + 1)).mpr (.inl ⟨by omega, by omega⟩)
        rcases x with x | x
        · omega
        · have := la _ x; omega
      · by_cases hgt : d < b
        · have x := (e' (d + 1)).mp (.inl ⟨by omega, by omega⟩)
          rcases x with x | x
          · omega
          · have := lb _ x; omega
        · omega
    subst h2
    rw [canon ha.2.2 hb.2.2 fun n => ?_]
    constructor
    · intro x
      have := la n x
      rcases (e' n).mp (.inr x) with y | y
      · omega
      · exact y
    · intro x
      have := lb n x
      rcases (e' n).mpr (.inr x) with y | y
      · omega
      · exact y
structure JInv (S : List (Int × Int)) (i : Nat) (fs : List (Int × Int)) : Prop where
  sp : Sp none fs
  len : fs.length ≤ i
  mem : ∀ n, ins fs n ↔ ins (S.take i) n
  low : ∀ f ∈ fs, ∀ j q, i ≤ j → S[j]? = some q → f.1 ≤ q.1
theorem JInv.nil {S : List (Int × Int)} : JInv S 0 [] := ⟨trivial, Nat.le_refl _, fun n => by simp [ins], fun f h => by cases h⟩
theorem lows {S : List (Int × Int)} (h : S.Pairwise leP) (hi : S[i]? = some q) {j : Nat} (hij : i ≤ j) (hj : S[j]? = some s) : q.1 ≤ s.1 := by
  obtain ⟨h1, rfl⟩ := List.getElem?_eq_some_iff.mp hi
  obtain ⟨h2, rfl⟩ := List.getElem?_eq_some_iff.mp hj
  by_cases e : i = j
  · subst e; exact Int.le_refl _
  · have := List.pairwise_iff_getElem.mp h i j h1 h2 (by omega)
    unfold leP at this
    omega
theorem JInv.app {S : List (Int × Int)} (h : JInv S i fs) (hs : S.Pairwise leP) (hi : S[i]? = some q) (hw : q.1 ≤ q.2) (hl : ∀ x, lastHi none fs = some x → x + 2 ≤ q.1) : JInv S (i + 1) (fs ++ [q]) := by
  refine ⟨h.sp.snoc hw hl, by simp; exact h.len, fun n => ?_, fun f hf j s hj hjs => ?_⟩
  · rw [ins_app, ins_take hi, h.mem, ins_one]
  · rcases List.mem_append.mp hf with hf | hf
    · exact h.low f hf j s (by omega) hjs
    · rw [List.mem_singleton.mp hf]
      exact lows hs hi (by omega) hjs
theorem JInv.mrg {S : List (Int × Int)} {a b : Int} (h : JInv S i (fs ++ [(a, b)])) (hi : S[i]? = some q) (hw : q.1 ≤ q.2) (hl : q.1 ≤ b + 1) : JInv S (i + 1) (fs ++ [(a, max b q.2)]) := by
  have hlo : a ≤ q.1 := h.low (a, b) (by simp) i q (Nat.le_refl _) hi
  have hab : a ≤ b := h.sp.wf (a, b) (by simp)
  refine ⟨h.sp.last (by omega), by have := h.len; simp at this ⊢; omega, fun n => ?_, fun f hf j s hj hjs => ?_⟩
  · have h1 := h.mem n
    rw [ins_app, ins_one] at h1
    rw [ins_app, ins_one, ins_take hi, ← h1]
    have : (a ≤ n ∧ n ≤ max b q.2) ↔ (a ≤ n ∧ n ≤ b) ∨ (q.1 ≤ n ∧ n ≤ q.2) := by omega
    show ins fs n ∨ (a ≤ n ∧ n ≤ max b q.2) ↔ (ins fs n ∨ (a ≤ n ∧ n ≤ b)) ∨ (q.1 ≤ n ∧ n ≤ q.2)
    rw [this, or_assoc]
  · rcases List.mem_append.mp hf with hf | hf
    · exact h.low f (List.mem_append.mpr (.inl hf)) j s (by omega) hjs
    · obtain rfl := List.mem_singleton.mp hf
      exact h.low (a, b) (by simp) j s (by omega) hjs
end
end G
namespace G
open PySem L2
theorem RpA.bools_inv {S : Hp} {α : Type} {f : α → Bool} : ∀ {vs : List V} {ns : List α}, RpA S vs (ns.map fun q => .bool (f q)) → vs = (ns.map f).map V.bl
  | _, [], h => by cases h; rfl
  | _, n :: ns, h => by
    cases h with
    | cons h1 h2 =>
      cases h1
      rw [RpA.bools_inv h2]
      rfl
end G
set_option linter.all false
set_option maxRecDepth 100000
namespace G
open PySem L2 TL NumText
end G
set_option linter.all false
set_option maxRecDepth 100000
namespace G
open PySem L2 TL NumText
end G
set_option linter.all false
set_option maxRecDepth 100000
namespace G
open PySem L2 TL NumText
end G
set_option linter.all false
set_option maxRecDepth 100000
namespace G
open PySem L2 TL
def wholeB (d : PyData) (lo hi : Int) : Bool := match d with
  | .int n => decide (lo ≤ n) && decide (n ≤ hi)
  | _ => false
theorem whole_no {d : PyData} {lo hi : Int} (h : isNum d = false) : wholeB d lo hi = false := by
  cases d <;> first | rfl | cases h
theorem whole_yes {d : PyData} {lo hi : Int} (h : wholeB d lo hi = true) : ∃ n : Int, d = .int n ∧ lo ≤ n ∧ n ≤ hi := by
  cases d <;> first | cases h | skip
  rename_i n
  unfold wholeB at h
  rw [Bool.and_eq_true, decide_eq_true_eq, decide_eq_true_eq] at h
  exact ⟨n, rfl, h⟩
def rowB : PyData → Bool
  | .tuple [a, b] => wholeB a 0 1000000000 && wholeB b (0 - 2880) 2880
  | _ => false
theorem row_yes {d : PyData} (h : rowB d = true) : ∃ m s : Int, d = .tuple [.int m, .int s] ∧ 0 ≤ m ∧ m ≤ 1000000000 ∧ -2880 ≤ s ∧ s ≤ 2880 := by
  unfold rowB at h
  split at h
  · rename_i a b
    rw [Bool.and_eq_true] at h
    obtain ⟨m, rfl, h1, h2⟩ := whole_yes h.1
    obtain ⟨s, rfl, h3, h4⟩ := whole_yes h.2
    exact ⟨m, s, rfl, h1, h2, by omega, h4⟩
  · cases h
theorem row_len {ds : List PyData} (h : ds.length ≠ 2) : rowB (.tuple ds) = false := by
  unfold rowB
  split
  · rename_i e
    cases e
    exact absurd rfl h
  · rfl
theorem row_notup {d : PyData} (h : isTup d = false) : rowB d = false := by cases d <;> first | rfl | cases h
def momD : PyData → Int
  | .tuple (.int m :: _) => m
  | _ => 0
def stepBad (ahead : Option Int) (m : Int) : Bool := match ahead with
  | none => decide (m ≠ 0)
  | some a => decide (m ≤ a)
def faultFrom : Option Int → Nat → List PyData → Option Int
  | _, _, [] => none
  | ahead, i, d :: r => if (!rowB d || stepBad ahead (momD d)) = true then some (i : Int) else faultFrom (some (momD d)) (i + 1) r
def faultD : PyData → Option Int
  | .list ds => if ds.length = 0 then some 0 else if ds.length > 21 then some 21 else faultFrom none 0 ds
  | _ => some 0
/-- rows of a table -/
def Rising : Option Int → List (Int × Int) → Prop
  | _, [] => True
  | a, p :: r => (0 ≤ p.1 ∧ p.1 ≤ 1000000000 ∧ -2880 ≤ p.2 ∧ p.2 ≤ 2880) ∧ stepBad a p.1 = false ∧ Rising (some p.1) r
structure TabOk (R : List (Int × Int)) : Prop where
  n : R ≠ []
  l : R.length ≤ 21
  r : Rising none R
theorem fault_from : ∀ (R : List (Int × Int)) (a : Option Int) (i : Nat), Rising a R → faultFrom a i (R.map fun p => .tuple [.int p.1, .int p.2]) = none
  | [], _, _, _ => rfl
  | p :: r, a, i, h => by
    have e1 : rowB (.tuple [.int p.1, .int p.2]) = true := by
      show (wholeB (.int p.1) 0 1000000000 && wholeB (.int p.2) (0 - 2880) 2880) = true
      simp only [wholeB, Bool.and_eq_true, decide_eq_true_eq]
      have := h.1
      omega
    have e2 : stepBad a p.1 = false := h.2.1
    show (if (!rowB (.tuple [.int p.1, .int p.2]) || stepBad a p.1) = true then some (i : Int) else faultFrom (some p.1) (i + 1) (r.map fun p => .tuple [.int p.1, .int p.2])) = none
    rw [e1, e2, if_neg (by decide)]
    exact fault_from r _ _ h.2.2
theorem fault_none {R : List (Int × Int)} (h : TabOk R) : faultD (.list (R.map fun p => .tuple [.int p.1, .int p.2])) = none := by
  show (if (R.map _).length = 0 then some 0 else if (R.map _).length > 21 then some 21 else faultFrom none 0 (R.map _)) = none
  have h1 := h.l
  have h2 : R.length ≠ 0 := fun e => h.n (List.length_eq_zero_iff.mp e)
  rw [List.length_map, if_neg h2, if_neg (by omega)]
  exact fault_from R none 0 h.r
theorem Rising.mem : ∀ {R : List (Int × Int)} {a : Option Int}, Rising a R → ∀ p ∈ R, 0 ≤ p.1 ∧ p.1 ≤ 1000000000 ∧ -2880 ≤ p.2 ∧ p.2 ≤ 2880
  | q :: r, a, h, p, hp => by
    rcases List.mem_cons.mp hp with rfl | hp
    · exact h.1
    · exact Rising.mem h.2.2 p hp
end G
set_option linter.all false
set_option maxRecDepth 100000
namespace G
open PySem L2 TL NumText
/-- a table at x for good -/
def TbS (C : Addr) (S : Hp) (x : V) (R : List (Int × Int)) : Prop := ∃ a dx, ∃ y : V, x = .ref a ∧ S a = some (.ins C dx [("kept_rows", y)]) ∧ Rp S y (.list (R.map prD))
theorem TbS.go {C : Addr} {w v : Wd} {x : V} {R : List (Int × Int)} {m : Addr → Prop} (e : Ext m w v) (h : TbS C w.S x R) : TbS C v.S x R := by
  obtain ⟨a, dx, y, rfl, h1, h2⟩ := h
  exact ⟨a, dx, y, rfl, st_go e h1, h2.go e⟩
theorem rising_snoc : ∀ {R : List (Int × Int)} {a : Option Int} {p : Int × Int}, Rising a R → (0 ≤ p.1 ∧ p.1 ≤ 1000000000 ∧ -2880 ≤ p.2 ∧ p.2 ≤ 2880) → (R = [] → stepBad a p.1 = false) → (∀ q, R.getLast? = some q → q.1 < p.1) → Rising a (R ++ [p])
  | [], a, p, _, hb, h0, _ => ⟨hb, h0 rfl, trivial⟩
  | q :: r, a, p, h, hb, _, hl => by
    refine ⟨h.1, h.2.1, rising_snoc h.2.2 hb (fun e => ?_) (fun q' hq' => ?_)⟩
    · subst e
      have := hl q rfl
      exact decide_eq_false (by omega)
    · refine hl q' ?_
      cases r with
      | nil => cases hq'
      | cons x y => rw [List.getLast?_cons_cons]; exact hq'
theorem rising_init : ∀ {R : List (Int × Int)} {a : Option Int} {p : Int × Int}, Rising a (R ++ [p]) → Rising a R ∧ (∀ q, R.getLast? = some q → q.1 < p.1) ∧ (0 ≤ p.1 ∧ p.1 ≤ 1000000000 ∧ -2880 ≤ p.2 ∧ p.2 ≤ 2880)
  | [], a, p, h => ⟨trivial, (fun q e => by cases e), h.1⟩
  | [x], a, p, h => ⟨⟨h.1, h.2.1, trivial⟩, (fun q e => by
      obtain rfl : x = q := Option.some.inj e
      have : stepBad (some x.1) p.1 = false := h.2.2.2.1
      have := of_decide_eq_false this
      omega), h.2.2.1⟩
  | x :: y :: r, a, p, h => by
    obtain ⟨h1, h2, h3⟩ := rising_init (R := y :: r) h.2.2
    exact ⟨⟨h.1, h.2.1, h1⟩, (fun q e => h2 q (by rw [List.getLast?_cons_cons] at e; exact e)), h3⟩
theorem rising_last {R : List (Int × Int)} {p : Int × Int} (h : Rising none (R ++ [p])) (hn : R ≠ []) : Rising none (R ++ [(1000000000, p.2)]) := by
  obtain ⟨h1, h2, h3⟩ := rising_init h
  refine rising_snoc h1 ⟨show (0 : Int) ≤ 1000000000 by decide, show (1000000000 : Int) ≤ 1000000000 by decide, h3.2.2⟩ (fun e => absurd e hn) fun q hq => ?_
  have := h2 q hq
  show q.1 < 1000000000
  omega
end G
set_option linter.all false
set_option maxRecDepth 100000
namespace G
open PySem L2 TL NumText
end G
set_option linter.all false
set_option maxRecDepth 100000
namespace G
open PySem L2 TL NumText
def lastOf (R : List (Int × Int)) (i : Nat) : Int := match R[i + 1]? with
  | some q => q.1 - 1
  | none => 1000000000
def pcAt (R : List (Int × Int)) (i : Nat) : Int × Int × Int := ((R.getD i (0, 0)).1, lastOf R i, (R.getD i (0, 0)).2)
def pcsI (R : List (Int × Int)) : List (Int × Int × Int) := (List.range R.length).map (pcAt R)
abbrev trD3 (t : Int × Int × Int) : PyData := .tuple [.int t.1, .int t.2.1, .int t.2.2]
end G
set_option linter.all false
set_option maxRecDepth 100000
namespace G
open PySem L2 TL
def stR (R : List (Int × Int)) (lo hi : Int) (i : Nat) : Int × Int := (max (pcAt R i).1 (lo - (pcAt R i).2.2), min (pcAt R i).2.1 (hi - (pcAt R i).2.2))
def strsR (R : List (Int × Int)) (lo hi : Int) (n : Nat) : List (Int × Int) := (List.range n).map (stR R lo hi)
def ne2 (p : Int × Int) : Bool := decide (p.1 ≤ p.2)
theorem strs_succ (R : List (Int × Int)) (lo hi : Int) (n : Nat) : strsR R lo hi (n + 1) = strsR R lo hi n ++ [stR R lo hi n] := by
  unfold strsR
  rw [List.range_succ, List.map_append]
  rfl
theorem pc_low {R : List (Int × Int)} {i : Nat} {p : Int × Int} (h : R[i]? = some p) : pcAt R i = (p.1, lastOf R i, p.2) := by
  unfold pcAt
  rw [List.getD_eq_getElem?_getD, h]
  rfl
structure DInv (R : List (Int × Int)) (lo hi : Int) (i : Nat) (fs : List (Int × Int)) : Prop where
  sp : Sp none fs
  m : ∀ n, ins fs n ↔ ins ((strsR R lo hi i).filter ne2) n
  b : ∀ x, lastHi none fs = some x → ∀ p, R[i]? = some p → x < p.1
  l : fs.length ≤ i
theorem DInv.nil {R : List (Int × Int)} {lo hi : Int} : DInv R lo hi 0 [] := ⟨trivial, fun n => Iff.rfl, (fun x h => by cases h), Nat.le_refl _⟩
theorem rising_next : ∀ {R : List (Int × Int)} {a : Option Int} {i : Nat} {p q : Int × Int}, Rising a R → R[i]? = some p → R[i + 1]? = some q → p.1 < q.1
  | [], _, _, _, _, _, h, _ => by simp at h
  | x :: r, a, 0, p, q, h, h1, h2 => by
    have : x = p := by simpa using h1
    subst this
    cases r with
    | nil => simp at h2
    | cons y r =>
      have : y = q := by simpa using h2
      subst this
      have h3 : stepBad (some x.1) y.1 = false := h.2.2.2.1
      have := of_decide_eq_false h3
      omega
  | x :: r, a, i + 1, p, q, h, h1, h2 => rising_next h.2.2 (by simpa using h1) (by simpa using h2)
end G
set_option linter.all false
set_option maxRecDepth 100000
namespace G
open PySem L2
end G
set_option linter.all false
set_option maxRecDepth 100000
namespace L2
open PySem PySem.Spec PyProof.Rows
end L2
namespace G
open PySem L2
end G
set_option linter.all false
set_option maxRecDepth 100000
namespace L2
open PySem PySem.Spec PyProof.Rows
end L2
namespace G
open PySem L2
end G
set_option linter.all false
set_option maxRecDepth 100000
namespace L2
open PySem PySem.Spec PyProof.Rows
section
variable {X : Cx} {f : Addr} {fd : FuncData} {C : Addr} {sp : L2.Sp} {k : Nat} {ps : List Str} {E : St → XK} {CX : CXT}
theorem run_makeS {pins : List (Addr × Obj)} {σ : St} {H : Hp} {s : Shared} {Q : VK} {us : List Value} {vs : List V} (M : Mk X.K C f) (F : FnOk X.prog X.w X.K X.mg X.base CX k f fd ps sp) (hr : Room (k + 1) X.A) (hb : Binds X.K fd ps [])
    (hx : PassesAt CX X σ (E σ)) (I : Inv X pins σ H s) (r : Vals vs us)
    (h : ∀ x dx, H x = none → H dx = none → dx ≠ x → sp (.ref x :: (vs ++ [])) (upd (upd H dx (.own x)) x (.ins C dx [])) (fun v H2 => v = .non ∧ Q (.ref x) H2) (E σ)) :
    wpAny (model X.prog X.w) X.A (call (.ref C) us) (EP X pins σ Q) X.xe s := by
  have hq := h (s.heap.objs.size + 1) s.heap.objs.size (I.hok.fresh (Nat.le_succ _)) (I.hok.fresh (Nat.le_refl _)) (Nat.ne_of_lt (Nat.lt_succ_self _))
  have I2 := Inv.made (C := C) I
  have r2 : Vals (V.ref (s.heap.objs.size + 1) :: (vs ++ [])) (Value.ref (s.heap.objs.size + 1) :: (us ++ [])) := .cons rfl (r.append .nil)
  have hl : (Value.ref (s.heap.objs.size + 1) :: us ++ []).length = ps.length := by
    have e := r2.length
    rw [F.len _ _ _ _ hq] at e
    exact e.symm
  refine wpAny_call (make_map (f := f) I.kIn M.makes M.init (beq_iff_eq.mp M.fn) (codeAny_mono (F.run _ X.stack _ _ ⟨Value.ref (s.heap.objs.size + 1) :: us, []⟩ (Value.ref (s.heap.objs.size + 1) :: (us ++ [])) _ _ (E σ) (hr.make C us [])
    (I2.env0.make C us []) (by have b := hb _ (Value.ref (s.heap.objs.size + 1) :: us) I2.kIn hl; rw [List.cons_append] at b; exact b) r2 hq) fun r s' hq' => ?_))
  cases r with
  | error e => exact hx pins _ _ e s' I2 hq'
  | ok fl =>
    cases fl with
    | ret u =>
      obtain ⟨v, H', I3, rv, ev, q3⟩ := I2.after hq'
      subst ev
      exact ⟨rv, ⟨V.ref (s.heap.objs.size + 1), H', I3, rfl, q3⟩⟩
    | next => exact False.elim hq'
    | brk => exact False.elim hq'
    | cont => exact False.elim hq'
end
end L2
namespace G
open PySem L2 PyProof.Rows
section
variable {X : Cx} {k j : Nat} {x : Str} {C : Addr} {sp : L2.Sp} {p pos : Pos} {e : Expr} {es : List Expr} {t : TA} {W : WX}
def tMakeX (C : Addr) (sp : L2.Sp) (W : WX) (t : TA) : TE := fun σ H Q => t σ H fun vs H1 => rMake C sp (fun cls d H' => W cls d σ H') Q vs H1
theorem pe_mkX (tk : Takes X W) (c : Mkr X.prog X.w X.K X.mg X.base (L2.CX X.prog X.w) C k sp) (hr : Room j X.A) (hk : k + 1 ≤ j) (hm : X.mg x = some (.ref C)) (ha : PA X (e :: es) t) (hg : Gl X x := by rfl)
    (hdb : (x == ("__debug__" : Str)) = false := by decide) (he : starEach (e :: es) X.env = (false, eval e X.env) :: starEach es X.env := by rfl) (hpl : (backTo pos (starEach es X.env)).any (·.1) = false := by rfl) :
    PE X (.Call (.Name x p) (e :: es) [] pos) (tMakeX C sp W t) := by
  obtain ⟨f, fd, ps, F, M, hb⟩ := c.ex
  refine ⟨fun pins s σ H Q I h => ?_⟩
  refine wpAny_Call_Name_kw (ld_glob I hg hm ?_ hdb)
  refine PySem.W.callWith_K (h₀ := X.base) I.ok.mod.kin M.kp (thn (ha.run pos pins s σ H _ I h) fun us s1 ⟨vs, H1, I1, r, q⟩ => ⟨I1.kIn, ?_⟩) he hpl
  exact run_makeS (E := fun σ cls d H => W cls d σ H) M F (hr.mono hk) hb (passAt tk σ) I1 r q
end
section
variable {H : Hp} {Q : VK} {σ : L2.St} {sp : L2.Sp} {W : WX} {t : TA} {C : Addr}
theorem s_makeX (k : t σ H fun vs H1 => rMake C sp (fun cls d H' => W cls d σ H') Q vs H1) : tMakeX C sp W t σ H Q := k
end
end G
set_option linter.all false
set_option maxRecDepth 100000
set_option maxHeartbeats 1000000
namespace G
open PySem L2 PyProof.Rows
/-- B.__init__ read off the class B: an own def -/
structure Bin (P : Program) (w : World) (K : PySem.W.Frag) (mg : Str → Option Value) (base : Heap) (CX : CXT) (C : Addr) (k : Nat) (sp : L2.Sp) : Prop where
  ex : ∃ (f : Addr) (fd : FuncData) (ps : List Str), FnOk P w K mg base CX k f fd ps sp ∧ PySem.W.readsIn K C (.type "type") = true ∧ PySem.W.specialIn K (.ref C) "__getattribute__" = some (some (.builtin "type.__getattribute__")) ∧
    PySem.W.findCls K (.ref C) (.type "type") "__init__" = some (.val (.ref f)) ∧ PySem.W.keepIn K (.ref f) = true ∧ Binds K fd ps []
section
variable {X : Cx} {k j : Nat} {C0 : Addr} {sp : L2.Sp} {p2 pos : Pos} {o e : Expr} {es : List Expr} {t : TA} {W : WX}
theorem pe_bin {pl : Sem Bool} (tk : Takes X W) (c : Bin X.prog X.w X.K X.mg X.base (L2.CX X.prog X.w) C0 k sp) (hr : Room j X.A) (hk : k ≤ j) (he0 : PE X o (tC (.ref C0))) (ha : PA X (e :: es) t)
    (hc : eval (.Call (.Attribute o "__init__" p2) (e :: es) [] pos) X.env = (do
      let ov ← eval o X.env
      standAt p2.atName
      let (f, first) ← holding [ov] (getMethod ov "__init__" pl)
      callWith pos f first (backTo pos (starEach (e :: es) X.env)) (backToKw pos (keywordEach [] X.env))) := by rfl)
    (he : starEach (e :: es) X.env = (false, eval e X.env) :: starEach es X.env := by rfl) (hpl : (backTo pos (starEach es X.env)).any (·.1) = false := by rfl) :
    PE X (.Call (.Attribute o "__init__" p2) (e :: es) [] pos) (tCallX sp W t) := by
  obtain ⟨f, fd, ps, F, rd, ga, fc, kp, hb⟩ := c.ex
  refine ⟨fun pins s σ H Q I h => ?_⟩
  refine PySem.W.methodCall_KW (pl := pl) (thn (he0.run pins s σ H (fun x H1 => x = .ref C0 ∧ tCallX sp W t σ H1 Q) I ⟨rfl, h⟩) fun u s1 ⟨x, H1, I1, rx, ex, q0⟩ => ?_) hc
  subst ex
  obtain rfl : u = Value.ref C0 := rx
  refine PySem.W.method_cls I1.kIn ga (PySem.W.cls_value I1.kIn rd fc (by rfl) ?_)
  refine PySem.W.callWith_K (first := []) (h₀ := X.base) I.ok.mod.kin kp (thn (ha.run pos pins _ σ H1 _ (I1.tok _) q0) fun us s2 ⟨vs, H2, I2, r, q2⟩ => ⟨I2.kIn, ?_⟩) he hpl
  have q3 : sp vs H2 Q (fun cls d H' => W cls d σ H') := by
    have q4 : sp (vs ++ []) H2 Q (fun cls d H' => W cls d σ H') := q2
    rw [List.append_nil] at q4
    exact q4
  exact run_fnS (E := fun σ cls d H => W cls d σ H) (us := us) (vs := vs) F (hr.mono hk) hb (passAt tk σ) I2 r q3
end
/-- a method by the receiver's class, which is one of some -/
def MthD {ι : Type} (P : Program) (w : World) (K : PySem.W.Frag) (mg : Str → Option Value) (base : Heap) (CX : CXT) (D : ι → Prop) (cf : ι → Addr) (k : Nat) (m : Str) (sp : ι → L2.Sp) : Prop := ∀ i, D i → Cls K (cf i) ∧ Mth P w K mg base CX (cf i) k m (sp i)
def rMethD {ι : Type} (D : ι → Prop) (cf : ι → Addr) (m : Str) (t : TA) (sp : ι → L2.Sp) (E : XK) (Q : VK) (σ : L2.St) (x : V) (H1 : Hp) : Prop := ∃ i a dx fs, D i ∧ x = .ref a ∧ H1 a = some (.ins (cf i) dx fs) ∧ fs.lookup m = none ∧ t σ H1 fun vs H2 => sp i (x :: vs) H2 Q E
def tMethD {ι : Type} (D : ι → Prop) (cf : ι → Addr) (m : Str) (sp : ι → L2.Sp) (W : WX) (to : TE) (t : TA) : TE := fun σ H Q => to σ H fun x H1 => rMethD D cf m t sp (fun cls d H' => W cls d σ H') Q σ x H1
section
variable {X : Cx} {k j : Nat} {m : Str} {ι : Type} {D : ι → Prop} {cf : ι → Addr} {sp : ι → L2.Sp} {pos apos : Pos} {o e : Expr} {es : List Expr} {to : TE} {t : TA} {W : WX}
theorem pe_mthD {pl : Sem Bool} (tk : Takes X W) (c : MthD X.prog X.w X.K X.mg X.base (L2.CX X.prog X.w) D cf k m sp) (hr : Room j X.A) (hk : k ≤ j) (he : PE X o to) (ha : PA X (e :: es) t)
    (hst : starEach (e :: es) X.env = (false, eval e X.env) :: starEach es X.env := by rfl) (hpl : (backTo pos (starEach es X.env)).any (·.1) = false := by rfl)
    (ht : eval (.Call (.Attribute o m apos) (e :: es) [] pos) X.env = (do
      let ov ← eval o X.env
      standAt apos.atName
      let (f, first) ← holding [ov] (getMethod ov m pl)
      callWith pos f first (backTo pos (starEach (e :: es) X.env)) (backToKw pos (keywordEach [] X.env))) := by rfl) :
    PE X (.Call (.Attribute o m apos) (e :: es) [] pos) (tMethD D cf m sp W to t) := by
  refine ⟨fun pins s σ H Q I h => ?_⟩
  refine PySem.W.methodCall_KW (pl := pl) (thn (he.run pins s σ H _ I h) fun u s1 ⟨x, H1, I1, rx, i, a, dx, fs, hD, ex, ea, l, q⟩ => ?_) ht
  subst ex
  obtain rfl : u = Value.ref a := rx
  obtain ⟨cl, c⟩ := c i hD
  obtain ⟨f, fd, ps, F, hm, hb⟩ := c.ex
  refine getmeth_ok I1 ea cl hm l ?_
  refine PySem.W.callWith_K (first := [.ref a]) (h₀ := X.base) I.ok.mod.kin hm.kp (thn (ha.run pos pins s1 σ H1 _ I1 q) fun us s2 ⟨vs, H2, I2, r, q2⟩ => ⟨I2.kIn, ?_⟩) hst hpl
  exact run_fnS (E := fun σ cls d H => W cls d σ H) (us := .ref a :: us) (vs := .ref a :: vs) F (hr.mono hk) hb (passAt tk σ) I2 (.cons rfl r) q2
theorem pe_mthD0 {pl : Sem Bool} (tk : Takes X W) (c : MthD X.prog X.w X.K X.mg X.base (L2.CX X.prog X.w) D cf k m sp) (hr : Room j X.A) (hk : k ≤ j) (he : PE X o to)
    (ht : eval (.Call (.Attribute o m apos) [] [] pos) X.env = (do
      let ov ← eval o X.env
      standAt apos.atName
      let (f, first) ← holding [ov] (getMethod ov m pl)
      callWith pos f first (backTo pos (starEach [] X.env)) (backToKw pos (keywordEach [] X.env))) := by rfl) :
    PE X (.Call (.Attribute o m apos) [] [] pos) (tMethD D cf m sp W to tNil) := by
  refine ⟨fun pins s σ H Q I h => ?_⟩
  refine PySem.W.methodCall_KW (pl := pl) (thn (he.run pins s σ H _ I h) fun u s1 ⟨x, H1, I1, rx, i, a, dx, fs, hD, ex, ea, l, q⟩ => ?_) ht
  subst ex
  obtain rfl : u = Value.ref a := rx
  obtain ⟨cl, c⟩ := c i hD
  obtain ⟨f, fd, ps, F, hm, hb⟩ := c.ex
  refine getmeth_ok I1 ea cl hm l ?_
  refine PySem.W.callWith_K0 (first := [.ref a]) I1.kIn hm.kp ?_
  exact run_fnS (E := fun σ cls d H => W cls d σ H) (us := [.ref a]) (vs := [.ref a]) F (hr.mono hk) hb (passAt tk σ) I1 (.cons rfl .nil) q
end
section
variable {K : PySem.W.Frag} {w : Wd} {H : Hp} {Q : VK} {σ : L2.St} {W : WX} {to : TE} {t : TA} {a C dx C2 : Addr} {m : Str} {fs : List (Str × V)} {E : XK} {b b1 b2 : Bool} {tp : Addr}
theorem s_methD {ι : Type} {D : ι → Prop} {cf : ι → Addr} {sp : ι → L2.Sp} (k : to σ H fun x H1 => rMethD D cf m t sp (fun cls d H' => W cls d σ H') Q σ x H1) : tMethD D cf m sp W to t σ H Q := k
theorem s_rmethD {ι : Type} {D : ι → Prop} {cf : ι → Addr} {sp : ι → L2.Sp} (i : ι) (hD : D i) (h : w.H a = some (.ins (cf i) dx fs)) (l : fs.lookup m = none) (k : t σ w.H fun vs H2 => sp i (.ref a :: vs) H2 Q E) : rMethD D cf m t sp E Q σ (.ref a) w.H := ⟨i, a, dx, fs, hD, rfl, h, l, k⟩
/-- isinstance of an instance of C, asked of the class C2 -/
theorem s_isiCC (h : w.H a = some (.ins C dx fs)) (c : Cls K C) (i : ClsI K C) (e : PySem.W.kitOne K (.ref C) (.ref C2) = some b) (k : Q (.bl b) w.H) : rIsi K [.ref a, .ref C2] w.H Q :=
  ⟨.ref a, .ref C2, .ref C, .ref C2, b, rfl, .own C2, .base (.ins h c i.ha i.hn i.ht i.hm), e, k⟩
end
end G
set_option linter.all false
set_option maxRecDepth 100000
namespace G
open PySem L2
end G
set_option linter.all false
set_option maxRecDepth 100000
namespace G
open PySem L2
/-- lists of one's own, what they hold -/
structure OL (w : Wd) (ps : List Addr) (ds : List (List PyData)) : Prop where
  l : ps.length = ds.length
  n : ps.Nodup
  o : ∀ (i : Nat) (p : Addr) (d : List PyData), ps[i]? = some p → ds[i]? = some d → ∃ vs, Own w p (.lst vs) ∧ RpA w.S vs d
theorem OL.mem {w : Wd} {ps : List Addr} {ds : List (List PyData)} (h : OL w ps ds) {p : Addr} (hp : p ∈ ps) : ∃ vs, ∃ d ∈ ds, Own w p (.lst vs) ∧ RpA w.S vs d := by
  obtain ⟨i, hi⟩ := List.getElem?_of_mem hp
  have hlt : i < ps.length := (List.getElem?_eq_some_iff.mp hi).1
  obtain ⟨d, hd⟩ : ∃ d, ds[i]? = some d := ⟨_, List.getElem?_eq_getElem (by rw [← h.l]; exact hlt)⟩
  obtain ⟨vs, o, r⟩ := h.o i p d hi hd
  exact ⟨vs, d, List.mem_of_getElem? hd, o, r⟩
theorem OL.snoc {w : Wd} {ps : List Addr} {ds : List (List PyData)} {p : Addr} {vs : List V} {d : List PyData} (h : OL w ps ds) (n : p ∉ ps) (o : Own w p (.lst vs)) (r : RpA w.S vs d) : OL w (ps ++ [p]) (ds ++ [d]) := by
  refine ⟨by simp [h.l], List.nodup_append.mpr ⟨h.n, by simp, fun a ha b hb e => n (by rw [List.mem_singleton] at hb; rw [← hb, ← e]; exact ha)⟩, fun i q x hq hx => ?_⟩
  by_cases c : i < ps.length
  · rw [List.getElem?_append_left c] at hq
    rw [List.getElem?_append_left (by rw [← h.l]; exact c)] at hx
    exact h.o i q x hq hx
  · rw [List.getElem?_append_right (by omega)] at hq
    rw [List.getElem?_append_right (by rw [← h.l]; omega)] at hx
    have h1 : i - ps.length = 0 := by
      cases hh : i - ps.length with
      | zero => rfl
      | succ k => rw [hh] at hq; simp at hq
    rw [h1] at hq
    rw [← h.l, h1] at hx
    cases hq
    cases hx
    exact ⟨vs, o, r⟩
/-- the cells of a list of lists -/
def cellsOf (r : Addr) (ps : List Addr) : Addr → Prop := fun b => b = r ∨ b ∈ ps
theorem OL.none {w : Wd} {r : Addr} {ps : List Addr} {xs : List V} {ds : List (List PyData)} (h : OL w ps ds) (o : Own w r (.lst xs)) : ∀ l, cellsOf r ps l → w.S l = none := fun l hl => by
  rcases hl with rfl | hl
  · exact o.s
  · obtain ⟨vs, d, _, o, _⟩ := h.mem hl
    exact o.s
end G
set_option linter.all false
set_option maxRecDepth 100000
namespace L2
open PySem PySem.Spec PyProof.Rows
end L2
namespace G
open PySem L2
end G
set_option linter.all false
set_option maxRecDepth 100000
namespace L2
open PySem PySem.Spec PyProof.Rows
/-- at a: an exception that was caught, of the class cls, its dict at d -/
def exk (a : Addr) (cls : Value) (d : Option Addr) : HO := .ext fun h => ∃ o, h.get? a = some o ∧ Zc cls d o ∧ ∃ vs, o.data = .fields vs
theorem exk_ok {P : Program} {w : World} {H : Hp} {h : Heap} {a : Addr} {cls : Value} {d : Option Addr} {oe : Obj} {vs : Array Value} (ha : h.get? a = some oe) (hz : Zc cls d oe) (hd : oe.data = .fields vs) : ObjOk P w H h a (exk a cls d) :=
  ⟨⟨oe, ha, hz, vs, hd⟩, ⟨oe, ha⟩, fun h1 h2 x k => by
    obtain ⟨o, q, z⟩ := x
    exact ⟨o, k _ q, z⟩⟩
theorem exk_at {P : Program} {w : World} {H : Hp} {h : Heap} {a : Addr} {cls : Value} {d : Option Addr} (hok : HOk P w H h) (he : H a = some (exk a cls d)) : ∃ o, h.get? a = some o ∧ Zc cls d o ∧ ∃ vs, o.data = .fields vs := by
  have x : ObjOk P w H h a (.ext fun h => ∃ o, h.get? a = some o ∧ Zc cls d o ∧ ∃ vs, o.data = .fields vs) := hok a _ he
  exact x.1
theorem Inv.adopt {X : Cx} {pins : List (Addr × Obj)} {σ : List (Option V)} {H : Hp} {s : Shared} {a : Addr} {cls : Value} {d : Option Addr} {oe : Obj} {vs : Array Value} (I : Inv X pins σ H s) (ha : s.heap.get? a = some oe) (hz : Zc cls d oe) (hd : oe.data = .fields vs)
    (na : H a = none) (nL : a ≠ X.env.locals) (fr : ∀ o, X.s_0.heap.get? a = some o → a ∈ X.ex) (np : ∀ p ∈ X.pn ++ pins, p.1 ≠ a) : Inv X pins σ (upd H a (exk a cls d)) s := by
  refine ⟨I.ok, I.os, I.bare, ⟨I.base.keep, I.base.slot, fun b o q n hx => ?_, I.base.there, fun b xs q => ?_, fun b o u q => ?_, fun b ps q => ?_⟩, I.loc, I.cell, ?_, fun x c e => ?_, fun p hp => ?_, fun b u e => ?_, I.len⟩
  · rw [upd_ne (fun e => by subst e; exact hx (fr o q))]
    exact I.base.free b o q n hx
  · have z := I.base.tups b xs q
    rw [upd_ne (ne_of_none z na)]
    exact z
  · have z := I.base.frzs b o u q
    rw [upd_ne (ne_of_none z na)]
    exact z
  · obtain ⟨more, z⟩ := I.base.tbls b ps q
    exact ⟨more, by rw [upd_ne (ne_of_none z na)]; exact z⟩
  · rw [upd_ne (fun e => nL e.symm)]
    exact I.free
  · have z := I.freeC x c e
    rw [upd_ne (fun h => by
      obtain ⟨v, hv⟩ := I.cell x c e
      obtain ⟨o, ho, hdat⟩ := hv
      rw [h, ha] at ho
      cases ho
      rw [hd] at hdat
      cases hdat)]
    exact z
  · have z := I.pin p hp
    refine ⟨z.1, ?_, z.2.2⟩
    rw [upd_ne (np p hp)]
    exact z.2.1
  · by_cases hb : b = a
    · subst hb
      rw [upd_same] at e
      cases e
      exact exk_ok ha hz hd
    · rw [upd_ne hb] at e
      exact (I.hok b u e).stay (fun c v _ q => q) (fun c q => by rw [upd_ne (ne_of_none q na)]; exact q) fun c xs q => by rw [upd_ne (ne_of_none q na)]; exact q
/-- what the clause 'except x as n' wishes, the exception living on behind it -/
def wAsK (K : PySem.W.Frag) (c : Value) (i : Nat) (ts : Addr → Value → Option Addr → TS) (Wout : WX) (D : Ends) : WX := fun cls d σ H =>
  ∃ b, PySem.W.exmOne K cls c = some b ∧ (b = true → ∀ a, H a = none → ts a cls d { nx := fun σ' H' => D.nx (σ'.set i none) (upd H' a (exk a cls d)), rt := D.rt, bk := fun σ' H' => D.bk (σ'.set i none) H', ct := fun σ' H' => D.ct (σ'.set i none) H' } (σ.set i (some (.ref a))) H) ∧
    (b = false → Wout cls d σ H)
section
variable {X : Cx} {x n : Str} {c : Value} {i : Nat} {body suite : List Stmt} {b₀ : Stmt} {np pos pos' : Pos} {tb : WX → TS} {ts : Addr → Value → Option Addr → TS} {Wout : WX}
theorem ps_try_keep (hs : X.stack = X.env :: X.outer) (hf : X.env.frame = some X.env.locals) (hN : X.N.Nodup) (hi : X.N[i]? = some n) (hln : X.env.kindOf n = some .local) (hc : Names X x c) (tk : Takes X Wout)
    (hb : ∀ (W : WX) (pn : List (Addr × Obj)) (xe : Value → Shared → Prop), Takes (X.tr pn xe) W → PassesOwn (model X.prog X.w) X.A X.env xe → PSs (X.tr pn xe) body (tb W))
    (hsu : ∀ (a : Addr) (oe : Obj) (cls : Value) (d : Option Addr) (pn : List (Addr × Obj)), Zc cls d oe → (∃ vs, oe.data = .fields vs) → PSs (X.suite a ((a, oe) :: pn)) (b₀ :: suite) (ts a cls d)) :
    PS X (.Try body [.ExceptHandler (some (.Name x np)) (some n) (b₀ :: suite) pos'] [] [] pos) (fun D σ H => tb (wAsK X.K c i ts Wout D) D σ H) := by
  refine ⟨fun pins s σ H D I h => ?_⟩
  have ok := I.ok
  have hfr : X.A.frames = some (X.env :: X.outer) := by rw [ok.frames, hs]
  refine wpAny_Try_except ?_
  refine wpAny_mono ((hb (wAsK X.K c i ts Wout D) (X.pn ++ pins) (fun e s₁ => wpAny (model X.prog X.w) X.A (noteFrame e X.env) (fun _ s₂ => wpAny (model X.prog X.w) X.A (setFlight e none) (fun _ s₃ =>
    wpAny (model X.prog X.w) X.A (handleBy e X.env [.ExceptHandler (some (.Name x np)) (some n) (b₀ :: suite) pos']) (SP X pins D) X.xe s₃) X.xe s₂) X.xe s₁) (fun u s' xx => ?_) PassesOwn.looking).run [] s σ H D (I.toTry _) h) (fun f s1 hsp => ?_) (fun e s1 he => he)
  · obtain ⟨a, B, sI, pins', σ', H', cls, d, rfl, J', nb, up, sky, na, os, ag, w⟩ := xx
    have J : Inv X pins σ' H' sI := J'.ofTry ok
    have sky' : Sky B (X.env :: X.outer) a (Zc cls d) X.env.locals s'.heap := by rw [← hs]; exact sky
    show wpAny (model X.prog X.w) X.A (noteFrame (.ref a) X.env) _ _ _
    refine Sky.land Zc.steady hfr hf sky' fun h3 fl3 up3 => ?_
    have J3 : Inv X pins σ' H' { s' with heap := h3 } := J.landed nb fl3.1 (up.trans up3) os ag
    obtain ⟨oe3, vs3, he3, hz3, hd3⟩ := fl3.there
    have nfr : a ∉ frs (X.env :: X.outer) := fun hm => by
      obtain ⟨_, o', e', hnf⟩ := fl3.2.2.1.mem hm
      rw [he3] at e'; cases e'
      exact hnf _ hd3
    have nL : a ≠ X.env.locals := fun z => nfr (List.mem_filterMap.mpr ⟨X.env, List.mem_cons_self, by rw [hf, z]⟩)
    have nF : a ∉ X.fs := fun hm => by
      obtain ⟨e, he, q⟩ := List.mem_filterMap.mp hm
      exact nfr (List.mem_filterMap.mpr ⟨e, List.mem_cons_of_mem _ he, q⟩)
    have S3 := J3.suite he3 hd3 na nL nF
    have old : sI.heap.get? a = none := by
      cases e : sI.heap.get? a with
      | none => rfl
      | some o =>
        have z := nb a o e (by rw [hs]; exact nfr)
        rw [fl3.2.1] at z
        cases z
    have fr0 : ∀ o, X.s_0.heap.get? a = some o → a ∈ X.ex := fun o e => by
      by_cases hx : a ∈ X.ex
      · exact hx
      · obtain ⟨o', e'⟩ := J.base.there a o e hx
        rw [old] at e'
        cases e'
    have np0 : ∀ q ∈ X.pn ++ pins, q.1 ≠ a := fun q hq e => by
      have z := (J.pin q hq).1
      rw [e, old] at z
      cases z
    obtain ⟨b, hb1, hyes, hno⟩ := w
    refine wpAny_handleBy_cons (codeAny_handlers_test ?_) (by intro q; cases q)
    have LT : PySem.W.Looks (model X.prog X.w) h3 (typeOf (.ref a)) cls := fun A Q E s k q => wpAny_typeOf_ref (k _ _ he3) (by rw [hz3.1]; exact q)
    have LM := PySem.W.exm_one (M := model X.prog X.w) (J3.kIn) LT hb1
    have test : ∀ {Q : Value → Shared → Prop} {E : Value → Shared → Prop}, Q c { s' with heap := h3 } → wpAny (model X.prog X.w) (X.A.mark (some (.ref a))) (eval (.Name x np) X.env) Q E { s' with heap := h3 } := fun {Q E} q => by
      obtain ⟨hg, hdbg, hm | ⟨hm, hv, hnn⟩⟩ := hc
      · exact ld_glob (X := X.suite a ((a, oe3) :: (X.pn ++ pins))) S3 hg hm q hdbg
      · exact ld_blt (X := X.suite a ((a, oe3) :: (X.pn ++ pins))) S3 hg hm hv q hnn hdbg
    refine test (LM.here ?_)
    cases b with
    | true =>
      have hloc : Loc X.env.scope n := .inl hln
      refine codeAny_handlers_suite_as ?_
      refine HandSPX.lands_againZ fl3 fun h4 fl4 up4 => ?_
      have J4 : Inv X pins σ' H' { s' with heap := h4 } := J.landed nb fl4.1 ((up.trans up3).trans up4) os ag
      obtain ⟨oe4, vs4, he4, hz4, hd4⟩ := fl4.there
      have S4 := J4.suite he4 hd4 na nL nF
      refine store_ok (X := X.suite a ((a, oe4) :: (X.pn ++ pins))) (v := .ref a) S4 hN hi hloc rfl (fun s5 S5 => ?_) (.inr hln)
      refine wpAny_mono ((hsu a oe4 cls d (X.pn ++ pins) hz4 ⟨_, hd4⟩).run [] s5 _ H' _ S5 (hyes rfl a na)) (fun f s6 hsp => ?_) (fun _ _ z => False.elim z)
      have keep : ∀ {σ6 : St} {H6 : Hp} {Q : Shared → Prop}, Inv (X.suite a ((a, oe4) :: (X.pn ++ pins))) [] σ6 H6 s6 → (∀ s7, Inv X pins (σ6.set i none) (upd H6 a (exk a cls d)) s7 → Q s7) →
          wpAny (model X.prog X.w) X.A (do bindName X.env n .none; unbindBehindTheSuite X.env n pos') (fun _ s7 => Q s7) X.xe s6 := fun {σ6 H6 Q} S6 hq => gone_ok (X := X.suite a ((a, oe4) :: (X.pn ++ pins))) S6 hN hi hln fun s7 S7 => hq s7 (by
            have pa := S7.pin (a, oe4) (List.mem_append_left _ List.mem_cons_self)
            exact (S7.unsuite ok).adopt pa.1 hz4 hd4 pa.2.1 nL fr0 np0)
      have fin : ∀ {σ6 : St} {H6 : Hp} {Q : Shared → Prop}, Inv (X.suite a ((a, oe4) :: (X.pn ++ pins))) [] σ6 H6 s6 → (∀ s7, Inv X pins (σ6.set i none) H6 s7 → Q s7) →
          wpAny (model X.prog X.w) X.A (do bindName X.env n .none; unbindBehindTheSuite X.env n pos') (fun _ s7 => Q s7) X.xe s6 := fun {σ6 H6 Q} S6 hq => gone_ok (S6.unsuite ok) hN hi hln hq
      cases f with
      | next =>
        obtain ⟨σ6, H6, S6, q6⟩ := hsp
        exact keep S6 fun s7 J7 => ⟨_, _, J7, q6⟩
      | brk =>
        obtain ⟨σ6, H6, S6, q6⟩ := hsp
        exact fin S6 fun s7 J7 => ⟨_, _, J7, q6⟩
      | cont =>
        obtain ⟨σ6, H6, S6, q6⟩ := hsp
        exact fin S6 fun s7 J7 => ⟨_, _, J7, q6⟩
      | ret u =>
        obtain ⟨v6, σ6, H6, S6, r6, q6⟩ := hsp
        exact fin S6 fun s7 J7 => ⟨_, _, _, J7, r6, q6⟩
    | false =>
      show wpAny _ X.A (handleBy (.ref a) X.env []) _ _ _
      refine wpAny_handleBy_nil ?_
      obtain ⟨k1, k2, k3, oe, vs, T, oT, ts', he, hz, hd, h1, hr⟩ := id fl3
      unfold PySem.passOn
      refine wpAny_bind (wpAny_field he hd h1 ?_)
      rw [if_neg (show ¬ ((Value.ref T == Value.none) = true) from by simp)]
      have fin : wpAny (model X.prog X.w) X.A (setFlight (.ref a) X.env.frame) (fun _ s4 => wpAny (model X.prog X.w) X.A (throw (.ref a) : Sem Flow) (SP X pins D) X.xe s4) X.xe { s' with heap := h3 } := by
        rw [hf]
        refine HandSPX.setFlight_upZ fl3 fun h4 hh4 up4 => wpAny_throw (tk _ _ ?_)
        exact ⟨a, B, sI, pins, σ', H', cls, d, rfl, J, nb, (up.trans up3).trans up4, .inr (.inr (by rw [hs]; exact hh4)), na, os, ag, hno rfl⟩
      first
        | exact wpAny_bind (wpAny_pure (wpAny_bind fin))
        | exact wpAny_bind fin
  · cases f with
    | next =>
      obtain ⟨σ', H', J', q⟩ := hsp
      exact wpAny_execs_nil ⟨σ', H', J'.ofTry ok, q⟩
    | brk =>
      obtain ⟨σ', H', J', q⟩ := hsp
      exact ⟨σ', H', J'.ofTry ok, q⟩
    | cont =>
      obtain ⟨σ', H', J', q⟩ := hsp
      exact ⟨σ', H', J'.ofTry ok, q⟩
    | ret u =>
      obtain ⟨v, σ', H', J', r, q⟩ := hsp
      exact ⟨v, σ', H', J'.ofTry ok, r, q⟩
end
end L2
namespace L2
open PySem PySem.Spec PyProof.Rows
/-- isinstance of an exception that is kept -/
def rIsK (K : PySem.W.Frag) : List V → Hp → VK → Prop := fun xs H Q => ∃ (a E dd : Addr) (fs : List (Str × V)) (c : V) (cv : Value) (b : Bool), xs = [.ref a, c] ∧ H a = some (exk a (.ref E) (some dd)) ∧ ExcC K E ∧ (∀ u, RelV c u → u = cv) ∧ PySem.W.kitOne K (.ref E) cv = some b ∧
  H dd = some (.xd fs) ∧ Q (.bl b) H
theorem call_isK {X : Cx} : CallR X (.builtin "isinstance") (rIsK X.K) := by
  intro pins s σ H xs us Q I r h
  obtain ⟨a, E, dd, fs, c, cv, b, rfl, hk, C, hcv, e, ea, q⟩ := h
  cases r with
  | cons rx rr =>
    cases rr with
    | cons rt rr =>
      cases rr
      cases rx
      have ec := hcv _ rt
      subst ec
      obtain ⟨oe, hget, hz, vs, hv⟩ := exk_at I.hok hk
      have hx : ObjOk X.prog X.w H s.heap dd (.xd fs) := I.hok dd _ ea
      obtain ⟨mA, hns, hr⟩ := hx
      obtain ⟨od, ho, hlk⟩ := lookIn_ns hns
      have J : PySem.W.InstAt s.heap a oe E (some od) := ⟨hget, hz.1, by unfold PySem.W.notCls; rw [hv] <;> rfl, by rw [hz.2]; exact ho⟩
      obtain ⟨cd, hcl, _⟩ := PySem.W.any_some C.hd
      exact PySem.W.kia_one (PySem.W.kitx_exc (by rw [hcl]; rfl) C.hg C.hk C.hs C.ha C.hn C.ht C.hm) I.kIn J e (fun z => nomatch z) fun tk => ⟨.bl b, H, I.kept (t' := tk) fun _ _ z => z, rfl, q⟩
end L2
namespace L2
open PySem PySem.Spec PyProof.Rows
/-- e.f of an exception that is kept -/
def gXk (K : PySem.W.Frag) (f : Str) (x : V) (H1 : Hp) (Q : VK) : Prop := ∃ (a C : Addr), x = .ref a ∧ XfC K C ∧ PySem.W.findIn K (.ref C) f = some none ∧ ∃ (dd : Addr) (fs : List (Str × V)) (v : V), H1 a = some (exk a (.ref C) (some dd)) ∧ H1 dd = some (.xd fs) ∧ fs.lookup f = some v ∧ Q v H1
def tXk (K : PySem.W.Frag) (f : Str) (te : TE) : TE := fun σ H Q => te σ H fun x H1 => gXk K f x H1 Q
theorem pe_xk {X : Cx} {e : Expr} {te : TE} {pos : Pos} {n : Str} (he : PE X e te) (hb : attributeBase e n X.env (eval e X.env) = eval e X.env := by rfl) : PE X (.Attribute e n pos) (tXk X.K n te) := by
  refine ⟨fun pins s σ H Q I h => ?_⟩
  refine attr_of hb (thn (he.run pins s σ H _ I h) fun u s1 hh => ?_)
  obtain ⟨x, H1, I1, rx, a, C, ex, T, hno, dd, fs, v, hk, ea, l, q⟩ := hh
  subst ex
  obtain rfl : u = Value.ref a := rx
  obtain ⟨oe, ha, hz, vs, hd⟩ := exk_at I1.hok hk
  have hx : ObjOk X.prog X.w H1 s1.heap dd (.xd fs) := I1.hok dd _ ea
  obtain ⟨mA, hns, hr⟩ := hx
  obtain ⟨od, ho, hl⟩ := lookIn_ns hns
  obtain ⟨u, hu, ru⟩ := RelO.some_of (v := v) (o := mA n) (by rw [← l]; exact hr n)
  have J : PySem.W.InstAt s1.heap a oe C (some od) := ⟨ha, hz.1, by unfold PySem.W.notCls; rw [hd] <;> rfl, by rw [hz.2]; exact ho⟩
  exact HandSPX.exc_get I1.kIn J T.ga T.gg T.exC (PySem.W.findObj_own T.hdC hno rfl (by rw [hl, hu])) (handed_of ru) ⟨v, H1, I1.tok _, ru, q⟩
end L2
namespace G
open PySem L2
/-- isinstance, also of a kept exception -/
def rIsiK (K : PySem.W.Frag) : List V → Hp → VK → Prop := fun xs H Q => rIsi K xs H Q ∨ rIsK K xs H Q
theorem kIsiK {X : Cx} (K : PySem.W.Frag) (eK : X.K = K := by rfl) : CallR X (.builtin "isinstance") (rIsiK K) := by
  subst eK
  intro pins s σ H xs us Q I r h
  rcases h with h | h
  · exact call_isi pins s σ H xs us Q I r h
  · exact call_isK pins s σ H xs us Q I r h
section
variable {K : PySem.W.Frag} {σ : L2.St} {H : Hp} {Q : VK} {te : TE} {f : Str} {cls : Value} {d : Option Addr} {D : Ends} {c : Value} {i : Nat} {ts : Addr → Value → Option Addr → TS} {Wout : WX}
theorem s_xk (k : te σ H fun x H1 => gXk K f x H1 Q) : tXk K f te σ H Q := k
theorem s_wAsK (e : PySem.W.exmOne K cls c = some true) (k : ∀ a, H a = none → ts a cls d { nx := fun σ' H' => D.nx (σ'.set i none) (upd H' a (exk a cls d)), rt := D.rt, bk := fun σ' H' => D.bk (σ'.set i none) H', ct := fun σ' H' => D.ct (σ'.set i none) H' } (σ.set i (some (.ref a))) H) : wAsK K c i ts Wout D cls d σ H :=
  ⟨true, e, fun _ => k, fun z => by cases z⟩
variable {w : Wd} {a dd C B : Addr} {b : Bool} {v : V}
theorem s_isKc {fs : List (Str × V)} (ec : ExcC K C) (e : PySem.W.kitOne K (.ref C) (.ref B) = some b) (h1 : w.H a = some (exk a (.ref C) (some dd))) (h2 : w.H dd = some (.xd fs)) (k : Q (.bl b) w.H) : rIsiK K [.ref a, .ref B] w.H Q :=
  .inr ⟨a, C, dd, fs, .ref B, .ref B, b, rfl, h1, ec, fun u r => r, e, h2, k⟩
theorem s_isKt {T : String} {fs : List (Str × V)} (ec : ExcC K C) (e : PySem.W.kitOne K (.ref C) (.type T) = some b) (h1 : w.H a = some (exk a (.ref C) (some dd))) (h2 : w.H dd = some (.xd fs)) (k : Q (.bl b) w.H) : rIsiK K [.ref a, .ty T] w.H Q :=
  .inr ⟨a, C, dd, fs, .ty T, .type T, b, rfl, h1, ec, fun u r => r, e, h2, k⟩
theorem s_xkv (xf : XfC K C) (n : PySem.W.findIn K (.ref C) f = some none) (h1 : w.H a = some (exk a (.ref C) (some dd))) (h2 : w.H dd = some (.xd [(f, v)])) (k : Q v w.H) : gXk K f (.ref a) w.H Q :=
  ⟨a, C, rfl, xf, n, dd, _, v, h1, h2, by simp [List.lookup], k⟩
end
end G
set_option linter.all false
set_option maxRecDepth 100000
namespace SU
open PySem PySem.Spec PyProof.Rows L2
theorem kv_keys : ∀ {kvs : List (Key × V)} {xs : List (Key × Value)}, KV kvs xs → kvs.map (·.1) = xs.map (·.1)
  | [], _, .nil => rfl
  | _ :: _, _, .cons h t => by rw [List.map_cons, List.map_cons, kv_keys t, h.1]
end SU
namespace G
open PySem L2 TL SU
end G
set_option linter.all false
set_option maxRecDepth 100000
namespace SU
open PySem PySem.Spec PyProof.Rows L2
/-- list(d): its keys -/
def rListDK : List V → Hp → VK → Prop := fun xs H Q => ∃ (a : Addr) (kvs : List (Key × V)), xs = [V.ref a] ∧ Rd H a (.dK kvs) ∧ ∀ p, H p = none → Q (.ref p) (upd H p (.lst (kvs.map fun kv => kV kv.1)))
section
variable {X : Cx}
theorem cr_listDK (hc : X.calm = true) : CallR X (.type "list") rListDK := by
  intro pins s σ H xs us Q I r h
  obtain ⟨a, kvs, rfl, ha, q⟩ := h
  rw [Vals.ref1 r]
  obtain ⟨hz, lo, ys, rel, hD⟩ := dk_rd I.hok ha
  obtain ⟨ep, hat⟩ := hD.dictAt
  have hl : kvs.length = ys.length := rel.length
  refine PySem.W.kdl_call (PySem.W.kdl_dict (knd := mixKind X.prog X.w) (kvs := ys) (ep := ep) lo) (I.ok.hd hc) hat (by omega) fun h' tk acc c hkeep hS hacc => ?_
  have hv : Vals (kvs.map fun kv => kV kv.1) acc.toList := by
    have key : ∀ (vs : List V) (us : List Value), vs.length = us.length → (∀ (i : Nat) (v : V) (u : Value), vs[i]? = some v → us[i]? = some u → RelV v u) → Vals vs us := by
      intro vs
      induction vs with
      | nil =>
        intro us hl _
        cases us with
        | nil => exact .nil
        | cons _ _ => simp at hl
      | cons v vs ih =>
        intro us hl hi
        cases us with
        | nil => simp at hl
        | cons u us => exact .cons (hi 0 v u rfl rfl) (ih us (by simpa using hl) fun i v u h1 h2 => hi (i + 1) v u h1 h2)
    have h9 : acc.toList.length = ys.length := by rw [Array.length_toList]; exact hacc.1
    refine key _ _ (by rw [List.length_map, h9]; exact hl) fun i v u h1 h2 => ?_
    obtain ⟨k, x, hx, hkv⟩ := hacc.2 i u (by rw [← Array.getElem?_toList]; exact h2)
    have h3 : (kvs.map (·.1))[i]? = some k := by rw [kv_keys rel, List.getElem?_map, hx]; rfl
    rw [List.getElem?_map] at h1 h3
    obtain ⟨kv, e1, rfl⟩ := Option.map_eq_some_iff.mp h1
    rw [e1] at h3
    cases h3
    exact relV_key (show keyIs kv.1 u = true from hkv)
  exact ⟨.ref s.heap.objs.size, upd H s.heap.objs.size (.lst (kvs.map fun kv => kV kv.1)), I.laid (t' := tk) hkeep (Nat.le_refl _) ⟨by rw [List.length_map]; exact hz, acc.toList, c, hv, by simpa using hS⟩, rfl, q _ (I.hok.fresh (Nat.le_refl _))⟩
end
end SU
namespace G
open PySem L2 TL SU
theorem kListDK {X : Cx} (hc : X.calm = true) : CallR X (.type "list") rListDK := cr_listDK hc
section
variable {K : PySem.W.Frag} {w : Wd} {a d : Addr} {Q : VK} {kvs : List (Key × V)} {od : Obj}
theorem s_listDK (o : Own w a (.dK kvs)) (k : ∀ p v, Ext Non w v → w.H p = none → v.S p = some (.lst (kvs.map fun kv => kV kv.1)) → Q (.ref p) v.H) : rListDK [.ref a] w.H Q := ⟨a, kvs, rfl, .inl o.h, newS (Q := Q) fun p v e n s => k p v e n s⟩
def YK (kvs : List (Key × V)) : Nat → Wd → V → Wd → Prop := fun i w x v => v = w ∧ ∃ k y, kvs[i]? = some (k, y) ∧ x = kV k
theorem ww_keys : WWalk (Itk d od kvs) kvs.length (fun w => w.H d = some (.frz od (.dK kvs))) (YK kvs) :=
  ⟨fun i w h q => ⟨q, h⟩, fun w q => ⟨q, Nat.le_refl _⟩, fun i w x H' h q y => ⟨w, y.1.symm, rfl, y.2⟩⟩
theorem dgetR (h : w.H a = some (.dK kvs) ∨ ∃ o, w.H a = some (.frz o (.dK kvs))) (k : Key) : DGet w.H a (kV k) (valV kvs k) := .inl ⟨kvs, k, h, rfl, rfl⟩
end
end G
set_option linter.all false
set_option maxRecDepth 100000
namespace G
open PySem L2 TL
/-- a good name: one to eight small letters -/
def NmOk0 (z : Str) : Prop := (tl z).length ≤ 8 ∧ tl z ≠ [] ∧ ∀ c ∈ tl z, 97 ≤ c ∧ c ≤ 122
inductive Kd | any | within | att | between | read | joint | sifted
deriving DecidableEq
/-- the classes' addresses -/
structure EC where
  any : Addr
  within : Addr
  att : Addr
  between : Addr
  read : Addr
  joint : Addr
  sifted : Addr
def EC.of (c : EC) : Kd → Addr
  | .any => c.any
  | .within => c.within
  | .att => c.att
  | .between => c.between
  | .read => c.read
  | .joint => c.joint
  | .sifted => c.sifted
/-- class a lies under class b -/
def subK : Kd → Kd → Bool
  | _, .any => true
  | .att, .within => true
  | .read, .between => true
  | a, b => decide (a = b)
/-- what an entry's class must have -/
structure Ecl (K : PySem.W.Frag) (C : Addr) : Prop where
  cl : Cls K C
  ci : ClsI K C
  name : NoAttr K C "name"
  place : NoAttr K C "place"
  low : NoAttr K C "low"
  high : NoAttr K C "high"
  known : NoAttr K C "known"
  part : NoAttr K C "part"
  keeps : NoAttr K C "keeps"
def simple : Kd → Prop
  | .joint | .sifted => False
  | _ => True
structure EK (K : PySem.W.Frag) (c : EC) : Prop where
  cl : ∀ k, simple k → Ecl K (c.of k)
  kit : ∀ a b, simple a → simple b → PySem.W.kitOne K (.ref (c.of a)) (.ref (c.of b)) = some (subK a b)
/-- a simple entry -/
structure Sim where
  k : Kd
  n : Str
  p : Str
  lo : Int
  hi : Int
def fldS (e : Sim) : List (Str × V) := match e.k with
  | .any => [("name", .str e.n)]
  | .within | .att => [("name", .str e.n), ("low", .int e.lo), ("high", .int e.hi)]
  | .between | .read => [("name", .str e.n), ("place", .str e.p), ("low", .int e.lo), ("high", .int e.hi)]
  | .joint | .sifted => []
/-- a simple entry stands at v for good -/
def SimS (K : PySem.W.Frag) (c : EC) (S : Hp) (v : V) (e : Sim) : Prop := EK K c ∧ ∃ x dx, v = .ref x ∧ S x = some (.ins (c.of e.k) dx (fldS e))
theorem SimS.go {K : PySem.W.Frag} {c : EC} {w u : Wd} {v : V} {e : Sim} {m : Addr → Prop} (x : Ext m w u) (h : SimS K c w.S v e) : SimS K c u.S v e := by
  obtain ⟨k, a, dx, rfl, h⟩ := h
  exact ⟨k, a, dx, rfl, st_go x h⟩
def placed : Kd → Prop
  | .between | .read => True
  | _ => False
instance (k : Kd) : Decidable (placed k) := by cases k <;> first | exact isTrue trivial | exact isFalse id
/-- within its bounds -/
def Sim.ok (e : Sim) : Prop := simple e.k ∧ (placed e.k → -10000000000 ≤ e.lo ∧ e.lo ≤ 10000000000 ∧ -10000000000 ≤ e.hi ∧ e.hi ≤ 10000000000) ∧ (e.k = .att ∨ e.k = .read → e.lo = e.hi)
abbrev Tabs := List (Str × List (Int × Int))
def getT {α : Type} (T : List (Str × α)) (z : Str) : Option α := (T.find? fun p => decide (p.1 = z)).map (·.2)
/-- a dict by texts, its values told by P -/
inductive DicR {α : Type} (P : V → α → Prop) : List (Key × V) → List (Str × α) → Prop
  | nil : DicR P [] []
  | cons {v : V} {R : α} {z : Str} {kvs : List (Key × V)} {T : List (Str × α)} : P v R → DicR P kvs T → DicR P ((.inr z, v) :: kvs) ((z, R) :: T)
section
variable {α : Type} {P P' : V → α → Prop}
theorem DicR.mono (h : ∀ v R, P v R → P' v R) : ∀ {kvs : List (Key × V)} {T : List (Str × α)}, DicR P kvs T → DicR P' kvs T
  | _, _, .nil => .nil
  | _, _, .cons a t => .cons (h _ _ a) (t.mono h)
theorem DicR.miss {z : Str} : ∀ {kvs : List (Key × V)} {T : List (Str × α)}, DicR P kvs T → getT T z = none → valV kvs (.inr z) = none
  | _, _, .nil, _ => rfl
  | _, _, .cons (z := y) (T := T) h t, g => by
    by_cases c : y = z
    · subst c
      simp [getT] at g
    · rw [valV_neg (fun e => c (Sum.inr.inj e))]
      refine t.miss ?_
      unfold getT at g ⊢
      rwa [List.find?_cons_of_neg (by simp [c])] at g
theorem DicR.hit {z : Str} {R : α} : ∀ {kvs : List (Key × V)} {T : List (Str × α)}, DicR P kvs T → getT T z = some R → ∃ v, valV kvs (.inr z) = some v ∧ P v R
  | _, _, .nil, g => by cases g
  | _, _, .cons (v := v) (z := y) (T := T) h t, g => by
    by_cases c : y = z
    · subst c
      unfold getT at g
      rw [List.find?_cons_of_pos (by simp)] at g
      cases g
      exact ⟨v, valS_pos, h⟩
    · rw [valV_neg (fun e => c (Sum.inr.inj e))]
      refine t.hit ?_
      unfold getT at g ⊢
      rwa [List.find?_cons_of_neg (by simp [c])] at g
theorem DicR.len : ∀ {kvs : List (Key × V)} {T : List (Str × α)}, DicR P kvs T → kvs.length = T.length
  | _, _, .nil => rfl
  | _, _, .cons _ t => by rw [List.length_cons, List.length_cons, t.len]
theorem DicR.keys : ∀ {kvs : List (Key × V)} {T : List (Str × α)}, DicR P kvs T → kvs.map (·.1) = (T.map (·.1)).map Sum.inr
  | _, _, .nil => rfl
  | _, _, .cons _ t => by rw [List.map_cons, List.map_cons, List.map_cons, t.keys]
theorem DicR.at {i : Nat} : ∀ {kvs : List (Key × V)} {T : List (Str × α)} {k : Key} {v : V}, DicR P kvs T → kvs[i]? = some (k, v) → ∃ z R, k = .inr z ∧ T[i]? = some (z, R) ∧ P v R := by
  induction i with
  | zero =>
    intro kvs T k v h e
    cases h with
    | nil => cases e
    | cons a t => cases e; exact ⟨_, _, rfl, rfl, a⟩
  | succ i ih =>
    intro kvs T k v h e
    cases h with
    | nil => cases e
    | cons a t => exact ih t e
theorem DicR.snoc {v : V} {R : α} {z : Str} (p : P v R) : ∀ {kvs : List (Key × V)} {T : List (Str × α)}, DicR P kvs T → DicR P (kvs ++ [(.inr z, v)]) (T ++ [(z, R)])
  | _, _, .nil => .cons p .nil
  | _, _, .cons a t => .cons a (t.snoc p)
theorem DicR.nodup {kvs : List (Key × V)} {T : List (Str × α)} (h : DicR P kvs T) (hn : (T.map (·.1)).Nodup) : (kvs.map (·.1)).Nodup := by
  rw [h.keys]
  exact List.Pairwise.map _ (fun a b hab e => hab (Sum.inr.inj e)) hn
theorem valV_at {kvs : List (Key × V)} (hn : (kvs.map (·.1)).Nodup) {i : Nat} {k : Key} {v : V} (h : kvs[i]? = some (k, v)) : valV kvs k = some v := by
  induction kvs generalizing i with
  | nil => simp at h
  | cons p r ih =>
    rw [List.map_cons, List.nodup_cons] at hn
    cases i with
    | zero =>
      cases h
      exact valV_pos rfl
    | succ i =>
      have h : r[i]? = some (k, v) := h
      have hne : ¬ p.1 = k := fun e => hn.1 (by rw [e]; exact List.mem_map_of_mem (f := (·.1)) (List.mem_of_getElem? h))
      rw [valV_neg hne]
      exact ih hn.2 h
/-- a new key -/
theorem DicR.putN {v : V} {R : α} {z : Str} {kvs : List (Key × V)} {T : List (Str × α)} (h : DicR P kvs T) (g : getT T z = none) (p : P v R) : DicR P (putK kvs (.inr z) v) (T ++ [(z, R)]) := by
  rw [putK_new _ (h.miss g)]
  exact h.snoc p
/-- a key goes -/
def dropT (T : List (Str × α)) (z : Str) : List (Str × α) := T.filter fun p => !decide (p.1 = z)
theorem DicR.drop {z : Str} : ∀ {kvs : List (Key × V)} {T : List (Str × α)}, DicR P kvs T → DicR P (dropK kvs (.inr z)) (dropT T z)
  | _, _, .nil => .nil
  | _, _, .cons (v := v) (z := y) (R := R) (kvs := kvs) (T := T) a t => by
    have ih := t.drop (z := z)
    by_cases c : y = z
    · have e1 : dropK ((.inr y, v) :: kvs) (.inr z) = dropK kvs (.inr z) := by unfold dropK; rw [List.filter_cons_of_neg (by simp [c])]
      have e2 : dropT ((y, R) :: T) z = dropT T z := by unfold dropT; rw [List.filter_cons_of_neg (by simp [c])]
      rw [e1, e2]
      exact ih
    · have e1 : dropK ((.inr y, v) :: kvs) (.inr z) = (.inr y, v) :: dropK kvs (.inr z) := by unfold dropK; rw [List.filter_cons_of_pos (by simp [c])]
      have e2 : dropT ((y, R) :: T) z = (y, R) :: dropT T z := by unfold dropT; rw [List.filter_cons_of_pos (by simp [c])]
      rw [e1, e2]
      exact .cons a ih
theorem getT_none {T : List (Str × α)} {z : Str} : getT T z = none ↔ z ∉ T.map (·.1) := by
  unfold getT
  rw [Option.map_eq_none_iff, List.find?_eq_none]
  simp only [decide_eq_true_eq, List.mem_map, not_exists, not_and]
theorem getT_drop {T : List (Str × α)} {z : Str} : getT (dropT T z) z = none := by
  rw [getT_none]
  unfold dropT
  intro h
  obtain ⟨p, hp, rfl⟩ := List.mem_map.mp h
  have := (List.mem_filter.mp hp).2
  simp at this
theorem getT_mem {T : List (Str × α)} {z : Str} (h : z ∈ T.map (·.1)) : ∃ R, getT T z = some R := by
  cases e : getT T z with
  | some R => exact ⟨R, rfl⟩
  | none => exact absurd h (getT_none.mp e)
theorem getT_sub {T : List (Str × α)} {z : Str} {R : α} (h : getT T z = some R) : (z, R) ∈ T := by
  unfold getT at h
  obtain ⟨p, hp, rfl⟩ := Option.map_eq_some_iff.mp h
  have h1 := List.find?_some hp
  have h2 := List.mem_of_find?_eq_some hp
  have : p.1 = z := by simpa using h1
  rw [← this]
  exact h2
end
def TbA (C : Addr) (S : Hp) : List (Key × V) → Tabs → Prop := DicR fun v R => TbS C S v R ∧ TabOk R
theorem TbA.go {C : Addr} {w u : Wd} {m : Addr → Prop} (x : Ext m w u) {kvs : List (Key × V)} {T : Tabs} (h : TbA C w.S kvs T) : TbA C u.S kvs T := DicR.mono (fun _ _ z => ⟨TbS.go x z.1, z.2⟩) h
def TbL (S : Hp) : List (Key × V) → Tabs → Prop := DicR fun v R => Rp S v (spD R) ∧ TabOk R
theorem TbL.go {w u : Wd} {m : Addr → Prop} (x : Ext m w u) {kvs : List (Key × V)} {T : Tabs} (h : TbL w.S kvs T) : TbL u.S kvs T := DicR.mono (fun _ _ z => ⟨Rp.go x z.1, z.2⟩) h
/-- a dict of tables' rows stands at b -/
def TabsL (w : Wd) (b : V) (T : Tabs) : Prop := ∃ t kvs, b = .ref t ∧ Rd w t (.dK kvs) ∧ TbL w.S kvs T
/-- a dict of tables stands at b -/
def TabsD (C : Addr) (w : Wd) (b : V) (T : Tabs) : Prop := ∃ t kvs, b = .ref t ∧ Rd w t (.dK kvs) ∧ TbA C w.S kvs T
/-- the moments of a simple entry -/
def inE (e : Sim) (T : Tabs) (n : Int) : Prop := match e.k with
  | .any => 0 ≤ n ∧ n ≤ 1000000000
  | .within | .att => e.lo ≤ n ∧ n ≤ e.hi
  | .between | .read => ∃ R, getT T e.p = some R ∧ ins ((strsR R e.lo e.hi R.length).filter ne2) n
  | .joint | .sifted => False
def wordK : Kd → Str
  | .any => Str.ofString "any"
  | .within => Str.ofString "within"
  | .att => Str.ofString "at"
  | .between => Str.ofString "between"
  | .read => Str.ofString "read"
  | .joint => Str.ofString "joint"
  | .sifted => Str.ofString "sifted"
theorem word_pl : ∀ k, inV (.str (wordK k)) [.str (Str.ofString "between"), .str (Str.ofString "read")] = decide (placed k) := by intro k; cases k <;> decide +kernel
theorem word_eq : ∀ a b, decide (wordK a = wordK b) = decide (a = b) := by intro a b; cases a <;> cases b <;> decide +kernel
/-- what a simple entry is drawn as -/
def specD (e : Sim) : PyData := .tuple [.str (wordK e.k), .str e.n, .str e.p, .int e.lo, .int e.hi]
structure SpecOk (e : Sim) (T : Tabs) : Prop where
  s : simple e.k
  n : NmOk0 e.n
  pl : placed e.k → NmOk0 e.p ∧ (∃ R, getT T e.p = some R) ∧ -10000000000 ≤ e.lo ∧ e.lo ≤ 10000000000 ∧ -10000000000 ≤ e.hi ∧ e.hi ≤ 10000000000
  np : ¬ placed e.k → e.p = Str.ofString "" ∧ 0 ≤ e.lo ∧ e.lo ≤ 1000000000 ∧ 0 ≤ e.hi ∧ e.hi ≤ 1000000000
  an : e.k = .any → e.lo = 0 ∧ e.hi = 1000000000
  at' : e.k = .att ∨ e.k = .read → e.lo = e.hi
theorem SpecOk.ok {e : Sim} {T : Tabs} (h : SpecOk e T) : e.ok := ⟨h.s, fun z => (h.pl z).2.2, h.at'⟩
end G
namespace G
open PySem L2 PyProof.Rows
theorem fnok_weak {P : Program} {w : World} {K : PySem.W.Frag} {mg : Str → Option Value} {base : Heap} {CX : CXT} {k j : Nat} {f : Addr} {fd : FuncData} {ps : List Str} {sp sp' : L2.Sp} (F : FnOk P w K mg base CX k f fd ps sp) (hk : k ≤ j) (h : ∀ vs H Q E, sp' vs H Q E → sp vs H Q E) : FnOk P w K mg base CX j f fd ps sp' := (F.mono hk).imp h
theorem pr1_mono {P P' : Wd → V → VK → XK → Prop} (h : ∀ w a Q E, P' w a Q E → P w a Q E) : ∀ vs H Q E, pr1 P' vs H Q E → pr1 P vs H Q E := fun _ _ _ _ ⟨w, a, x, y, z⟩ => ⟨w, a, x, y, h _ _ _ _ z⟩
theorem pr2_mono {P P' : Wd → V → V → VK → XK → Prop} (h : ∀ w a b Q E, P' w a b Q E → P w a b Q E) : ∀ vs H Q E, pr2 P' vs H Q E → pr2 P vs H Q E := fun _ _ _ _ ⟨w, a, b, x, y, z⟩ => ⟨w, a, b, x, y, h _ _ _ _ _ z⟩
end G
namespace G
open PySem L2
def pr5 (P : Wd → V → V → V → V → V → VK → XK → Prop) : L2.Sp := fun vs H Q E => ∃ (w : Wd) (a b c d e : V), w.H = H ∧ vs = [a, b, c, d, e] ∧ P w a b c d e Q E
section
variable {vs : List V} {H : Hp} {Q : VK} {E : XK} {w : Wd} {a b c d e : V}
theorem len5 {P} (h : pr5 P vs H Q E) : vs.length = 5 := by obtain ⟨_, _, _, _, _, _, _, rfl, _⟩ := h; rfl
theorem s_pr5 {P} (h : P w a b c d e Q E) : pr5 P ([a, b, c, d, e] ++ []) w.H Q E := ⟨w, a, b, c, d, e, rfl, rfl, h⟩
theorem s_pm4 {P} (h : P w a b c d Q E) : pr4 P (a :: ([b, c, d] ++ [])) w.H Q E := ⟨w, a, b, c, d, rfl, rfl, h⟩
theorem s_pm5 {P} (h : P w a b c d e Q E) : pr5 P (a :: ([b, c, d, e] ++ [])) w.H Q E := ⟨w, a, b, c, d, e, rfl, rfl, h⟩
theorem s_pq1 {P} (h : P w a Q E) : pr1 P [a] w.H Q E := ⟨w, a, rfl, rfl, h⟩
theorem s_pq2 {P} (h : P w a b Q E) : pr2 P [a, b] w.H Q E := ⟨w, a, b, rfl, rfl, h⟩
end
/-- a raise of N(b), from w, m touched -/
def Rz (m : Addr → Prop) (w : Wd) (N : Addr) (b : V) (E : XK) : Prop := ∀ v e, Ext m w v → w.H e = none → Own v e (.xd [(Str.ofString "found", b)]) → E (.ref N) (some e) v.H
theorem ins_lohi {lo hi n : Int} : ins ([(lo, hi)].filter ne2) n ↔ lo ≤ n ∧ n ≤ hi := by
  unfold ne2 ins
  by_cases c : lo ≤ hi
  · simp [c]
  · simp [c]
    omega
end G
set_option linter.all false
set_option maxRecDepth 100000
namespace G
open PySem L2 TL
abbrev NmOk := NmOk0
theorem NmOk0.tx {z : Str} (h : NmOk z) : Tx 8 z := ⟨by have := len_tl z; have := h.1; omega, fun c hc => by have := h.2.2 c hc; omega⟩
def sgl (c : Nat) : Str := ⟨#[c]⟩
theorem join_sgl : ∀ cs : List Nat, tl (Str.join (Str.ofString "") (cs.map sgl)) = cs
  | [] => rfl
  | [c] => rfl
  | c :: d :: r => by
    have ih := join_sgl (d :: r)
    show tl (sgl c ++ Str.ofString "" ++ Str.join (Str.ofString "") ((d :: r).map sgl)) = _
    rw [tl_append, tl_append, ih]
    rfl
theorem tx_sgl {cs : List Nat} (h : ∀ c ∈ cs, 97 ≤ c ∧ c ≤ 122) : ∀ z ∈ cs.map sgl, Tx 1 z := fun z hz => by
  obtain ⟨c, hc, rfl⟩ := List.mem_map.mp hz
  exact Tx.one (by have := h c hc; omega)
theorem cut_mapF {α : Type} {f : α → V} {xs : List α} {a b : Int} (ha : 0 ≤ a) : ∃ k, cutV (xs.map f) (some a) (some b) = ((xs.drop a.toNat).take k).map f := by
  unfold cutV
  rw [List.length_map]
  refine ⟨HT.sIx xs.length xs.length (some b) - HT.sIx xs.length 0 (some a), ?_⟩
  · rw [List.map_take, List.map_drop]
    have e : HT.sIx xs.length 0 (some a) = min a.toNat xs.length := by
      obtain ⟨n, rfl⟩ := Int.eq_ofNat_of_zero_le ha
      exact HT.sIx_nat _ _ _
    rw [e]
    by_cases c : a.toNat ≤ xs.length
    · rw [Nat.min_eq_left c]
    · rw [Nat.min_eq_right (by omega), List.drop_of_length_le (by rw [List.length_map]; omega), List.drop_of_length_le (by rw [List.length_map]; omega)]
theorem cut_mapT {α : Type} {f : α → V} {xs : List α} {b : Int} (hb : 0 ≤ b) : cutV (xs.map f) none (some b) = (xs.take b.toNat).map f := by rw [cut_to hb, List.map_take]
theorem letters_tl : tl (Str.ofString "abcdefghijklmnopqrstuvwxyz") = (List.range 26).map (97 + ·) := by decide +kernel
theorem letter_at {j c : Nat} (h : (tl (Str.ofString "abcdefghijklmnopqrstuvwxyz"))[j]? = some c) : c = 97 + j ∧ j < 26 := by
  rw [letters_tl, List.getElem?_map] at h
  obtain ⟨k, hk, rfl⟩ := Option.map_eq_some_iff.mp h
  have hj : j < 26 := by
    by_cases c : j < 26
    · exact c
    · rw [List.getElem?_eq_none (by rw [List.length_range]; omega)] at hk; cases hk
  rw [List.getElem?_range hj] at hk
  cases hk
  exact ⟨rfl, hj⟩
/-- names that differ in one sign, the heads alike -/
def NmInv (P : List Nat) (f s : Nat) (zs : List Str) : Prop := ∀ i z, zs[i]? = some z → NmOk z ∧ ∃ post, tl z = P ++ (97 + (f + s * i) % 26) :: post
theorem NmInv.nil {P : List Nat} {f s : Nat} : NmInv P f s [] := fun i z h => by simp at h
theorem NmInv.snoc {P : List Nat} {f s : Nat} {zs : List Str} {z : Str} (h : NmInv P f s zs) (ok : NmOk z) (e : ∃ post, tl z = P ++ (97 + (f + s * zs.length) % 26) :: post) : NmInv P f s (zs ++ [z]) := fun i y hy => by
  by_cases c : i < zs.length
  · rw [List.getElem?_append_left c] at hy
    exact h i y hy
  · rw [List.getElem?_append_right (by omega)] at hy
    have hi : i - zs.length = 0 := by
      cases hh : i - zs.length with
      | zero => rfl
      | succ n => rw [hh] at hy; simp at hy
    rw [hi] at hy
    cases hy
    rw [show i = zs.length by omega]
    exact ⟨ok, e⟩
theorem step_inj {f s i j : Nat} (hs : s ∈ [1, 3, 5, 7, 9, 11, 15, 17, 19, 21, 23, 25]) (hi : i < 26) (hj : j < 26) (h : (f + s * i) % 26 = (f + s * j) % 26) : i = j := by
  simp only [List.mem_cons, List.not_mem_nil, or_false] at hs
  rcases hs with rfl | rfl | rfl | rfl | rfl | rfl | rfl | rfl | rfl | rfl | rfl | rfl <;> omega
theorem NmInv.nodup {P : List Nat} {f s : Nat} {zs : List Str} (h : NmInv P f s zs) (hs : s ∈ [1, 3, 5, 7, 9, 11, 15, 17, 19, 21, 23, 25]) (hl : zs.length ≤ 26) : zs.Nodup := by
  refine List.pairwise_iff_getElem.mpr fun i j hi hj hij e => ?_
  have h1 : zs[i]? = some zs[i] := List.getElem?_eq_getElem hi
  have h2 : zs[j]? = some zs[j] := List.getElem?_eq_getElem hj
  obtain ⟨_, p1, q1⟩ := h _ _ h1
  obtain ⟨_, p2, q2⟩ := h _ _ h2
  rw [e, q2] at q1
  have h3 := List.append_cancel_left q1
  have h4 := (List.cons.inj h3).1
  have := step_inj hs (by omega) (by omega) (show (f + s * i) % 26 = (f + s * j) % 26 by omega)
  omega
/-- what the drawn names are -/
def NmsOk (zs : List Str) (m : Int) : Prop := zs.length = m.toNat ∧ (∀ z ∈ zs, NmOk z) ∧ (m ≤ 26 → zs.Nodup)
theorem join_sz {cs : List Nat} (hc : ∀ c ∈ cs, 97 ≤ c ∧ c ≤ 122) (hl : cs.length ≤ 1000) : ((cs.map sgl).map (·.length)).sum + (cs.map sgl).length * (Str.ofString "").length ≤ 16777216 := by
  have h1 := tx_sum (tx_sgl hc)
  have h2 : (Str.ofString "").length = 0 := (by decide +kernel)
  rw [h2]
  rw [List.length_map] at h1
  omega
end G
namespace G
open PySem L2
section
variable {w : Wd}
/-- a comprehension over any walk, its items told by rows, some left out -/
theorem lc_any {α : Type} {rows : List α} {J : It} {n : Nat} {G : Wd → Prop} {Y : Nat → Wd → V → Wd → Prop} (k : WWalk J n G Y) {g : TG} {tt : TT} {te : TE} {js : List Nat} {σ : L2.St} {D : Addr} {Qd : Hp → Prop} (f : α → Bool) (gd : α → PyData) (hD : w.H D = none)
    (hlen : rows.length = n) (hz : n < sizeLine) (hY : ∀ i u x v, i < n → Y i u x v → Ext Non u v) (hG : ∀ u, Ext (One D) w u → G u)
    (hs : ∀ i x q u v, i < n → Y i u x v → rows[i]? = some q → Ext (One D) w u → Ext (One D) w v → ∀ (R : VK) (Z : Hp → Prop), (∀ t y, Ext Non v t → f q = true → Rp t.S y (gd q) → R y t.H) → (∀ t, Ext Non v t → f q = false → Z t.H) →
      g x (wipe σ js) v.H fun σ2 H2 => wipe σ2 js = wipe σ js ∧ tt σ2 H2 fun b H3 => if b = true then te σ2 H3 R else Z H3)
    (hd : ∀ u acc, Ext Non w u → w.H D = none → Own u D (.lst acc) → RpA u.S acc ((rows.filter f).map gd) → Qd u.H) :
    ∃ W : Nat → Nat → Hp → Prop, (∃ m, W 0 m (upd w.H D (.lst []))) ∧ ∀ i m H, W i m H →
      (J.stop i H ∧ Qd H) ∨ (J.go i H ∧ ∃ Nx : Hp → Prop, (∀ H', Nx H' → ∃ m', m' < m ∧ W (i + 1) m' H') ∧ ∀ x H', J.yld i H x H' → g x (wipe σ js) H' fun σ2 H2 => wipe σ2 js = wipe σ js ∧ tt σ2 H2 fun b H3 =>
        if b = true then te σ2 H3 fun y H4 => ∃ acc, H4 D = some (.lst acc) ∧ acc.length < sizeLine ∧ Nx (upd H4 D (.lst (acc ++ [y]))) else Nx H3) := by
  refine lcW k (fun i u acc => Ext (One D) w u ∧ RpA u.S acc (((rows.take i).filter f).map gd)) hD (fun u e o => ⟨e.more fun _ z => z.elim, .nil⟩) (fun i u acc _ p => hG u p.1) ?_ ?_
  · rintro i x u0 u acc hi o ⟨e0, ha0⟩ hy
    have ey := hY _ _ _ _ hi hy
    have e := e0.step ey fun _ z => z.elim
    have ha2 := ha0.go ey
    have o := o.ext ey fun z => z
    have hi' : i < rows.length := by omega
    have ht : rows.take (i + 1) = rows.take i ++ [rows[i]] := by rw [List.take_add_one, List.getElem?_eq_getElem hi']; rfl
    have hal : acc.length < sizeLine := by
      have h1 := ha2.length
      rw [List.length_map] at h1
      have h2 := List.length_filter_le f (rows.take i)
      rw [List.length_take] at h2
      omega
    refine hs i x rows[i] u0 u hi hy (List.getElem?_eq_getElem hi') e0 e _ _ (fun t y et hf hy => ?_) (fun t et hf => ?_)
    · refine lc_put (o.ext et fun z => z) hal fun z ez oz => ⟨(e.step et fun _ z => z.elim).step ez fun l hl => .inr hl, ?_⟩
      rw [ht, List.filter_append, List.filter_cons_of_pos hf, List.filter_nil, List.map_append]
      exact RpA.append ((ha2.go et).go ez) (.one (hy.go ez))
    · refine lcN_i (o.ext et fun z => z) ⟨e.step et fun _ z => z.elim, ?_⟩
      rw [ht, List.filter_append, List.filter_cons_of_neg (by rw [hf]; decide), List.filter_nil, List.append_nil]
      exact ha2.go et
  · rintro u acc ⟨e, ha2⟩ o
    rw [List.take_of_length_le (by omega)] at ha2
    exact hd u acc (e.more fun l hl => .inl (by rw [show l = D from hl]; exact hD)) hD o ha2
end
end G
set_option linter.all false
set_option maxRecDepth 100000
set_option maxHeartbeats 1000000
namespace L2
open PySem PySem.Spec PyProof.Rows
def rIsKT (K : PySem.W.Frag) : List V → Hp → VK → Prop := fun xs H Q => ∃ (a E dd tp : Addr) (fs : List (Str × V)) (cs : List V) (us : List Value) (b : Bool), xs = [.ref a, .ref tp] ∧ H a = some (exk a (.ref E) (some dd)) ∧ ExcC K E ∧ H tp = some (.tup cs) ∧ Paired ClsV cs us ∧ PySem.W.kitAny K (.ref E) us = some b ∧
  H dd = some (.xd fs) ∧ Q (.bl b) H
theorem call_isKT {X : Cx} : CallR X (.builtin "isinstance") (rIsKT X.K) := by
  intro pins s σ H xs us Q I r h
  obtain ⟨a, E, dd, tp, fs, cs, ws, b, rfl, hk, C, hT, k, e, ea, q⟩ := h
  cases r with
  | cons rx rr =>
    cases rr with
    | cons rt rr =>
      cases rr
      cases rx
      cases (show _ = Value.ref tp from rt)
      obtain ⟨oe, hget, hz, vs, hv⟩ := exk_at I.hok hk
      have hx : ObjOk X.prog X.w H s.heap dd (.xd fs) := I.hok dd _ ea
      obtain ⟨mA, hns, hr⟩ := hx
      obtain ⟨od, ho, hlk⟩ := lookIn_ns hns
      have J : PySem.W.InstAt s.heap a oe E (some od) := ⟨hget, hz.1, by unfold PySem.W.notCls; rw [hv] <;> rfl, by rw [hz.2]; exact ho⟩
      obtain ⟨cd, hcl, _⟩ := PySem.W.any_some C.hd
      obtain ⟨_, its, rv, o, h1, h2, n, h3⟩ := (show ObjOk X.prog X.w H s.heap tp (.tup cs) from I.hok tp _ hT)
      have e3 := ClsV.all k rv
      subst e3
      obtain ⟨oc, od2, dt, sl⟩ := o
      simp only at h2 h3
      subst h2 h3
      exact PySem.W.kia_tup (PySem.W.kitx_exc (by rw [hcl]; rfl) C.hg C.hk C.hs C.ha C.hn C.ht C.hm) I.kIn J h1 e (fun z => nomatch z) fun tk => ⟨.bl b, H, I.kept (t' := tk) fun _ _ z => z, rfl, q⟩
end L2
namespace G
open PySem L2 PyProof.Rows
def rIsiKT (K : PySem.W.Frag) : List V → Hp → VK → Prop := fun xs H Q => rIsiT K xs H Q ∨ rIsKT K xs H Q
theorem kIsiKT {X : Cx} (K : PySem.W.Frag) (eK : X.K = K := by rfl) : CallR X (.builtin "isinstance") (rIsiKT K) := by
  subst eK
  intro pins s σ H xs us Q I r h
  rcases h with h | h
  · exact call_isiT pins s σ H xs us Q I r h
  · exact call_isKT pins s σ H xs us Q I r h
/-- what isinstance with a tuple of own classes answers -/
inductive KitL (K : PySem.W.Frag) (E : Value) : List V → Bool → Prop
  | nil : KitL K E [] false
  | cons {C : Addr} {cs : List V} {b1 b2 : Bool} : PySem.W.kitOne K E (.ref C) = some b1 → KitL K E cs b2 → KitL K E (.ref C :: cs) (b1 || b2)
theorem KitL.out {K : PySem.W.Frag} {E : Value} {cs : List V} {b : Bool} (h : KitL K E cs b) : ∃ us, Paired ClsV cs us ∧ PySem.W.kitAny K E us = some b := by
  induction h with
  | nil => exact ⟨[], .nil, rfl⟩
  | @cons C cs b1 b2 h1 _ ih =>
    obtain ⟨us, p, e⟩ := ih
    refine ⟨.ref C :: us, .cons (.own C) p, ?_⟩
    unfold PySem.W.kitAny
    rw [h1]
    cases b1 with
    | true => rfl
    | false => exact e
section
variable {K : PySem.W.Frag} {w : Wd} {a dd C tp : Addr} {fs : List (Str × V)} {cs : List V} {b : Bool} {Q : VK}
theorem s_isKT (ec : ExcC K C) (s : w.S tp = some (.tup cs)) (e : KitL K (.ref C) cs b) (h1 : w.H a = some (exk a (.ref C) (some dd))) (h2 : w.H dd = some (.xd fs)) (k : Q (.bl b) w.H) : rIsiKT K [.ref a, .ref tp] w.H Q := by
  obtain ⟨us, p, e⟩ := e.out
  exact .inr ⟨a, C, dd, tp, fs, cs, us, b, rfl, h1, ec, w.ok _ _ s, p, e, h2, k⟩
end
end G
set_option linter.all false
set_option maxRecDepth 100000
namespace G
open PySem PySem.Spec L2 TL PyProof.Rows
def leS (a b : Str) : Prop := ¬ b.cps.toList < a.cps.toList
theorem rising_pw : ∀ (l : List Str) (p : Str), risingS p l = true → (p :: l).Pairwise leS
  | [], p, _ => by simp
  | x :: r, p, h => by
    have h' : (!ltCps x.cps.toList p.cps.toList && risingS x r) = true := h
    rw [Bool.and_eq_true, ltCps_eq] at h'
    have hx : leS p x := by
      have := h'.1
      simp only [Bool.not_eq_true', decide_eq_false_iff_not] at this
      exact this
    have ih := rising_pw r x h'.2
    refine List.pairwise_cons.mpr ⟨fun y hy => ?_, ih⟩
    rcases List.mem_cons.mp hy with rfl | hy
    · exact hx
    · have hxy : leS x y := (List.pairwise_cons.mp ih).1 y hy
      have h1 : p.cps.toList ≤ x.cps.toList := hx
      have h2 : x.cps.toList ≤ y.cps.toList := hxy
      exact List.le_trans h1 h2
theorem sorted_pw {l : List Str} (h : sortedS l = true) : l.Pairwise leS := by
  cases l with
  | nil => exact .nil
  | cons x r => exact rising_pw r x h
theorem leS_anti {a b : Str} (h1 : leS a b) (h2 : leS b a) : a = b := by
  have e : a.cps.toList = b.cps.toList := List.le_antisymm (show a.cps.toList ≤ b.cps.toList from h1) h2
  obtain ⟨⟨x⟩⟩ := a
  obtain ⟨⟨y⟩⟩ := b
  have : x = y := e
  rw [this]
theorem sortedS_uniq {l k : List Str} (h1 : sortedS l = true) (h2 : sortedS k = true) (p : l.Perm k) : l = k :=
  p.eq_of_pairwise (fun a b _ _ => leS_anti) (sorted_pw h1) (sorted_pw h2)
inductive AllR {β : Type} (P : V → β → Prop) : List V → List β → Prop
  | nil : AllR P [] []
  | cons {v : V} {b : β} {vs : List V} {bs : List β} : P v b → AllR P vs bs → AllR P (v :: vs) (b :: bs)
section
variable {β : Type} {P P' : V → β → Prop}
theorem AllR.mono (h : ∀ v b, P v b → P' v b) : ∀ {vs : List V} {bs : List β}, AllR P vs bs → AllR P' vs bs
  | _, _, .nil => .nil
  | _, _, .cons a t => .cons (h _ _ a) (t.mono h)
theorem AllR.snoc {v : V} {b : β} (p : P v b) : ∀ {vs : List V} {bs : List β}, AllR P vs bs → AllR P (vs ++ [v]) (bs ++ [b])
  | _, _, .nil => .cons p .nil
  | _, _, .cons a t => .cons a (t.snoc p)
theorem AllR.len : ∀ {vs : List V} {bs : List β}, AllR P vs bs → vs.length = bs.length
  | _, _, .nil => rfl
  | _, _, .cons _ t => by rw [List.length_cons, List.length_cons, t.len]
end
section
variable {w : Wd}
/-- a comprehension over any walk, its items told by a relation that lasts; m touched by them -/
theorem lc_rel {α β : Type} {rows : List α} {J : It} {n : Nat} {G : Wd → Prop} {Y : Nat → Wd → V → Wd → Prop} (k : WWalk J n G Y) (P : Wd → V → β → Prop) (hP : ∀ m u v x b, Ext m u v → P u x b → P v x b) (bs : List β) (m : Addr → Prop) (I : Wd → Prop) {g : TG} {te : TE} {js : List Nat} {σ : L2.St} {D : Addr} {Qd : Hp → Prop} (hD : w.H D = none) (hmD : ¬ m D)
    (hlen : bs.length = n) (hz : n < sizeLine) (hI0 : ∀ u, Ext Non w u → I u) (hI : ∀ u v, I u → Ext (One D) u v → I v) (hY : ∀ i u x v, i < n → I u → Y i u x v → Ext Non u v ∧ I v) (hG : ∀ u, Ext (fun l => m l ∨ l = D) w u → I u → G u)
    (hs : ∀ i x b u v, i < n → Y i u x v → bs[i]? = some b → Ext (fun l => m l ∨ l = D) w u → Ext (fun l => m l ∨ l = D) w v → I v → ∀ (R : VK) (Z : Hp → Prop), (∀ t y, Ext m v t → I t → P t y b → R y t.H) →
      g x (wipe σ js) v.H fun σ2 H2 => wipe σ2 js = wipe σ js ∧ tYes σ2 H2 fun b H3 => if b = true then te σ2 H3 R else Z H3)
    (hd : ∀ u acc, Ext m w u → I u → w.H D = none → Own u D (.lst acc) → AllR (P u) acc bs → Qd u.H) :
    ∃ W : Nat → Nat → Hp → Prop, (∃ m, W 0 m (upd w.H D (.lst []))) ∧ ∀ i m H, W i m H →
      (J.stop i H ∧ Qd H) ∨ (J.go i H ∧ ∃ Nx : Hp → Prop, (∀ H', Nx H' → ∃ m', m' < m ∧ W (i + 1) m' H') ∧ ∀ x H', J.yld i H x H' → g x (wipe σ js) H' fun σ2 H2 => wipe σ2 js = wipe σ js ∧ tYes σ2 H2 fun b H3 =>
        if b = true then te σ2 H3 fun y H4 => ∃ acc, H4 D = some (.lst acc) ∧ acc.length < sizeLine ∧ Nx (upd H4 D (.lst (acc ++ [y]))) else Nx H3) := by
  refine lcW k (fun i u acc => Ext (fun l => m l ∨ l = D) w u ∧ I u ∧ AllR (P u) acc (bs.take i)) hD (fun u e o => ⟨e.more fun _ z => z.elim, hI0 u e, .nil⟩) (fun i u acc _ p => hG u p.1 p.2.1) ?_ ?_
  · rintro i x u0 u acc hi o ⟨e0, i0, ha0⟩ hy
    obtain ⟨ey, iu⟩ := hY _ _ _ _ hi i0 hy
    have e : Ext (fun l => m l ∨ l = D) w u := e0.step ey fun _ z => z.elim
    have ha2 : AllR (P u) acc (bs.take i) := ha0.mono fun v b p => hP _ _ _ _ _ ey p
    have o := o.ext ey fun z => z
    have hi' : i < bs.length := by omega
    have ht : bs.take (i + 1) = bs.take i ++ [bs[i]] := by rw [List.take_add_one, List.getElem?_eq_getElem hi']; rfl
    have hal : acc.length < sizeLine := by
      have h1 := ha2.len
      rw [List.length_take] at h1
      omega
    refine hs i x bs[i] u0 u hi hy (List.getElem?_eq_getElem hi') e0 e iu _ _ fun t y et it hy => ?_
    refine lc_put (o.ext et hmD) hal fun z ez oz => ⟨(e.step et fun l hl => .inr (.inl hl)).step ez fun l hl => .inr (.inr hl), hI t z it ez, ?_⟩
    rw [ht]
    exact (ha2.mono fun v b p => hP _ _ _ _ _ ez (hP _ _ _ _ _ et p)).snoc (hP _ _ _ _ _ ez hy)
  · rintro u acc ⟨e, iu, ha2⟩ o
    rw [List.take_of_length_le (by omega)] at ha2
    exact hd u acc (e.more fun l hl => hl.elim .inr fun h => .inl (by rw [h]; exact hD)) iu hD o ha2
end
section
variable {w : Wd} {a : Addr} {kvs : List (Key × V)} {σ : L2.St} {Q : VK}
theorem s_lockE {t : TE} (o : Own w a (.dK kvs)) (k : ∀ od v, Ext (One a) w v → Own v a (.frz od (.dK kvs)) → t σ v.H fun x H' => H' a = some (.frz od (.dK kvs)) ∧ Q x (upd H' a (.dK kvs))) : tLockE t σ w.H Q :=
  ⟨a, .dK kvs, o.h, trivial, fun od => put (R := fun H => t σ H fun x H' => H' a = some (.frz od (.dK kvs)) ∧ Q x (upd H' a (.dK kvs))) o fun v e o => k od v e o⟩
/-- pairs that stand as tuples -/
theorem pairs_of {K : PySem.W.Frag} {P : V → (Key × V) → Prop} {H : Hp} (hp : ∀ x b, P x b → ∃ p, x = .ref p ∧ SqT K H p [kV b.1, b.2]) : ∀ {vs : List V} {bs : List (Key × V)}, AllR P vs bs → ∃ ps, vs = ps.map V.ref ∧ Paired (fun p kv => SqT K H p [kV kv.1, kv.2]) ps bs
  | _, _, .nil => ⟨[], rfl, .nil⟩
  | _, _, .cons a t => by
    obtain ⟨ps, rfl, h⟩ := pairs_of hp t
    obtain ⟨p, rfl, s⟩ := hp _ _ a
    exact ⟨p :: ps, rfl, .cons s h⟩
end
/-- a pair (place, table) stands at x -/
def PairT (C : Addr) (u : Wd) (x : V) (b : Str × List (Int × Int)) : Prop := ∃ p v, x = .ref p ∧ u.S p = some (.tup [.str b.1, v]) ∧ TbS C u.S v b.2 ∧ TabOk b.2
theorem PairT.go {C : Addr} : ∀ (m : Addr → Prop) (u v : Wd) (x : V) (b : Str × List (Int × Int)), Ext m u v → PairT C u x b → PairT C v x b := fun m u v x b e ⟨p, y, h1, h2, h3, h4⟩ => ⟨p, y, h1, st_go e h2, TbS.go e h3, h4⟩
theorem pairs_T {C : Addr} {u : Wd} : ∀ {vs : List V} {T : Tabs}, AllR (PairT C u) vs T → ∃ kvs, TbA C u.S kvs T ∧ AllR (fun x (kv : Key × V) => ∃ p, x = .ref p ∧ u.S p = some (.tup [kV kv.1, kv.2])) vs kvs
  | _, _, .nil => ⟨[], .nil, .nil⟩
  | _, _, .cons (b := b) a t => by
    obtain ⟨kvs, h1, h2⟩ := pairs_T t
    obtain ⟨p, v, rfl, h3, h4, h5⟩ := a
    exact ⟨(.inr b.1, v) :: kvs, .cons ⟨h4, h5⟩ h1, .cons ⟨p, rfl, h3⟩ h2⟩
/-- sorted(d), d a dict by texts, fewer than 64 -/
def rSortDT : List V → Hp → VK → Prop := fun xs H Q => ∃ (a : Addr) (kvs : List (Key × V)) (ks : List Str), xs = [.ref a] ∧ L2.Rd H a (.dK kvs) ∧ kvs.map (·.1) = ks.map Sum.inr ∧ ks.length < 64 ∧ ∀ (ys : List Str) (p : Addr), ys.Perm ks → sortedS ys = true → H p = none → Q (.ref p) (upd H p (.lst (ys.map V.str)))
theorem kSortDT {X : Cx} (hc : X.calm = true) : CallR X (.builtin "sorted") rSortDT := call_sortedD hc
/-- dict(pairs) -/
def rDictP (K : PySem.W.Frag) : List V → Hp → VK → Prop := fun xs H Q => ∃ (a : Addr) (ps : List Addr) (kvs : List (Key × V)), xs = [.ref a] ∧ SqL K H a (ps.map V.ref) ∧ Paired (fun p kv => SqT K H p [kV kv.1, kv.2]) ps kvs ∧ ∀ p, H p = none → Q (.ref p) (upd H p (.dK (mergeK [] kvs)))
theorem kDictP {X : Cx} (K : PySem.W.Frag) (hc : X.calm = true) (e : X.K = K := by rfl) : CallR X (.type "dict") (rDictP K) := e ▸ call_dictP hc
def gDP2 (a : Addr) (y : V) (H2 : Hp) (Q : VK) : Prop := ∃ kvs k v, H2 a = some (.dK kvs) ∧ y = kV k ∧ valV kvs k = some v ∧ Q v (upd H2 a (.dK (dropK kvs k)))
def gDP (ty : TE) (σ : L2.St) (x : V) (H1 : Hp) (Q : VK) : Prop := ∃ a, x = .ref a ∧ IsD H1 a ∧ ty σ H1 fun y H2 => gDP2 a y H2 Q
section
variable {K : PySem.W.Frag} {w : Wd} {a : Addr} {Q : VK} {kvs : List (Key × V)} {ks : List Str} {σ : L2.St} {H : Hp} {td ty : TE} {z : Str} {v : V}
theorem s_sortDT (o : w.H a = some (.dK kvs)) (hk : kvs.map (·.1) = ks.map Sum.inr) (hl : ks.length < 64) (k : ∀ ys p v, ys.Perm ks → sortedS ys = true → Ext Non w v → w.H p = none → v.S p = some (.lst (ys.map V.str)) → Q (.ref p) v.H) : rSortDT [.ref a] w.H Q :=
  ⟨a, kvs, ks, rfl, .inl o, hk, hl, fun ys p h1 h2 => newS (Q := Q) (fun p v e n s => k ys p v h1 h2 e n s) p⟩
theorem s_dictP {ps : List Addr} (h : SqL K w.H a (ps.map V.ref)) (hp : Paired (fun p (kv : Key × V) => SqT K w.H p [kV kv.1, kv.2]) ps kvs) (hn : (kvs.map (·.1)).Nodup) (k : ∀ p v, Ext Non w v → w.H p = none → Own v p (.dK kvs) → Q (.ref p) v.H) : rDictP K [.ref a] w.H Q :=
  ⟨a, ps, kvs, rfl, h, hp, by rw [mergeK_nd hn]; exact newO (Q := Q) fun p v e n o => k p v e n o⟩
theorem s_dp (k : td σ H fun x H1 => gDP ty σ x H1 Q) : tDPop1 td ty σ H Q := k
theorem s_gdp (o : Own w a (.dK kvs)) (k : ty σ w.H fun y H2 => gDP2 a y H2 Q) : gDP ty σ (.ref a) w.H Q := ⟨a, rfl, .inl ⟨kvs, .inl o.h⟩, k⟩
theorem s_gdp2 (o : Own w a (.dK kvs)) (e : valV kvs (.inr z) = some v) (k : ∀ u, Ext (One a) w u → Own u a (.dK (dropK kvs (.inr z))) → Q v u.H) : gDP2 a (.str z) w.H Q :=
  ⟨kvs, .inr z, v, o.h, rfl, e, put (R := fun H => Q v H) o k⟩
theorem s_ixB {b : Bool} {x y : V} (h : w.S a = some (.lst [x, y])) (k : ∀ z, (b = false → z = x) → (b = true → z = y) → Q z w.H) : gIx K (.ref a) (.int (if b = true then 1 else 0)) w.H Q := by
  cases b
  · exact s_ixL h rfl (k _ (fun _ => rfl) (fun z => by cases z))
  · exact s_ixL h rfl (k _ (fun z => by cases z) (fun _ => rfl))
end
theorem rpa_strs {S : Hp} : ∀ zs : List Str, RpA S (zs.map V.str) (zs.map PyData.str)
  | [] => .nil
  | z :: r => .cons (.str z) (rpa_strs r)
end G
set_option Elab.async false
set_option linter.all false
set_option maxRecDepth 100000
set_option maxHeartbeats 4000000
open PySem L2 G TL NumText
local macro_rules | `(tactic| wtm_at "nm") => `(tactic| first
  | exact fun h => h
  | (refine nm_one ?_; wtm_at "ne")
  | (refine nm_two ?_ ?_ <;> wtm_at "ne")
  | (refine nm_thr ?_ ?_ ?_ <;> wtm_at "ne")
  | fail "nm")
local macro_rules | `(tactic| wtm_at "rd0") => `(tactic| first
  | assumption
  | (refine' Rd.go (by assumption) ?nm ?rd; (case nm => wtm_at "nm"); (case rd => wtm_at "rd0"))
  | fail "rd0")
local macro_rules | `(tactic| wtm_at "rd") => `(tactic| first
  | wtm_at "rd0"
  | (refine' Or.inl ?o; (case o => wtm_at "stb"))
  | (refine' Or.inr ?o; (case o => wtm_at "own"))
  | fail "rd")
local macro_rules | `(tactic| wtm_at "ne") => `(tactic| first
  | assumption
  | exact Ne.symm (by assumption)
  | (refine' Own.ne ?o ?n; (case n => assumption); (case o => wtm_at "own"))
  | (refine' Own.ne' ?o ?n; (case n => assumption); (case o => wtm_at "own"))
  | (refine' own_ne ?o1 ?o2 ?d; (case o1 => assumption); (case o2 => assumption); (case d => exact fun z => by cases z))
  | (refine' Rd.ne ?o ?n; (case n => assumption); (case o => wtm_at "rd0"))
  | (refine' Rd.ne' ?o ?n; (case n => assumption); (case o => wtm_at "rd0"))
  | fail "ne")
local macro_rules | `(tactic| wtm_at "own") => `(tactic| first
  | assumption
  | (refine' Own.ext (by assumption) ?nm ?ow; (case nm => wtm_at "nm"); (case ow => wtm_at "own"))
  | fail "own")
local macro_rules | `(tactic| wtm_at "stb") => `(tactic| first
  | assumption
  | (refine' st_go (by assumption) ?st; (case st => wtm_at "stb"))
  | fail "stb")
local macro_rules | `(tactic| wtm_at "rp") => `(tactic| first
  | assumption
  | exact Rp.int _ | exact Rp.str _ | exact Rp.bl _ | exact Rp.non
  | (refine' Rp.tup ?s ?r; (case s => wtm_at "stb"); (case r => wtm_at "rpa"))
  | (refine' Rp.lst ?s ?r; (case s => wtm_at "stb"); (case r => wtm_at "rpa"))
  | (refine' Rp.dct ?s; (case s => wtm_at "stb"))
  | (refine' Rp.go (by assumption) ?rp; (case rp => wtm_at "rp"))
  | fail "rp")
local macro_rules | `(tactic| wtm_at "rpa") => `(tactic| first
  | assumption
  | exact RpA.nil
  | (refine' RpA.append ?r1 ?r2; (case r1 => wtm_at "rpa"); (case r2 => wtm_at "rpa"))
  | (refine' RpA.cut ?r1 _ _; (case r1 => wtm_at "rpa"))
  | (refine' RpA.reverse ?r1; (case r1 => wtm_at "rpa"))
  | (refine' RpA.cons ?r1 ?r2; (case r1 => wtm_at "rp"); (case r2 => wtm_at "rpa"))
  | (refine' RpA.go (by assumption) ?rp; (case rp => wtm_at "rpa"))
  | fail "rpa")
local macro_rules | `(tactic| wtm_at "sq") => `(tactic| first
  | assumption
  | (refine' SqL.of (Wd.ok _ _ _ ?o); (case o => wtm_at "stb"))
  | (refine' SqL.of (Own.h ?o); (case o => wtm_at "own"))
  | (refine' sq_go (by assumption) ?sq; (case sq => wtm_at "sq"))
  | (refine' SqL.of (Rd.h ?o); (case o => wtm_at "rd0"))
  | fail "sq")
local macro_rules | `(tactic| wtm_at "sqt") => `(tactic| first
  | assumption
  | (refine' sqt_of ?o; (case o => wtm_at "stb"))
  | fail "sqt")
/-- from the world w at hand back to an earlier one: the touched cells are new to it, or may be touched -/
local macro_rules | `(tactic| wtm_at "fr") => `(tactic| first
  | assumption
  | (refine' Ext.back (by assumption) ?fr; (case fr => wtm_at "fr"))
  | fail "fr")
local macro_rules | `(tactic| wtm_at "tch") => `(tactic| first
  | exact fun _ z => z.elim
  | (refine tch_one ?t; (first | (refine Or.inr ?_; first | rfl | exact Or.inl rfl | exact Or.inr rfl | exact Or.inr (Or.inl rfl) | exact Or.inr (Or.inr rfl)) | (refine Or.inl ?_; wtm_at "fr")))
  | (refine tch_two ?t1 ?t2 <;> (first | (refine Or.inr ?_; first | rfl | exact Or.inl rfl | exact Or.inr rfl | exact Or.inr (Or.inl rfl) | exact Or.inr (Or.inr rfl)) | (refine Or.inl ?_; wtm_at "fr")))
  | (refine tch_thr ?t1 ?t2 ?t3 <;> (first | (refine Or.inr ?_; first | rfl | exact Or.inl rfl | exact Or.inr (Or.inl rfl) | exact Or.inr (Or.inr rfl)) | (refine Or.inl ?_; wtm_at "fr")))
  | fail "tch")
local macro_rules | `(tactic| wtm_at "ch") => `(tactic| first
  | exact Ext.refl _ _
  | assumption
  | (refine' Ext.step ?a ?b ?t; (case b => assumption); (case a => wtm_at "ch"); (case t => wtm_at "tch"))
  | fail "ch")
local macro_rules | `(tactic| wtm_at "lb") => `(tactic| first
  | (refine' len_app ?a ?b; (case a => wtm_at "lb"); (case b => wtm_at "lb"))
  | (refine' len_cut ?a; (case a => wtm_at "lb"))
  | (refine' len_rev ?a; (case a => wtm_at "lb"))
  | exact Nat.le_refl _
  | fail "lb")
local macro_rules | `(tactic| wtm_at "ar") => `(tactic| first
  | assumption | omega | (simp only [List.length_append, List.length_cons, List.length_nil, List.length_map, List.length_reverse, List.length_replicate, sizeLine_eq]; omega)
  | (refine' z_cat ?h1 ?h2 ?k; (case h1 => wtm_at "lb"); (case h2 => wtm_at "lb"); (case k => (simp only [List.length_append, List.length_cons, List.length_nil, List.length_map, List.length_reverse, sizeLine_eq]; omega)))
  | fail "ar")
local macro_rules | `(tactic| wtm_at "go1") => `(tactic| first
  | with_reducible refine s_seq ?_
  | with_reducible refine s_asg ?_
  | ((with_reducible refine' s_gname ?e ?k); (case e => first | (simp only [List.set_cons_succ, List.set_cons_zero]; exact rfl) | exact rfl))
  | ((with_reducible refine' s_var ?e ?k); (case e => exact rfl))
  | with_reducible refine s_c ?_
  | with_reducible refine s_op ?_
  | with_reducible refine s_CB ?_
  | with_reducible refine s_cons ?_
  | with_reducible refine s_nil ?_
  | with_reducible refine s_ifS ?_
  | with_reducible refine s_test ?_
  | with_reducible refine s_B ?_
  | with_reducible refine s_bl ?_
  | with_reducible refine s_and ?_
  | with_reducible refine s_or ?_
  | with_reducible refine s_not ?_
  | with_reducible refine s_andV ?_
  | with_reducible refine s_orV ?_
  | with_reducible refine s_notV ?_
  | with_reducible refine s_ret ?_
  | with_reducible refine s_retN ?_
  | with_reducible refine s_next ?_
  | with_reducible refine s_drop ?_
  | with_reducible refine s_call ?_
  | with_reducible refine s_add ?_
  | with_reducible refine s_sub ?_
  | ((with_reducible refine s_mul ?h ?k); (case h => wtm_at "mul"))
  | ((with_reducible refine s_div ?h ?k); (case h => wtm_at "div"))
  | ((with_reducible refine s_mod ?h ?k); (case h => wtm_at "ar"))
  | ((with_reducible refine' s_powN ?h ?e ?k); (case h => exact ⟨by decide, by decide, by decide⟩); (case e => first | exact p10_8 | exact p10_18 | exact p10_30 | exact p10_22 | exact p10_6 | exact p10_9 | exact p10_10 | exact p10_12 | exact p10_14 | exact p10_15 | exact p10_7 | exact p10_25 | exact p10_27 | exact p10_29 | exact p10_11 | exact p10_1 | exact p10_2 | exact p10_3 | exact p10_4 | exact p10_5 | exact p10_13 | exact p10_16 | exact p10_17 | exact p10_19 | exact p10_20 | exact p10_21 | exact p10_23 | exact p10_24 | exact p10_26 | exact p10_28 | exact p10_31))
  | with_reducible refine s_lt ?_
  | with_reducible refine s_le ?_
  | with_reducible refine s_gt ?_
  | with_reducible refine s_ge ?_
  | with_reducible refine s_eqI ?_
  | with_reducible refine s_eqS ?_
  | with_reducible refine s_eqB ?_
  | with_reducible refine s_neI ?_
  | with_reducible refine s_neS ?_
  | with_reducible refine s_neBs ?_
  | with_reducible refine s_isB ?_
  | with_reducible refine s_notB ?_
  | ((with_reducible refine' s_ninS2 ?r ?k); (case r => wtm_at "stb"))
  | with_reducible refine s_iEnum ?_
  | ((with_reducible refine' s_isiC ?h ?c ?i ?k); (case h => wtm_at "hh"); (case c => assumption); (case i => assumption))
  | with_reducible refine s_isNN ?_
  | with_reducible refine s_isIN ?_
  | with_reducible refine s_isRN ?_
  | with_reducible refine s_isSN ?_
  | with_reducible refine s_notNN ?_
  | with_reducible refine s_notIN ?_
  | with_reducible refine s_notRN ?_
  | with_reducible refine s_notSN ?_
  | with_reducible refine s_isN ?_
  | with_reducible refine s_notN ?_
  | with_reducible refine s_max ?_
  | ((with_reducible refine' s_str ?h ?k); (case h => exact log_small (by omega) (by omega)))
  | with_reducible refine s_min ?_
  | with_reducible refine s_abs ?_
  | with_reducible refine s_inti ?_
  | with_reducible refine s_intt ?_
  | with_reducible refine s_intf ?_
  | with_reducible refine s_intb ?_
  | with_reducible refine s_un ?_
  | with_reducible refine s_neg ?_
  | with_reducible refine t_tup ?_
  | with_reducible refine t_lst ?_
  | ((with_reducible refine' t_newT ?h ?k); (case h => wtm_at "len"); (intro _p _v _e _n _s))
  | ((with_reducible refine' t_newL ?h ?k); (case h => wtm_at "len"); (intro _p _v _e _n _o))
  | with_reducible refine s_chain ?_
  | with_reducible refine s_ifE ?_
  | with_reducible refine s_sl ?_
  | with_reducible refine s_nopart ?_
  | with_reducible refine s_part ?_
  | with_reducible refine s_int ?_
  | with_reducible refine s_dget ?_
  | with_reducible refine s_dput ?_
  | with_reducible refine s_BM ?_
  | with_reducible refine s_BM0 ?_
  | with_reducible refine s_for ?_
  | with_reducible refine s_iList ?_
  | with_reducible refine s_iTup ?_
  | with_reducible refine s_iRng1 ?_
  | with_reducible refine s_iStr ?_
  | with_reducible refine s_Lc ?_
  | with_reducible refine s_pr1 ?_
  | with_reducible refine s_pr2 ?_
  | with_reducible refine s_pr3 ?_
  | with_reducible refine s_pr4 ?_
  | with_reducible refine s_pr0 ?_
  | with_reducible refine wds_i ?_
  | wtm_at "isi"
  | ((with_reducible refine' s_lenT ?r ?k); (case r => wtm_at "stb"))
  | ((with_reducible refine' s_lenL ?r ?k); (case r => wtm_at "stb"))
  | ((with_reducible refine' s_lenO ?r ?k); (case r => wtm_at "own"))
  | ((with_reducible refine' s_ixT ?r ?e ?k); (case r => wtm_at "stb"); (case e => exact rfl))
  | ((with_reducible refine' s_ixL ?r ?e ?k); (case r => wtm_at "stb"); (case e => exact rfl))
  | ((with_reducible refine' s_ixO ?r ?e ?k); (case r => wtm_at "own"); (case e => exact rfl))
  | ((with_reducible refine' s_ixO ?r ?e ?k); (case r => wtm_at "own"); (case e => exact atI_snoc))
  | ((with_reducible refine' s_ixO ?r ?e ?k); (case r => wtm_at "own"); (case e => exact atI_back (by simp)))
  | ((with_reducible refine' s_gtup ?r ?e ?k); (case r => wtm_at "stb"); (case e => exact rfl))
  | ((with_reducible refine' s_lenR ?r ?k); (case r => wtm_at "rd0"))
  | ((with_reducible refine' s_ixA ?r ?e ?k); (case r => wtm_at "rd0"); (case e => assumption))
  | ((with_reducible refine' s_augA ?e ?e2 ?k); (case e => exact rfl); (case e2 => (simp only [List.set_cons_succ, List.set_cons_zero]; exact rfl)))
  | with_reducible refine s_whN ?_
  | ((with_reducible refine' s_fnv ?k); (intro _f _hf))
  | ((with_reducible refine' s_callH ?e ?h ?k); (case e => exact rfl); (case h => assumption))
  | with_reducible refine s_pn1 ?_
  | ((with_reducible refine' s_lenZ ?h ?k); (case h => wtm_at "txz"))
  | ((with_reducible refine' s_addZ ?h ?k); (case h => wtm_at "txs"))
  | ((with_reducible refine' s_slZ ?h ?k); (case h => wtm_at "txz"))
  | with_reducible refine s_inZ ?_
  | with_reducible refine s_ninZ ?_
  | with_reducible refine s_leZ ?_
  | with_reducible refine s_fld ?_
  | ((with_reducible refine' s_rfld ?h ?c ?n ?l ?k); (case h => wtm_at "hh"); (case c => assumption); (case n => assumption); (case l => wtm_at "lkp"))
  | with_reducible refine s_sfld ?_
  | ((with_reducible refine' s_rsfl ?h ?c ?n ?z ?e ?k); (case h => wtm_at "own"); (case c => assumption); (case n => assumption); (case z => (simp only [List.length_cons, List.length_nil]; try omega)); (case e => wtm_at "pf"); (intro _v _e _o))
  | with_reducible refine s_meth ?_
  | ((with_reducible refine' s_rmeth ?h ?l ?k); (case h => wtm_at "hh"); (case l => wtm_at "lkp"))
  | with_reducible refine s_make ?_
  | with_reducible refine s_pm1 ?_
  | with_reducible refine s_pm2 ?_
  | with_reducible refine s_pm3 ?_
  | ((with_reducible refine' s_isiT2 ?s ?h ?e1 ?e2 ?k); (case s => wtm_at "stb"); (case h => wtm_at "rp"); (case e1 => first | exact isT_list _ | exact isT_tup _); (case e2 => first | exact isT_list _ | exact isT_tup _))
  | with_reducible refine s_CKw ?_
  | with_reducible refine s_iRev ?_
  | with_reducible refine s_iZip ?_
  | ((with_reducible refine' s_iRevK ?h ?k); (case h => wtm_at "hh"))
  | ((with_reducible refine' s_ins0 ?r ?z ?k); (case r => wtm_at "own"); (case z => wtm_at "ar"); (intro _v _e _o))
  | ((with_reducible refine' s_pop ?r ?k); (case r => wtm_at "own"); (intro _v _e _o))
  | ((with_reducible refine' s_setB ?r ?k); (case r => wtm_at "own"); (intro _v _e _o))
  | with_reducible refine s_gcons ?_
  | with_reducible refine s_gnil ?_
  | with_reducible refine s_gsub ?_
  | with_reducible refine t_rev ?_
  | ((with_reducible refine' s_ty ?r ?k); (case r => wtm_at "own"))
  | with_reducible refine s_tyS ?_
  | with_reducible refine s_m1 ?_
  | with_reducible refine s_isS ?_
  | ((with_reducible refine' s_app ?r ?z ?k); (case r => wtm_at "own"); (case z => wtm_at "ar"); (intro _v _e _o))
  | ((with_reducible refine' s_clear ?r ?k); (case r => wtm_at "own"); (intro _v _e _o))
  | ((with_reducible refine' s_reverse ?r ?k); (case r => wtm_at "own"); (intro _v _e _o))
  | ((with_reducible refine' s_divmod ?r ?k); (case r => exact ⟨by decide, by decide⟩); (intro _p _v _e _n _s))
  | ((with_reducible refine' s_allO ?r ?k); (case r => wtm_at "own"))
  | ((with_reducible refine' s_anyO ?r ?k); (case r => wtm_at "own"))
  | ((with_reducible refine' ⟨_, _, rfl, dgetS ?r ?e, ?k⟩); (case r => wtm_at "own"); (case e => wtm_at "valv"))
  | ((with_reducible refine' s_dputS ?r ?e ?z ?k); (case r => wtm_at "own"); (case e => wtm_at "putv"); (case z => wtm_at "len"); (intro _v _e _o))
  | with_reducible refine t_disp ?_
  | with_reducible refine s_pnil ?_
  | with_reducible refine s_pcons ?_
  | ((with_reducible refine' s_dnew ?k); (intro _p _v _e _n _o))
  | ((with_reducible refine' s_setL ?r ?e ?k); (case r => wtm_at "own"); (case e => exact rfl); (intro _v _e _o))
  | ((refine' ⟨_, rfl, ⟨_, ?r⟩, ?k⟩); (case r => first | wtm_at "sq" | wtm_at "sqt"))
  | ((refine' ⟨_, rfl, ?r1, ?r2, ?k⟩); (case r1 => show (-(2 ^ 62) : Int) ≤ _; omega); (case r2 => show _ < (2 ^ 62 : Int); omega))
  | ((with_reducible refine' s_idxF ?h1 ?h2 ?k); (case h1 => omega); (case h2 => omega))
  | with_reducible refine s_zf2 ?_
  | with_reducible refine s_jn ?_
  | with_reducible refine s_js ?_
  | with_reducible refine s_js0 ?_
  | with_reducible refine s_fmt ?_
  | ((with_reducible refine' s_fmtS ?h ?k); (case h => wtm_at "txz"))
  | ((with_reducible refine' s_fmtI ?h ?k); (case h => exact log_small (by omega) (by omega)))
  | ((with_reducible refine' s_jsp ?h ?k); (case h => wtm_at "txz"))
  | ((with_reducible refine' s_split ?h1 ?h2 ?k); (case h1 => decide +kernel); (case h2 => wtm_at "txx"); (intro _p _v _e _n _s))
  | with_reducible refine ite_tt ?_
  | with_reducible refine ite_ff ?_
  | with_reducible refine ite_nr ?_
  | with_reducible refine ite_nt ?_
  | with_reducible refine ite_nf ?_
  | fail "go1")
local macro_rules | `(tactic| wtm_at "tx") => `(tactic| first
  | assumption
  | (refine' Tx.app ?x ?y; (case x => wtm_at "tx"); (case y => wtm_at "tx"))
  | (refine' Tx.cut ?x _ _; (case x => wtm_at "tx"))
  | (refine' Tx.one ?x; (case x => first | assumption | omega))
  | exact tx_int (by omega)
  | exact Tx.litN (n := 1) (by decide +kernel) (by decide +kernel)
  | exact Tx.litN (n := 8) (by decide +kernel) (by decide +kernel)
  | exact Tx.litN (n := 16) (by decide +kernel) (by decide +kernel)
  | fail "tx")
local macro_rules | `(tactic| wtm_at "txx") => `(tactic| (refine' Tx.z2 ?h ?k; (case h => wtm_at "tx"); (case k => first | decide | omega)))
local macro_rules | `(tactic| wtm_at "txz") => `(tactic| (refine' Tx.sz ?h ?k; (case h => wtm_at "tx"); (case k => first | decide | omega)))
local macro_rules | `(tactic| wtm_at "txs") => `(tactic| (refine' Tx.sum ?h ?g ?k; (case h => wtm_at "tx"); (case g => wtm_at "tx"); (case k => first | decide | omega)))
local macro_rules | `(tactic| wtm_at "lkp") => `(tactic| first
  | exact lk_hd
  | exact lk_nil
  | (refine' lk_tl ?h ?t; (case h => decide +kernel); (case t => wtm_at "lkp"))
  | fail "lkp")
local macro_rules | `(tactic| wtm_at "pf") => `(tactic| first
  | exact pf_nil
  | exact pf_hd
  | (refine' pf_tl ?h ?t; (case h => decide +kernel); (case t => wtm_at "pf"))
  | fail "pf")
local macro_rules | `(tactic| wtm_at "valv") => `(tactic| first
  | exact valS_pos
  | exact valS_nil
  | (refine' valS_neg ?h ?t; (case h => decide +kernel); (case t => wtm_at "valv"))
  | fail "valv")
local macro_rules | `(tactic| wtm_at "putv") => `(tactic| first
  | exact putK_nil
  | (refine' putS_pos ?h; (case h => wtm_at "valv"))
  | (refine' putS_neg ?h ?t; (case h => decide +kernel); (case t => wtm_at "putv"))
  | fail "putv")
local macro_rules | `(tactic| wtm_at "len") => `(tactic| (simp only [List.length, sizeLine_eq]; omega))
local macro_rules | `(tactic| wtm_at "kb") => `(tactic| first
  | exact kb_NoneType_int
  | exact kb_NoneType_bool
  | exact kb_NoneType_str
  | exact kb_NoneType_list
  | exact kb_NoneType_tuple
  | exact kb_NoneType_dict
  | exact kb_bool_int
  | exact kb_bool_bool
  | exact kb_bool_str
  | exact kb_bool_list
  | exact kb_bool_tuple
  | exact kb_bool_dict
  | exact kb_int_int
  | exact kb_int_bool
  | exact kb_int_str
  | exact kb_int_list
  | exact kb_int_tuple
  | exact kb_int_dict
  | exact kb_str_int
  | exact kb_str_bool
  | exact kb_str_str
  | exact kb_str_list
  | exact kb_str_tuple
  | exact kb_str_dict
  | exact kb_list_int
  | exact kb_list_bool
  | exact kb_list_str
  | exact kb_list_list
  | exact kb_list_tuple
  | exact kb_list_dict
  | exact kb_tuple_int
  | exact kb_tuple_bool
  | exact kb_tuple_str
  | exact kb_tuple_list
  | exact kb_tuple_tuple
  | exact kb_tuple_dict
  | exact kb_dict_int
  | exact kb_dict_bool
  | exact kb_dict_str
  | exact kb_dict_list
  | exact kb_dict_tuple
  | exact kb_dict_dict
  | fail "kb")
local macro_rules | `(tactic| wtm_at "isi") => `(tactic| first
  | ((with_reducible refine' si_int ?e ?k); (case e => wtm_at "kb"))
  | ((with_reducible refine' si_bl ?e ?k); (case e => wtm_at "kb"))
  | ((with_reducible refine' si_str ?e ?k); (case e => wtm_at "kb"))
  | ((with_reducible refine' si_non ?e ?k); (case e => wtm_at "kb"))
  | ((with_reducible refine' sd_int ?r ?k); (case r => wtm_at "rp"))
  | ((with_reducible refine' sd_bool ?r ?k); (case r => wtm_at "rp"))
  | ((with_reducible refine' sd_str ?r ?k); (case r => wtm_at "rp"))
  | ((with_reducible refine' sd_list ?r ?k); (case r => wtm_at "rp"))
  | ((with_reducible refine' sd_tuple ?r ?k); (case r => wtm_at "rp"))
  | ((with_reducible refine' sd_dict ?r ?k); (case r => wtm_at "rp"))
  | ((with_reducible refine' si_lst ?r ?e ?k); (case r => wtm_at "stb"); (case e => wtm_at "kb"))
  | ((with_reducible refine' si_tup ?r ?e ?k); (case r => wtm_at "stb"); (case e => wtm_at "kb"))
  | ((with_reducible refine' si_own ?r ?e ?k); (case r => wtm_at "own"); (case e => wtm_at "kb"))
  | ((with_reducible refine' si_rd ?r ?e ?k); (case r => wtm_at "rd0"); (case e => wtm_at "kb"))
  | fail "isi")
local macro_rules | `(tactic| wtm_at "mul") => `(tactic| first
  | exact .inl (.inl ⟨by decide, by decide⟩) | exact .inl (.inr ⟨by decide, by decide⟩)
  | exact .inl (.inl ⟨by omega, by omega⟩) | exact .inl (.inr ⟨by omega, by omega⟩)
  | fail "mul")
local macro_rules | `(tactic| wtm_at "div") => `(tactic| first
  | exact ⟨by decide, by decide⟩ | exact divW (by omega) (by omega)
  | fail "div")
local macro_rules | `(tactic| wtm_at "hh") => `(tactic| first
  | (refine' Wd.ok _ _ _ ?o; (case o => wtm_at "stb"))
  | (refine' Own.h ?o; (case o => wtm_at "own"))
  | (refine' Rd.h ?o; (case o => wtm_at "rd0"))
  | assumption
  | fail "hh")
local macro_rules | `(tactic| wtm_at "sqs") => `(tactic| first
  | (refine' Or.inl ?o; (case o => wtm_at "sq"))
  | (refine' Or.inr ?o; (case o => wtm_at "sqt"))
  | fail "sqs")
/-- as go1, new lists standing for good -/
local macro_rules | `(tactic| wtm_at "gs1") => `(tactic| first
  | ((with_reducible refine' t_disp0 ?k); (intro _p _v _e _n _s))
  | ((with_reducible refine' s_dnewS ?k); (intro _p _v _e _n _s))
  | ((with_reducible refine' t_newLS ?h ?k); (case h => wtm_at "len"); (intro _p _v _e _n _s))
  | ((with_reducible refine' s_catS ?h1 ?h2 ?z ?k); (case h1 => wtm_at "hh"); (case h2 => wtm_at "hh"); (case z => wtm_at "ar"); (intro _p _v _e _n _s))
  | ((with_reducible refine' s_slS ?h ?k); (case h => wtm_at "sq"); (intro _p _v _e _n _s))
  | ((with_reducible refine' t_revS ?h ?k); (case h => wtm_at "sq"); (intro _p _v _e _n _s))
  | ((with_reducible refine' s_listS ?h ?k); (case h => wtm_at "sqs"); (intro _p _v _e _n _s))
  | ((with_reducible refine' s_rep1 ?h ?c ?k); (case h => wtm_at "hh"); (case c => (simp only [List.length_cons, List.length_nil, sizeLine_eq]; decide)); (intro _p _v _e _n _s))
  | ((with_reducible refine' s_repN ?h ?h0 ?h1 ?k); (case h => wtm_at "hh"); (case h0 => decide); (case h1 => decide); (intro _p _v _e _n _s))
  | ((with_reducible refine' s_repM ?h ?h0 ?h1 ?c ?k); (case h => wtm_at "hh"); (case h0 => decide); (case h1 => decide); (case c => (simp only [List.length_cons, List.length_nil, sizeLine_eq]; decide)); (intro _p _v _ys _e _n _s _l _q; simp only [List.length_cons, List.length_nil] at _l))
  | ((with_reducible refine' s_rep0 ?h ?k); (case h => wtm_at "hh"); (intro _p _v _e _n _s))
  | ((with_reducible refine' s_tupleS ?h ?k); (case h => wtm_at "sq"); (intro _p _v _e _n _s))
  | wtm_at "go1"
  | fail "gs1")
/-- an item at a place that is not written: its way told by membership -/
local macro_rules | `(tactic| wtm_at "ixm") => `(tactic| first
  | ((with_reducible refine' s_ixOm ?h ?h0 ?h1 ?k); (case h => wtm_at "own"); (case h0 => omega); (case h1 => first | omega | (simp only [List.length]; omega) | (simp only [List.length_append, List.length_cons, List.length_nil]; omega)))
  | ((with_reducible refine' s_ixSm ?h ?h0 ?h1 ?k); (case h => wtm_at "stb"); (case h0 => omega); (case h1 => first | omega | (simp only [List.length]; omega) | (simp only [List.length_append, List.length_cons, List.length_nil]; omega)))
  | ((with_reducible refine' s_ixTm ?h ?h0 ?h1 ?k); (case h => wtm_at "stb"); (case h0 => omega); (case h1 => first | omega | (simp only [List.length]; omega) | (simp only [List.length_append, List.length_cons, List.length_nil]; omega)))
  | fail "ixm")
local macro_rules | `(tactic| wtm_at "gs") => `(tactic| repeat wtm_at "gs1")
local macro_rules | `(tactic| wtm_at "go") => `(tactic| repeat wtm_at "go1")
/-- the same, never looking into a decided test -/
local macro_rules | `(tactic| wtm_at "gol") => `(tactic| repeat ((fail_if_success (with_reducible refine ite_d ?_ ?_)); wtm_at "go1"))
local macro_rules | `(tactic| wtm_at "gsl") => `(tactic| repeat ((fail_if_success (with_reducible refine ite_d ?_ ?_)); wtm_at "gs1"))
/-- the same, up to the next if -/
local macro_rules | `(tactic| wtm_at "goi") => `(tactic| repeat ((fail_if_success (with_reducible refine s_ifS ?_)); wtm_at "go1"))
local macro_rules | `(tactic| wtm_at "gsi") => `(tactic| repeat ((fail_if_success (with_reducible refine s_ifS ?_)); wtm_at "gs1"))
namespace L
def top (i : Nat) : Stmt := PySem.Challenge.pw_foldlog_k31_entries_by_themselves.main.body.getD i (.Pass ⟨0, 0, 0, 0⟩)
structure Txt (K : PySem.W.Frag) (mg : Str → Option Value) (C_Entry C_Within C_At C_Between C_Table C_Read C_Joint C_Sifted C_LogError C_NoEntry C_NoMoment C_NoName C_NoPlace C_NoReading C_TooMany : Addr) : Prop where
  g_Entry : mg "Entry" = some (.ref C_Entry)
  cl_Entry : Cls K C_Entry
  na_Entry_high : NoAttr K C_Entry "high"
  na_Entry_keeps : NoAttr K C_Entry "keeps"
  na_Entry_known : NoAttr K C_Entry "known"
  na_Entry_low : NoAttr K C_Entry "low"
  na_Entry_name : NoAttr K C_Entry "name"
  na_Entry_part : NoAttr K C_Entry "part"
  na_Entry_place : NoAttr K C_Entry "place"
  ci_Entry : ClsI K C_Entry
  g_Within : mg "Within" = some (.ref C_Within)
  cl_Within : Cls K C_Within
  na_Within_high : NoAttr K C_Within "high"
  na_Within_keeps : NoAttr K C_Within "keeps"
  na_Within_known : NoAttr K C_Within "known"
  na_Within_low : NoAttr K C_Within "low"
  na_Within_name : NoAttr K C_Within "name"
  na_Within_part : NoAttr K C_Within "part"
  na_Within_place : NoAttr K C_Within "place"
  ci_Within : ClsI K C_Within
  g_At : mg "At" = some (.ref C_At)
  cl_At : Cls K C_At
  na_At_high : NoAttr K C_At "high"
  na_At_keeps : NoAttr K C_At "keeps"
  na_At_known : NoAttr K C_At "known"
  na_At_low : NoAttr K C_At "low"
  na_At_name : NoAttr K C_At "name"
  na_At_part : NoAttr K C_At "part"
  na_At_place : NoAttr K C_At "place"
  ci_At : ClsI K C_At
  g_Between : mg "Between" = some (.ref C_Between)
  cl_Between : Cls K C_Between
  na_Between_high : NoAttr K C_Between "high"
  na_Between_keeps : NoAttr K C_Between "keeps"
  na_Between_known : NoAttr K C_Between "known"
  na_Between_low : NoAttr K C_Between "low"
  na_Between_name : NoAttr K C_Between "name"
  na_Between_part : NoAttr K C_Between "part"
  na_Between_place : NoAttr K C_Between "place"
  ci_Between : ClsI K C_Between
  g_Table : mg "Table" = some (.ref C_Table)
  cl_Table : Cls K C_Table
  na_Table_kept_rows : NoAttr K C_Table "kept_rows"
  g_Read : mg "Read" = some (.ref C_Read)
  cl_Read : Cls K C_Read
  na_Read_high : NoAttr K C_Read "high"
  na_Read_keeps : NoAttr K C_Read "keeps"
  na_Read_known : NoAttr K C_Read "known"
  na_Read_low : NoAttr K C_Read "low"
  na_Read_name : NoAttr K C_Read "name"
  na_Read_part : NoAttr K C_Read "part"
  na_Read_place : NoAttr K C_Read "place"
  ci_Read : ClsI K C_Read
  g_Joint : mg "Joint" = some (.ref C_Joint)
  cl_Joint : Cls K C_Joint
  na_Joint_high : NoAttr K C_Joint "high"
  na_Joint_keeps : NoAttr K C_Joint "keeps"
  na_Joint_known : NoAttr K C_Joint "known"
  na_Joint_low : NoAttr K C_Joint "low"
  na_Joint_name : NoAttr K C_Joint "name"
  na_Joint_part : NoAttr K C_Joint "part"
  na_Joint_place : NoAttr K C_Joint "place"
  ci_Joint : ClsI K C_Joint
  g_Sifted : mg "Sifted" = some (.ref C_Sifted)
  cl_Sifted : Cls K C_Sifted
  na_Sifted_high : NoAttr K C_Sifted "high"
  na_Sifted_keeps : NoAttr K C_Sifted "keeps"
  na_Sifted_known : NoAttr K C_Sifted "known"
  na_Sifted_low : NoAttr K C_Sifted "low"
  na_Sifted_name : NoAttr K C_Sifted "name"
  na_Sifted_part : NoAttr K C_Sifted "part"
  na_Sifted_place : NoAttr K C_Sifted "place"
  ci_Sifted : ClsI K C_Sifted
  g_LogError : mg "LogError" = some (.ref C_LogError)
  rd_LogError : PySem.W.readsIn K C_LogError (.type "type") = true
  gs_LogError : PySem.W.specialIn K (.ref C_LogError) "__getattribute__" = some (some (.builtin "type.__getattribute__"))
  vv_LogError : PySem.W.findCls K (.ref C_LogError) (.type "type") "__init__" = some (.val (.builtin "ValueError.__init__"))
  g_NoEntry : mg "NoEntry" = some (.ref C_NoEntry)
  oex_NoEntry : OexC K C_NoEntry
  xf_NoEntry : XfC K C_NoEntry
  ec_NoEntry : ExcC K C_NoEntry
  xn_NoEntry : PySem.W.findIn K (.ref C_NoEntry) "found" = some none
  g_NoMoment : mg "NoMoment" = some (.ref C_NoMoment)
  oex_NoMoment : OexC K C_NoMoment
  xf_NoMoment : XfC K C_NoMoment
  ec_NoMoment : ExcC K C_NoMoment
  xn_NoMoment : PySem.W.findIn K (.ref C_NoMoment) "found" = some none
  g_NoName : mg "NoName" = some (.ref C_NoName)
  oex_NoName : OexC K C_NoName
  xf_NoName : XfC K C_NoName
  ec_NoName : ExcC K C_NoName
  xn_NoName : PySem.W.findIn K (.ref C_NoName) "found" = some none
  g_NoPlace : mg "NoPlace" = some (.ref C_NoPlace)
  oex_NoPlace : OexC K C_NoPlace
  xf_NoPlace : XfC K C_NoPlace
  ec_NoPlace : ExcC K C_NoPlace
  xn_NoPlace : PySem.W.findIn K (.ref C_NoPlace) "found" = some none
  g_NoReading : mg "NoReading" = some (.ref C_NoReading)
  oex_NoReading : OexC K C_NoReading
  xf_NoReading : XfC K C_NoReading
  ec_NoReading : ExcC K C_NoReading
  xn_NoReading : PySem.W.findIn K (.ref C_NoReading) "found" = some none
  g_TooMany : mg "TooMany" = some (.ref C_TooMany)
  oex_TooMany : OexC K C_TooMany
  xf_TooMany : XfC K C_TooMany
  ec_TooMany : ExcC K C_TooMany
  xn_TooMany : PySem.W.findIn K (.ref C_TooMany) "many" = some none
  rel_NoPlace_NoPlace : PySem.W.kitOne K (.ref C_NoPlace) (.ref C_NoPlace) = some true
  rel_NoPlace_ValueError : PySem.W.kitOne K (.ref C_NoPlace) (.type "ValueError") = some true
  rel_NoPlace_NoEntry : PySem.W.kitOne K (.ref C_NoPlace) (.ref C_NoEntry) = some false
  rel_NoPlace_NoMoment : PySem.W.kitOne K (.ref C_NoPlace) (.ref C_NoMoment) = some false
  rel_NoPlace_NoName : PySem.W.kitOne K (.ref C_NoPlace) (.ref C_NoName) = some false
  rel_NoPlace_NoReading : PySem.W.kitOne K (.ref C_NoPlace) (.ref C_NoReading) = some false
  rel_NoPlace_TooMany : PySem.W.kitOne K (.ref C_NoPlace) (.ref C_TooMany) = some false
  exm_NoPlace_LogError : PySem.W.exmOne K (.ref C_NoPlace) (.ref C_LogError) = some true
  n_ValueError : mg "ValueError" = none
  n_all : mg "all" = none
  n_bool : mg "bool" = none
  n_dict : mg "dict" = none
  n_enumerate : mg "enumerate" = none
  n_int : mg "int" = none
  n_isinstance : mg "isinstance" = none
  n_len : mg "len" = none
  n_list : mg "list" = none
  n_max : mg "max" = none
  n_min : mg "min" = none
  n_range : mg "range" = none
  n_sorted : mg "sorted" = none
  n_str : mg "str" = none
  n_tuple : mg "tuple" = none
  n_zip : mg "zip" = none
  c_FARTHEST_READING : ∃ u, mg "FARTHEST_READING" = some u ∧ RelV (.int 10000000000) u
  c_LAST : ∃ u, mg "LAST" = some u ∧ RelV (.int 1000000000) u
  c_LETTERS : ∃ u, mg "LETTERS" = some u ∧ RelV (.str (Str.ofString "abcdefghijklmnopqrstuvwxyz")) u
  c_LONGEST_NAME : ∃ u, mg "LONGEST_NAME" = some u ∧ RelV (.int 8) u
  c_MOST_ROWS : ∃ u, mg "MOST_ROWS" = some u ∧ RelV (.int 21) u
  c_MOST_SHIFT : ∃ u, mg "MOST_SHIFT" = some u ∧ RelV (.int 2880) u
  kk_Entry_Within : PySem.W.kitOne K (.ref C_Entry) (.ref C_Within) = some false
  kk_Entry_At : PySem.W.kitOne K (.ref C_Entry) (.ref C_At) = some false
  kk_Entry_Between : PySem.W.kitOne K (.ref C_Entry) (.ref C_Between) = some false
  kk_Entry_Read : PySem.W.kitOne K (.ref C_Entry) (.ref C_Read) = some false
  kk_Entry_Joint : PySem.W.kitOne K (.ref C_Entry) (.ref C_Joint) = some false
  kk_Entry_Sifted : PySem.W.kitOne K (.ref C_Entry) (.ref C_Sifted) = some false
  kk_Within_Entry : PySem.W.kitOne K (.ref C_Within) (.ref C_Entry) = some true
  kk_Within_At : PySem.W.kitOne K (.ref C_Within) (.ref C_At) = some false
  kk_Within_Between : PySem.W.kitOne K (.ref C_Within) (.ref C_Between) = some false
  kk_Within_Read : PySem.W.kitOne K (.ref C_Within) (.ref C_Read) = some false
  kk_Within_Joint : PySem.W.kitOne K (.ref C_Within) (.ref C_Joint) = some false
  kk_Within_Sifted : PySem.W.kitOne K (.ref C_Within) (.ref C_Sifted) = some false
  kk_At_Entry : PySem.W.kitOne K (.ref C_At) (.ref C_Entry) = some true
  kk_At_Within : PySem.W.kitOne K (.ref C_At) (.ref C_Within) = some true
  kk_At_Between : PySem.W.kitOne K (.ref C_At) (.ref C_Between) = some false
  kk_At_Read : PySem.W.kitOne K (.ref C_At) (.ref C_Read) = some false
  kk_At_Joint : PySem.W.kitOne K (.ref C_At) (.ref C_Joint) = some false
  kk_At_Sifted : PySem.W.kitOne K (.ref C_At) (.ref C_Sifted) = some false
  kk_Between_Entry : PySem.W.kitOne K (.ref C_Between) (.ref C_Entry) = some true
  kk_Between_Within : PySem.W.kitOne K (.ref C_Between) (.ref C_Within) = some false
  kk_Between_At : PySem.W.kitOne K (.ref C_Between) (.ref C_At) = some false
  kk_Between_Read : PySem.W.kitOne K (.ref C_Between) (.ref C_Read) = some false
  kk_Between_Joint : PySem.W.kitOne K (.ref C_Between) (.ref C_Joint) = some false
  kk_Between_Sifted : PySem.W.kitOne K (.ref C_Between) (.ref C_Sifted) = some false
  kk_Read_Entry : PySem.W.kitOne K (.ref C_Read) (.ref C_Entry) = some true
  kk_Read_Within : PySem.W.kitOne K (.ref C_Read) (.ref C_Within) = some false
  kk_Read_At : PySem.W.kitOne K (.ref C_Read) (.ref C_At) = some false
  kk_Read_Between : PySem.W.kitOne K (.ref C_Read) (.ref C_Between) = some true
  kk_Read_Joint : PySem.W.kitOne K (.ref C_Read) (.ref C_Joint) = some false
  kk_Read_Sifted : PySem.W.kitOne K (.ref C_Read) (.ref C_Sifted) = some false
  kk_Joint_Entry : PySem.W.kitOne K (.ref C_Joint) (.ref C_Entry) = some true
  kk_Joint_Within : PySem.W.kitOne K (.ref C_Joint) (.ref C_Within) = some false
  kk_Joint_At : PySem.W.kitOne K (.ref C_Joint) (.ref C_At) = some false
  kk_Joint_Between : PySem.W.kitOne K (.ref C_Joint) (.ref C_Between) = some false
  kk_Joint_Read : PySem.W.kitOne K (.ref C_Joint) (.ref C_Read) = some false
  kk_Joint_Sifted : PySem.W.kitOne K (.ref C_Joint) (.ref C_Sifted) = some false
  kk_Sifted_Entry : PySem.W.kitOne K (.ref C_Sifted) (.ref C_Entry) = some true
  kk_Sifted_Within : PySem.W.kitOne K (.ref C_Sifted) (.ref C_Within) = some false
  kk_Sifted_At : PySem.W.kitOne K (.ref C_Sifted) (.ref C_At) = some false
  kk_Sifted_Between : PySem.W.kitOne K (.ref C_Sifted) (.ref C_Between) = some false
  kk_Sifted_Read : PySem.W.kitOne K (.ref C_Sifted) (.ref C_Read) = some false
  kk_Sifted_Joint : PySem.W.kitOne K (.ref C_Sifted) (.ref C_Joint) = some false
theorem ek_T {K : PySem.W.Frag} {mg : Str → Option Value} {C_Entry C_Within C_At C_Between C_Table C_Read C_Joint C_Sifted C_LogError C_NoEntry C_NoMoment C_NoName C_NoPlace C_NoReading C_TooMany : Addr} (T : Txt K mg C_Entry C_Within C_At C_Between C_Table C_Read C_Joint C_Sifted C_LogError C_NoEntry C_NoMoment C_NoName C_NoPlace C_NoReading C_TooMany) : EK K (EC.mk C_Entry C_Within C_At C_Between C_Read C_Joint C_Sifted) := by
  refine ⟨fun k h => ?_, fun a b ha hb => ?_⟩
  · cases k
    · exact ⟨T.cl_Entry, T.ci_Entry, T.na_Entry_name, T.na_Entry_place, T.na_Entry_low, T.na_Entry_high, T.na_Entry_known, T.na_Entry_part, T.na_Entry_keeps⟩
    · exact ⟨T.cl_Within, T.ci_Within, T.na_Within_name, T.na_Within_place, T.na_Within_low, T.na_Within_high, T.na_Within_known, T.na_Within_part, T.na_Within_keeps⟩
    · exact ⟨T.cl_At, T.ci_At, T.na_At_name, T.na_At_place, T.na_At_low, T.na_At_high, T.na_At_known, T.na_At_part, T.na_At_keeps⟩
    · exact ⟨T.cl_Between, T.ci_Between, T.na_Between_name, T.na_Between_place, T.na_Between_low, T.na_Between_high, T.na_Between_known, T.na_Between_part, T.na_Between_keeps⟩
    · exact ⟨T.cl_Read, T.ci_Read, T.na_Read_name, T.na_Read_place, T.na_Read_low, T.na_Read_high, T.na_Read_known, T.na_Read_part, T.na_Read_keeps⟩
    · exact h.elim
    · exact h.elim
  · cases a <;> cases b
    · exact kit_self
    · exact T.kk_Entry_Within
    · exact T.kk_Entry_At
    · exact T.kk_Entry_Between
    · exact T.kk_Entry_Read
    · exact hb.elim
    · exact hb.elim
    · exact T.kk_Within_Entry
    · exact kit_self
    · exact T.kk_Within_At
    · exact T.kk_Within_Between
    · exact T.kk_Within_Read
    · exact hb.elim
    · exact hb.elim
    · exact T.kk_At_Entry
    · exact T.kk_At_Within
    · exact kit_self
    · exact T.kk_At_Between
    · exact T.kk_At_Read
    · exact hb.elim
    · exact hb.elim
    · exact T.kk_Between_Entry
    · exact T.kk_Between_Within
    · exact T.kk_Between_At
    · exact kit_self
    · exact T.kk_Between_Read
    · exact hb.elim
    · exact hb.elim
    · exact T.kk_Read_Entry
    · exact T.kk_Read_Within
    · exact T.kk_Read_At
    · exact T.kk_Read_Between
    · exact kit_self
    · exact hb.elim
    · exact hb.elim
    · exact ha.elim
    · exact ha.elim
    · exact ha.elim
    · exact ha.elim
    · exact ha.elim
    · exact ha.elim
    · exact ha.elim
    · exact ha.elim
    · exact ha.elim
    · exact ha.elim
    · exact ha.elim
    · exact ha.elim
    · exact ha.elim
    · exact ha.elim
section
variable {P : Program} {ww : World} {K : PySem.W.Frag} {mg : Str → Option Value} {base : Heap}
abbrev s_is_whole : Stmt := top 16
abbrev nm_is_whole : List Str := ["thing", "low", "high"]
theorem sc_is_whole : FnScope nm_is_whole ["thing", "low", "high"] (defScope s_is_whole) := ⟨rfl, rfl, rfl, by decide +kernel, rfl, by decide +kernel, by decide +kernel⟩
theorem st_is_whole (a b c : V) : start nm_is_whole [a, b, c] = [some a, some b, some c] := rfl
def p_is_whole (w : Wd) (a b c : V) (Q : VK) (_ : XK) : Prop := ∃ d, ∃ lo hi : Int, Rp w.S a d ∧ b = .int lo ∧ c = .int hi ∧ ∀ v, Ext Non w v → Q (.bl (wholeB d lo hi)) v.H
theorem ok_is_whole {f : Addr} {fd : FuncData} {C_Entry C_Within C_At C_Between C_Table C_Read C_Joint C_Sifted C_LogError C_NoEntry C_NoMoment C_NoName C_NoPlace C_NoReading C_TooMany : Addr} (F : Fun K "is_whole" "is_whole" s_is_whole f fd) (T : Txt K mg C_Entry C_Within C_At C_Between C_Table C_Read C_Joint C_Sifted C_LogError C_NoEntry C_NoMoment C_NoName C_NoPlace C_NoReading C_TooMany)  : FnOk P ww K mg base CX0 1 f fd ["thing", "low", "high"] (pr3 (p_is_whole)) := by
  refine F.ok sc_is_whole (fun vs H Q E h => len3 h) (fun cdv A outer s H vs Q E hr h => ?_)
  obtain ⟨w, x0, x1, x2,  rfl, rfl, h⟩ := h
  have ekT := ek_T T
  have oex_NoEntry := T.oex_NoEntry; have xf_NoEntry := T.xf_NoEntry; have ec_NoEntry := T.ec_NoEntry; have xn_NoEntry := T.xn_NoEntry
  have oex_NoMoment := T.oex_NoMoment; have xf_NoMoment := T.xf_NoMoment; have ec_NoMoment := T.ec_NoMoment; have xn_NoMoment := T.xn_NoMoment
  have oex_NoName := T.oex_NoName; have xf_NoName := T.xf_NoName; have ec_NoName := T.ec_NoName; have xn_NoName := T.xn_NoName
  have oex_NoPlace := T.oex_NoPlace; have xf_NoPlace := T.xf_NoPlace; have ec_NoPlace := T.ec_NoPlace; have xn_NoPlace := T.xn_NoPlace
  have oex_NoReading := T.oex_NoReading; have xf_NoReading := T.xf_NoReading; have ec_NoReading := T.ec_NoReading; have xn_NoReading := T.xn_NoReading
  have oex_TooMany := T.oex_TooMany; have xf_TooMany := T.xf_TooMany; have ec_TooMany := T.ec_TooMany; have xn_TooMany := T.xn_TooMany
  have rel_NoPlace_NoPlace := T.rel_NoPlace_NoPlace
  have rel_NoPlace_ValueError := T.rel_NoPlace_ValueError
  have rel_NoPlace_NoEntry := T.rel_NoPlace_NoEntry
  have rel_NoPlace_NoMoment := T.rel_NoPlace_NoMoment
  have rel_NoPlace_NoName := T.rel_NoPlace_NoName
  have rel_NoPlace_NoReading := T.rel_NoPlace_NoReading
  have rel_NoPlace_TooMany := T.rel_NoPlace_TooMany
  have exm_NoPlace_LogError := T.exm_NoPlace_LogError
  refine ⟨_, (pss_one (ps_ret (pe_and (pe_callB (kIsi K) (by rfl) T.n_isinstance (by decide +kernel) (pa_cons (pv 0) (pa_cons (pe_bltn (v := .ty "int") (u := .type "int") rfl T.n_int (by decide +kernel) rfl) pa_nil))) (pe_and (pe_not (pe_callB (kIsi K) (by rfl) T.n_isinstance (by decide +kernel) (pa_cons (pv 0) (pa_cons (pe_bltn (v := .ty "bool") (u := .type "bool") rfl T.n_bool (by decide +kernel) rfl) pa_nil)))) (pe_one (pe_chain g_le g_le (pv 1) (pv 0) (pv 2))))))), ?_⟩
  rw [st_is_whole]
  obtain ⟨d, lo, hi, hd, rfl, rfl, k⟩ := h
  wtm_at "go"
  refine ite_b (fun hb => ?_) (fun hb => ?_)
  · wtm_at "go"
    refine ite_n (fun hc => ?_) (fun hc => ?_)
    · obtain ⟨n, rfl⟩ : ∃ n, d = .int n := isNum_inv (by simp [isNum, hb, hc])
      obtain rfl := hd.int_inv
      wtm_at "go"
      refine ite_d (fun c1 => ?_) (fun c1 => ?_)
      · wtm_at "go"
        have e : wholeB (.int n) lo hi = decide (n ≤ hi) := by simp [wholeB, c1]
        exact e ▸ k w (Ext.refl _ _)
      · wtm_at "go"
        have e : wholeB (.int n) lo hi = false := by simp [wholeB, c1]
        exact e ▸ k w (Ext.refl _ _)
    · have e : wholeB d lo hi = false := whole_no (by simp [isNum, hc])
      exact e ▸ k w (Ext.refl _ _)
  · have e : wholeB d lo hi = false := whole_no (by simp [isNum, hb])
    exact e ▸ k w (Ext.refl _ _)
def p_isw (lo hi : Int) (w : Wd) (a : V) (Q : VK) (_ : XK) : Prop := ∃ d, Rp w.S a d ∧ ∀ v, Ext Non w v → Q (.bl (wholeB d lo hi)) v.H
abbrev s_is_moment : Stmt := top 17
abbrev nm_is_moment : List Str := ["thing"]
theorem sc_is_moment : FnScope nm_is_moment ["thing"] (defScope s_is_moment) := ⟨rfl, rfl, rfl, by decide +kernel, rfl, by decide +kernel, by decide +kernel⟩
theorem st_is_moment (a : V) : start nm_is_moment [a] = [some a] := rfl
abbrev p_is_moment := p_isw 0 1000000000
theorem ok_is_moment {f : Addr} {fd : FuncData} {C_Entry C_Within C_At C_Between C_Table C_Read C_Joint C_Sifted C_LogError C_NoEntry C_NoMoment C_NoName C_NoPlace C_NoReading C_TooMany : Addr} (F : Fun K "is_moment" "is_moment" s_is_moment f fd) (T : Txt K mg C_Entry C_Within C_At C_Between C_Table C_Read C_Joint C_Sifted C_LogError C_NoEntry C_NoMoment C_NoName C_NoPlace C_NoReading C_TooMany) (c_is_whole : Fnc P ww K mg base CX0 1 "is_whole" (pr3 (p_is_whole))) : FnOk P ww K mg base CX0 2 f fd ["thing"] (pr1 (p_is_moment)) := by
  refine F.ok sc_is_moment (fun vs H Q E h => len1 h) (fun cdv A outer s H vs Q E hr h => ?_)
  obtain ⟨w, x0,  rfl, rfl, h⟩ := h
  have ekT := ek_T T
  have oex_NoEntry := T.oex_NoEntry; have xf_NoEntry := T.xf_NoEntry; have ec_NoEntry := T.ec_NoEntry; have xn_NoEntry := T.xn_NoEntry
  have oex_NoMoment := T.oex_NoMoment; have xf_NoMoment := T.xf_NoMoment; have ec_NoMoment := T.ec_NoMoment; have xn_NoMoment := T.xn_NoMoment
  have oex_NoName := T.oex_NoName; have xf_NoName := T.xf_NoName; have ec_NoName := T.ec_NoName; have xn_NoName := T.xn_NoName
  have oex_NoPlace := T.oex_NoPlace; have xf_NoPlace := T.xf_NoPlace; have ec_NoPlace := T.ec_NoPlace; have xn_NoPlace := T.xn_NoPlace
  have oex_NoReading := T.oex_NoReading; have xf_NoReading := T.xf_NoReading; have ec_NoReading := T.ec_NoReading; have xn_NoReading := T.xn_NoReading
  have oex_TooMany := T.oex_TooMany; have xf_TooMany := T.xf_TooMany; have ec_TooMany := T.ec_TooMany; have xn_TooMany := T.xn_TooMany
  have rel_NoPlace_NoPlace := T.rel_NoPlace_NoPlace
  have rel_NoPlace_ValueError := T.rel_NoPlace_ValueError
  have rel_NoPlace_NoEntry := T.rel_NoPlace_NoEntry
  have rel_NoPlace_NoMoment := T.rel_NoPlace_NoMoment
  have rel_NoPlace_NoName := T.rel_NoPlace_NoName
  have rel_NoPlace_NoReading := T.rel_NoPlace_NoReading
  have rel_NoPlace_TooMany := T.rel_NoPlace_TooMany
  have exm_NoPlace_LogError := T.exm_NoPlace_LogError
  refine ⟨_, (pss_one (ps_ret (pe_fn c_is_whole hr (by decide) pass0 (pa_cons (pv 0) (pa_cons pe_int (pa_cons (pe_gco rfl T.c_LAST) pa_nil)))))), ?_⟩
  rw [st_is_moment]
  obtain ⟨d, hd, k⟩ := h
  wtm_at "go"
  exact ⟨d, _, _, hd, rfl, rfl, fun v ev => k v ev⟩
abbrev s_is_shift : Stmt := top 19
abbrev nm_is_shift : List Str := ["thing"]
theorem sc_is_shift : FnScope nm_is_shift ["thing"] (defScope s_is_shift) := ⟨rfl, rfl, rfl, by decide +kernel, rfl, by decide +kernel, by decide +kernel⟩
theorem st_is_shift (a : V) : start nm_is_shift [a] = [some a] := rfl
abbrev p_is_shift := p_isw (0 - 2880) 2880
theorem ok_is_shift {f : Addr} {fd : FuncData} {C_Entry C_Within C_At C_Between C_Table C_Read C_Joint C_Sifted C_LogError C_NoEntry C_NoMoment C_NoName C_NoPlace C_NoReading C_TooMany : Addr} (F : Fun K "is_shift" "is_shift" s_is_shift f fd) (T : Txt K mg C_Entry C_Within C_At C_Between C_Table C_Read C_Joint C_Sifted C_LogError C_NoEntry C_NoMoment C_NoName C_NoPlace C_NoReading C_TooMany) (c_is_whole : Fnc P ww K mg base CX0 1 "is_whole" (pr3 (p_is_whole))) : FnOk P ww K mg base CX0 2 f fd ["thing"] (pr1 (p_is_shift)) := by
  refine F.ok sc_is_shift (fun vs H Q E h => len1 h) (fun cdv A outer s H vs Q E hr h => ?_)
  obtain ⟨w, x0,  rfl, rfl, h⟩ := h
  have ekT := ek_T T
  have oex_NoEntry := T.oex_NoEntry; have xf_NoEntry := T.xf_NoEntry; have ec_NoEntry := T.ec_NoEntry; have xn_NoEntry := T.xn_NoEntry
  have oex_NoMoment := T.oex_NoMoment; have xf_NoMoment := T.xf_NoMoment; have ec_NoMoment := T.ec_NoMoment; have xn_NoMoment := T.xn_NoMoment
  have oex_NoName := T.oex_NoName; have xf_NoName := T.xf_NoName; have ec_NoName := T.ec_NoName; have xn_NoName := T.xn_NoName
  have oex_NoPlace := T.oex_NoPlace; have xf_NoPlace := T.xf_NoPlace; have ec_NoPlace := T.ec_NoPlace; have xn_NoPlace := T.xn_NoPlace
  have oex_NoReading := T.oex_NoReading; have xf_NoReading := T.xf_NoReading; have ec_NoReading := T.ec_NoReading; have xn_NoReading := T.xn_NoReading
  have oex_TooMany := T.oex_TooMany; have xf_TooMany := T.xf_TooMany; have ec_TooMany := T.ec_TooMany; have xn_TooMany := T.xn_TooMany
  have rel_NoPlace_NoPlace := T.rel_NoPlace_NoPlace
  have rel_NoPlace_ValueError := T.rel_NoPlace_ValueError
  have rel_NoPlace_NoEntry := T.rel_NoPlace_NoEntry
  have rel_NoPlace_NoMoment := T.rel_NoPlace_NoMoment
  have rel_NoPlace_NoName := T.rel_NoPlace_NoName
  have rel_NoPlace_NoReading := T.rel_NoPlace_NoReading
  have rel_NoPlace_TooMany := T.rel_NoPlace_TooMany
  have exm_NoPlace_LogError := T.exm_NoPlace_LogError
  refine ⟨_, (pss_one (ps_ret (pe_fn c_is_whole hr (by decide) pass0 (pa_cons (pv 0) (pa_cons (pe_op g_sub pe_int (pe_gco rfl T.c_MOST_SHIFT)) (pa_cons (pe_gco rfl T.c_MOST_SHIFT) pa_nil)))))), ?_⟩
  rw [st_is_shift]
  obtain ⟨d, hd, k⟩ := h
  wtm_at "go"
  exact ⟨d, _, _, hd, rfl, rfl, fun v ev => k v ev⟩
abbrev s_is_row : Stmt := top 38
abbrev nm_is_row : List Str := ["thing"]
theorem sc_is_row : FnScope nm_is_row ["thing"] (defScope s_is_row) := ⟨rfl, rfl, rfl, by decide +kernel, rfl, by decide +kernel, by decide +kernel⟩
theorem st_is_row (a : V) : start nm_is_row [a] = [some a] := rfl
def p_is_row (w : Wd) (a : V) (Q : VK) (_ : XK) : Prop := ∃ d, Rp w.S a d ∧ ∀ v, Ext Non w v → Q (.bl (rowB d)) v.H
theorem ok_is_row {f : Addr} {fd : FuncData} {C_Entry C_Within C_At C_Between C_Table C_Read C_Joint C_Sifted C_LogError C_NoEntry C_NoMoment C_NoName C_NoPlace C_NoReading C_TooMany : Addr} (F : Fun K "is_row" "is_row" s_is_row f fd) (T : Txt K mg C_Entry C_Within C_At C_Between C_Table C_Read C_Joint C_Sifted C_LogError C_NoEntry C_NoMoment C_NoName C_NoPlace C_NoReading C_TooMany) (c_is_moment : Fnc P ww K mg base CX0 2 "is_moment" (pr1 (p_is_moment))) (c_is_shift : Fnc P ww K mg base CX0 2 "is_shift" (pr1 (p_is_shift))) : FnOk P ww K mg base CX0 3 f fd ["thing"] (pr1 (p_is_row)) := by
  refine F.ok sc_is_row (fun vs H Q E h => len1 h) (fun cdv A outer s H vs Q E hr h => ?_)
  obtain ⟨w, x0,  rfl, rfl, h⟩ := h
  have ekT := ek_T T
  have oex_NoEntry := T.oex_NoEntry; have xf_NoEntry := T.xf_NoEntry; have ec_NoEntry := T.ec_NoEntry; have xn_NoEntry := T.xn_NoEntry
  have oex_NoMoment := T.oex_NoMoment; have xf_NoMoment := T.xf_NoMoment; have ec_NoMoment := T.ec_NoMoment; have xn_NoMoment := T.xn_NoMoment
  have oex_NoName := T.oex_NoName; have xf_NoName := T.xf_NoName; have ec_NoName := T.ec_NoName; have xn_NoName := T.xn_NoName
  have oex_NoPlace := T.oex_NoPlace; have xf_NoPlace := T.xf_NoPlace; have ec_NoPlace := T.ec_NoPlace; have xn_NoPlace := T.xn_NoPlace
  have oex_NoReading := T.oex_NoReading; have xf_NoReading := T.xf_NoReading; have ec_NoReading := T.ec_NoReading; have xn_NoReading := T.xn_NoReading
  have oex_TooMany := T.oex_TooMany; have xf_TooMany := T.xf_TooMany; have ec_TooMany := T.ec_TooMany; have xn_TooMany := T.xn_TooMany
  have rel_NoPlace_NoPlace := T.rel_NoPlace_NoPlace
  have rel_NoPlace_ValueError := T.rel_NoPlace_ValueError
  have rel_NoPlace_NoEntry := T.rel_NoPlace_NoEntry
  have rel_NoPlace_NoMoment := T.rel_NoPlace_NoMoment
  have rel_NoPlace_NoName := T.rel_NoPlace_NoName
  have rel_NoPlace_NoReading := T.rel_NoPlace_NoReading
  have rel_NoPlace_TooMany := T.rel_NoPlace_TooMany
  have exm_NoPlace_LogError := T.exm_NoPlace_LogError
  refine ⟨_, (pss_cons (ps_if (PW.pt (pw_or (pt_not (pt_val (pe_callB (kIsi K) (by rfl) T.n_isinstance (by decide +kernel) (pa_cons (pv 0) (pa_cons (pe_bltn (v := .ty "tuple") (u := .type "tuple") rfl T.n_tuple (by decide +kernel) rfl) pa_nil))))) (pw_or1 (pt_cmpR (kNe K hr.units) (pe_callB (kLen K) (by rfl) T.n_len (by decide +kernel) (pa_cons (pv 0) pa_nil)) pe_int (nomark _))))) (pss_one (ps_ret pe_bl)) pss_nil)
      (pss_one (ps_ret (pe_and (pe_fn c_is_moment hr (by decide) pass0 (pa_cons (pe_ix (kIx K) (pv 0) pe_int (fun _ _ => rfl)) pa_nil)) (pe_one (pe_fn c_is_shift hr (by decide) pass0 (pa_cons (pe_ix (kIx K) (pv 0) pe_int (fun _ _ => rfl)) pa_nil))))))), ?_⟩
  rw [st_is_row]
  obtain ⟨d, hd, k⟩ := h
  wtm_at "gs"
  refine ite_n (fun hb => ?_) (fun hb => ?_)
  · wtm_at "gs"
    have e : rowB d = false := row_notup hb
    exact e ▸ k _ (by wtm_at "ch")
  · obtain ⟨ds, rfl⟩ := isTup_inv hb
    obtain ⟨t, vs, rfl, st, ra⟩ := hd.tuple_inv
    have la := ra.length
    wtm_at "gs"
    by_cases h2 : ds.length = 2
    · obtain ⟨d1, d2, rfl⟩ : ∃ a b, ds = [a, b] := by
        match ds, h2 with
        | [a, b], _ => exact ⟨a, b, rfl⟩
      obtain ⟨y1, y2, rfl, r1, r2⟩ : ∃ y1 y2, vs = [y1, y2] ∧ Rp w.S y1 d1 ∧ Rp w.S y2 d2 := by
        cases ra with
        | cons r1 r2 =>
          cases r2 with
          | cons r2 r3 =>
            cases r3
            exact ⟨_, _, rfl, r1, r2⟩
      refine ite_d (fun c1 => absurd rfl c1) (fun _ => ?_)
      wtm_at "gs"
      refine ⟨d1, r1, fun v1 e1 => ?_⟩
      wtm_at "gs"
      have e : rowB (.tuple [d1, d2]) = (wholeB d1 0 1000000000 && wholeB d2 (0 - 2880) 2880) := rfl
      refine ite_b (fun hb => ?_) (fun hb => ?_)
      · wtm_at "gs"
        refine ⟨d2, by wtm_at "rp", fun v2 e2 => ?_⟩
        rw [hb, Bool.true_and] at e
        exact e ▸ k _ (by wtm_at "ch")
      · wtm_at "gs"
        rw [hb, Bool.false_and] at e
        exact e ▸ k _ (by wtm_at "ch")
    · refine ite_d (fun c1 => ?_) (fun c1 => absurd (fun e => h2 (by omega)) c1)
      wtm_at "gs"
      have e : rowB (.tuple ds) = false := row_len h2
      exact e ▸ k _ (by wtm_at "ch")
abbrev s_fault_at : Stmt := top 39
abbrev nm_fault_at : List Str := ["rows", "ahead", "at", "row"]
theorem sc_fault_at : FnScope nm_fault_at ["rows"] (defScope s_fault_at) := ⟨rfl, rfl, rfl, by decide +kernel, rfl, by decide +kernel, by decide +kernel⟩
theorem st_fault_at (a : V) : start nm_fault_at [a] = [some a, none, none, none] := rfl
def p_fault_at (w : Wd) (a : V) (Q : VK) (_ : XK) : Prop := ∃ d, Rp w.S a d ∧ (∀ ds, d = .list ds → ds.length < 10000) ∧ ∀ v, Ext Non w v → Q (oV (faultD d)) v.H
theorem ok_fault_at {f : Addr} {fd : FuncData} {C_Entry C_Within C_At C_Between C_Table C_Read C_Joint C_Sifted C_LogError C_NoEntry C_NoMoment C_NoName C_NoPlace C_NoReading C_TooMany : Addr} (F : Fun K "fault_at" "fault_at" s_fault_at f fd) (T : Txt K mg C_Entry C_Within C_At C_Between C_Table C_Read C_Joint C_Sifted C_LogError C_NoEntry C_NoMoment C_NoName C_NoPlace C_NoReading C_TooMany) (c_is_row : Fnc P ww K mg base CX0 3 "is_row" (pr1 (p_is_row))) : FnOk P ww K mg base CX0 4 f fd ["rows"] (pr1 (p_fault_at)) := by
  refine F.ok sc_fault_at (fun vs H Q E h => len1 h) (fun cdv A outer s H vs Q E hr h => ?_)
  obtain ⟨w, x0,  rfl, rfl, h⟩ := h
  have ekT := ek_T T
  have oex_NoEntry := T.oex_NoEntry; have xf_NoEntry := T.xf_NoEntry; have ec_NoEntry := T.ec_NoEntry; have xn_NoEntry := T.xn_NoEntry
  have oex_NoMoment := T.oex_NoMoment; have xf_NoMoment := T.xf_NoMoment; have ec_NoMoment := T.ec_NoMoment; have xn_NoMoment := T.xn_NoMoment
  have oex_NoName := T.oex_NoName; have xf_NoName := T.xf_NoName; have ec_NoName := T.ec_NoName; have xn_NoName := T.xn_NoName
  have oex_NoPlace := T.oex_NoPlace; have xf_NoPlace := T.xf_NoPlace; have ec_NoPlace := T.ec_NoPlace; have xn_NoPlace := T.xn_NoPlace
  have oex_NoReading := T.oex_NoReading; have xf_NoReading := T.xf_NoReading; have ec_NoReading := T.ec_NoReading; have xn_NoReading := T.xn_NoReading
  have oex_TooMany := T.oex_TooMany; have xf_TooMany := T.xf_TooMany; have ec_TooMany := T.ec_TooMany; have xn_TooMany := T.xn_TooMany
  have rel_NoPlace_NoPlace := T.rel_NoPlace_NoPlace
  have rel_NoPlace_ValueError := T.rel_NoPlace_ValueError
  have rel_NoPlace_NoEntry := T.rel_NoPlace_NoEntry
  have rel_NoPlace_NoMoment := T.rel_NoPlace_NoMoment
  have rel_NoPlace_NoName := T.rel_NoPlace_NoName
  have rel_NoPlace_NoReading := T.rel_NoPlace_NoReading
  have rel_NoPlace_TooMany := T.rel_NoPlace_TooMany
  have exm_NoPlace_LogError := T.exm_NoPlace_LogError
  refine ⟨_, (pss_cons (ps_if (PW.pt (pw_or (pt_not (pt_val (pe_callB (kIsi K) (by rfl) T.n_isinstance (by decide +kernel) (pa_cons (pv 0) (pa_cons (pe_bltn (v := .ty "list") (u := .type "list") rfl T.n_list (by decide +kernel) rfl) pa_nil))))) (pw_or1 (pt_cmpR (kEq K hr.units) (pe_callB (kLen K) (by rfl) T.n_len (by decide +kernel) (pa_cons (pv 0) pa_nil)) pe_int (nomark _))))) (pss_one (ps_ret pe_int)) pss_nil)
      (pss_cons (ps_if (pt_cmpR g_gt (pe_callB (kLen K) (by rfl) T.n_len (by decide +kernel) (pa_cons (pv 0) pa_nil)) (pe_gco rfl T.c_MOST_ROWS) (nomark _)) (pss_one (ps_ret (pe_gco rfl T.c_MOST_ROWS))) pss_nil)
      (pss_cons (ps_set (i := 1) sc_fault_at.nd rfl (Or.inl rfl) pe_non)
      (pss_cons (ps_for PassesOwn.never rfl (kpEnum K (by rfl) T.n_enumerate (pa_cons (pv 0) pa_nil)) (kgTup K (by rfl) (pgs_cons (pg_name (i := 2) sc_fault_at.nd rfl (Or.inl rfl)) (pgs_cons (pg_name (i := 3) sc_fault_at.nd rfl (Or.inl rfl)) pgs_nil))) (pss_cons (ps_if (pt_not (pt_val (pe_fn c_is_row hr (by decide) pass0 (pa_cons (pv 3) pa_nil)))) (pss_one (ps_ret (pv 2))) pss_nil)
      (pss_cons (ps_if (PW.pt (pw_and (pt_cmpR g_is (pv 1) pe_non (nomark _)) (pw_and1 (pt_cmpR (kNe K hr.units) (pe_ix (kIx K) (pv 3) pe_int (fun _ _ => rfl)) pe_int (nomark _))))) (pss_one (ps_ret (pv 2))) pss_nil)
      (pss_cons (ps_if (PW.pt (pw_and (pt_cmpR g_isnot (pv 1) pe_non (nomark _)) (pw_and1 (pt_cmpR g_le (pe_ix (kIx K) (pv 3) pe_int (fun _ _ => rfl)) (pv 1) (nomark _))))) (pss_one (ps_ret (pv 2))) pss_nil)
      (pss_one (ps_set (i := 1) sc_fault_at.nd rfl (Or.inl rfl) (pe_ix (kIx K) (pv 3) pe_int (fun _ _ => rfl))))))))
      (pss_one (ps_ret pe_non)))))), ?_⟩
  rw [st_fault_at]
  obtain ⟨d, hd, hsz, k⟩ := h
  wtm_at "gs"
  refine ite_n (fun hb => ?_) (fun hb => ?_)
  · wtm_at "gs"
    have e : faultD d = some 0 := by cases d <;> first | rfl | cases hb
    exact ov_at e (k _ (by wtm_at "ch"))
  · obtain ⟨ds, rfl⟩ := isList_inv hb
    obtain ⟨t, vs, rfl, st, ra⟩ := hd.list_inv
    have la := ra.length
    have hl := hsz ds rfl
    have e0 : faultD (.list ds) = if ds.length = 0 then some 0 else if ds.length > 21 then some 21 else faultFrom none 0 ds := rfl
    wtm_at "gs"
    refine ite_d (fun c1 => ?_) (fun c1 => ?_)
    · wtm_at "gs"
      rw [if_pos (show ds.length = 0 by omega)] at e0
      exact ov_at e0 (k _ (by wtm_at "ch"))
    · rw [if_neg (show ¬ ds.length = 0 by omega)] at e0
      wtm_at "gs"
      refine ite_d (fun c2 => ?_) (fun c2 => ?_)
      · wtm_at "gs"
        rw [if_pos (show ds.length > 21 by omega)] at e0
        exact ov_at e0 (k _ (by wtm_at "ch"))
      · rw [if_neg (show ¬ ds.length > 21 by omega)] at e0
        wtm_at "gs"
        refine ⟨t, vs, rfl, SqL.of (w.ok _ _ st), ?_⟩
        refine forW (ww_enum (xs := vs)) (fun i σ u => Ext Non w u ∧ ∃ (ah : Option Int) (g h : Option V), σ = [some (.ref t), some (oV ah), g, h] ∧ faultFrom none 0 ds = faultFrom ah i (ds.drop i)) ⟨Ext.refl _ _, none, _, _, rfl, rfl⟩ (fun i σ u _ p => sql_of (st_go p.1 st)) ?_ ?_
        · rintro i x σ u v hi ⟨eu, ah, g, h, rfl, hq⟩ ⟨T, x1, rfl, ev, hT, sT, hx⟩
          obtain ⟨d, h3, h4⟩ := ra.get hx
          have hdr : ds.drop i = d :: ds.drop (i + 1) := drop_at h3
          rw [hdr] at hq
          have hq2 : faultFrom none 0 ds = if (!rowB d || stepBad ah (momD d)) = true then some (i : Int) else faultFrom (some (momD d)) (i + 1) (ds.drop (i + 1)) := hq
          have ewv : Ext Non w v := by wtm_at "ch"
          have h5 : Rp v.S x1 d := h4.go ewv
          clear ewv
          wtm_at "gs"
          refine ⟨d, h5, fun v1 e1 => ?_⟩
          wtm_at "gs"
          refine ite_n (fun hb => ?_) (fun hb => ?_)
          · wtm_at "gs"
            rw [hb, if_pos (by rfl)] at hq2
            exact ov_at (e0.trans hq2) (k _ (by wtm_at "ch"))
          · obtain ⟨m, s, rfl, hm⟩ := row_yes hb
            obtain ⟨tt, rfl, stt⟩ := pr_inv h5
            rw [hb, Bool.not_true, Bool.false_or] at hq2
            cases ah with
            | none =>
              have e5 : stepBad none (momD (.tuple [.int m, .int s])) = decide (m ≠ 0) := rfl
              rw [e5] at hq2
              dsimp only [oV]
              wtm_at "gs"
              refine ite_d (fun c3 => ?_) (fun c3 => ?_)
              · wtm_at "gs"
                rw [decide_eq_true c3, if_pos rfl] at hq2
                exact ov_at (e0.trans hq2) (k _ (by wtm_at "ch"))
              · wtm_at "gs"
                rw [decide_eq_false c3, if_neg (by decide)] at hq2
                exact ⟨by wtm_at "ch", some m, _, _, rfl, hq2⟩
            | some q =>
              have e5 : stepBad (some q) (momD (.tuple [.int m, .int s])) = decide (m ≤ q) := rfl
              rw [e5] at hq2
              dsimp only [oV]
              wtm_at "gs"
              refine ite_d (fun c3 => ?_) (fun c3 => ?_)
              · wtm_at "gs"
                rw [decide_eq_true c3, if_pos rfl] at hq2
                exact ov_at (e0.trans hq2) (k _ (by wtm_at "ch"))
              · wtm_at "gs"
                rw [decide_eq_false c3, if_neg (by decide)] at hq2
                exact ⟨by wtm_at "ch", some m, _, _, rfl, hq2⟩
        · rintro σ u ⟨eu, ah, g, h, rfl, hq⟩
          rw [List.drop_of_length_le (by omega)] at hq
          wtm_at "gs"
          exact ov_at (e0.trans hq) (k _ (by wtm_at "ch"))
abbrev s_is_reading : Stmt := top 18
abbrev nm_is_reading : List Str := ["thing"]
theorem sc_is_reading : FnScope nm_is_reading ["thing"] (defScope s_is_reading) := ⟨rfl, rfl, rfl, by decide +kernel, rfl, by decide +kernel, by decide +kernel⟩
theorem st_is_reading (a : V) : start nm_is_reading [a] = [some a] := rfl
abbrev p_is_reading := p_isw (0 - 10000000000) 10000000000
theorem ok_is_reading {f : Addr} {fd : FuncData} {C_Entry C_Within C_At C_Between C_Table C_Read C_Joint C_Sifted C_LogError C_NoEntry C_NoMoment C_NoName C_NoPlace C_NoReading C_TooMany : Addr} (F : Fun K "is_reading" "is_reading" s_is_reading f fd) (T : Txt K mg C_Entry C_Within C_At C_Between C_Table C_Read C_Joint C_Sifted C_LogError C_NoEntry C_NoMoment C_NoName C_NoPlace C_NoReading C_TooMany) (c_is_whole : Fnc P ww K mg base CX0 1 "is_whole" (pr3 (p_is_whole))) : FnOk P ww K mg base CX0 2 f fd ["thing"] (pr1 (p_is_reading)) := by
  refine F.ok sc_is_reading (fun vs H Q E h => len1 h) (fun cdv A outer s H vs Q E hr h => ?_)
  obtain ⟨w, x0,  rfl, rfl, h⟩ := h
  have ekT := ek_T T
  have oex_NoEntry := T.oex_NoEntry; have xf_NoEntry := T.xf_NoEntry; have ec_NoEntry := T.ec_NoEntry; have xn_NoEntry := T.xn_NoEntry
  have oex_NoMoment := T.oex_NoMoment; have xf_NoMoment := T.xf_NoMoment; have ec_NoMoment := T.ec_NoMoment; have xn_NoMoment := T.xn_NoMoment
  have oex_NoName := T.oex_NoName; have xf_NoName := T.xf_NoName; have ec_NoName := T.ec_NoName; have xn_NoName := T.xn_NoName
  have oex_NoPlace := T.oex_NoPlace; have xf_NoPlace := T.xf_NoPlace; have ec_NoPlace := T.ec_NoPlace; have xn_NoPlace := T.xn_NoPlace
  have oex_NoReading := T.oex_NoReading; have xf_NoReading := T.xf_NoReading; have ec_NoReading := T.ec_NoReading; have xn_NoReading := T.xn_NoReading
  have oex_TooMany := T.oex_TooMany; have xf_TooMany := T.xf_TooMany; have ec_TooMany := T.ec_TooMany; have xn_TooMany := T.xn_TooMany
  have rel_NoPlace_NoPlace := T.rel_NoPlace_NoPlace
  have rel_NoPlace_ValueError := T.rel_NoPlace_ValueError
  have rel_NoPlace_NoEntry := T.rel_NoPlace_NoEntry
  have rel_NoPlace_NoMoment := T.rel_NoPlace_NoMoment
  have rel_NoPlace_NoName := T.rel_NoPlace_NoName
  have rel_NoPlace_NoReading := T.rel_NoPlace_NoReading
  have rel_NoPlace_TooMany := T.rel_NoPlace_TooMany
  have exm_NoPlace_LogError := T.exm_NoPlace_LogError
  refine ⟨_, (pss_one (ps_ret (pe_fn c_is_whole hr (by decide) pass0 (pa_cons (pv 0) (pa_cons (pe_op g_sub pe_int (pe_gco rfl T.c_FARTHEST_READING)) (pa_cons (pe_gco rfl T.c_FARTHEST_READING) pa_nil)))))), ?_⟩
  rw [st_is_reading]
  obtain ⟨d, hd, k⟩ := h
  wtm_at "go"
  exact ⟨d, _, _, hd, rfl, rfl, fun v ev => k v ev⟩
local macro_rules | `(tactic| wtm_at "tbs") => `(tactic| first
  | assumption
  | (refine' TbS.go (by assumption) ?s; (case s => wtm_at "tbs"))
  | fail "tbs")
abbrev s_Table_init : Stmt := inClass (top 40) 0
abbrev nm_Table_init : List Str := ["self", "rows", "at"]
theorem sc_Table_init : FnScope nm_Table_init ["self", "rows"] (defScope s_Table_init) := ⟨rfl, rfl, rfl, by decide +kernel, rfl, by decide +kernel, by decide +kernel⟩
theorem st_Table_init (a b : V) : start nm_Table_init [a, b] = [some a, some b, none] := rfl
def p_Table_init (C : Addr) (w : Wd) (a b : V) (Q : VK) (_ : XK) : Prop := ∃ x dx R, a = .ref x ∧ Own w x (.ins C dx []) ∧ Rp w.S b (spD R) ∧ TabOk R ∧ ∀ v, Ext (One x) w v → TbS C v.S (.ref x) R → Q .non v.H
theorem ok_Table_init {f : Addr} {fd : FuncData} {C_Entry C_Within C_At C_Between C_Table C_Read C_Joint C_Sifted C_LogError C_NoEntry C_NoMoment C_NoName C_NoPlace C_NoReading C_TooMany : Addr} (F : Fun K "__init__" "Table.__init__" s_Table_init f fd) (T : Txt K mg C_Entry C_Within C_At C_Between C_Table C_Read C_Joint C_Sifted C_LogError C_NoEntry C_NoMoment C_NoName C_NoPlace C_NoReading C_TooMany) (c_fault_at : Fnc P ww K mg base CX0 4 "fault_at" (pr1 (p_fault_at))) : FnOk P ww K mg base CX0 5 f fd ["self", "rows"] (pr2 (p_Table_init C_Table)) := by
  refine F.ok sc_Table_init (fun vs H Q E h => len2 h) (fun cdv A outer s H vs Q E hr h => ?_)
  obtain ⟨w, x0, x1,  rfl, rfl, h⟩ := h
  have ekT := ek_T T
  have cl_Table := T.cl_Table
  have na_Table_kept_rows := T.na_Table_kept_rows
  have oex_NoEntry := T.oex_NoEntry; have xf_NoEntry := T.xf_NoEntry; have ec_NoEntry := T.ec_NoEntry; have xn_NoEntry := T.xn_NoEntry
  have oex_NoMoment := T.oex_NoMoment; have xf_NoMoment := T.xf_NoMoment; have ec_NoMoment := T.ec_NoMoment; have xn_NoMoment := T.xn_NoMoment
  have oex_NoName := T.oex_NoName; have xf_NoName := T.xf_NoName; have ec_NoName := T.ec_NoName; have xn_NoName := T.xn_NoName
  have oex_NoPlace := T.oex_NoPlace; have xf_NoPlace := T.xf_NoPlace; have ec_NoPlace := T.ec_NoPlace; have xn_NoPlace := T.xn_NoPlace
  have oex_NoReading := T.oex_NoReading; have xf_NoReading := T.xf_NoReading; have ec_NoReading := T.ec_NoReading; have xn_NoReading := T.xn_NoReading
  have oex_TooMany := T.oex_TooMany; have xf_TooMany := T.xf_TooMany; have ec_TooMany := T.ec_TooMany; have xn_TooMany := T.xn_TooMany
  have rel_NoPlace_NoPlace := T.rel_NoPlace_NoPlace
  have rel_NoPlace_ValueError := T.rel_NoPlace_ValueError
  have rel_NoPlace_NoEntry := T.rel_NoPlace_NoEntry
  have rel_NoPlace_NoMoment := T.rel_NoPlace_NoMoment
  have rel_NoPlace_NoName := T.rel_NoPlace_NoName
  have rel_NoPlace_NoReading := T.rel_NoPlace_NoReading
  have rel_NoPlace_TooMany := T.rel_NoPlace_TooMany
  have exm_NoPlace_LogError := T.exm_NoPlace_LogError
  refine ⟨_, (pss_cons (ps_set (i := 2) sc_Table_init.nd rfl (Or.inl rfl) (pe_fn c_fault_at hr (by decide) pass0 (pa_cons (pv 1) pa_nil)))
      (pss_cons (ps_if (pt_cmpR g_isnot (pv 2) pe_non (nomark _)) (pss_one ps_no) pss_nil)
      (pss_one (ps_fld (pv 0) (pe_callTy (kList K) (by rfl) T.n_list (by decide +kernel) (pa_cons (pv 1) pa_nil)) rfl)))), ?_⟩
  rw [st_Table_init]
  obtain ⟨x, dx, R, rfl, o, hR, hok, k⟩ := h
  obtain ⟨q, vs, rfl, sq, ra⟩ := hR.list_inv
  have hl := hok.l
  wtm_at "gs"
  refine ⟨_, hR, (fun ds e => by cases e; rw [List.length_map]; omega), fun v1 e1 => ?_⟩
  rw [show faultD (spD R) = none from fault_none hok]
  dsimp only [oV]
  wtm_at "gs"
  refine lay (R := Q .non) (show Own _ x _ by wtm_at "own") fun v ev sv => ?_
  exact k v (by wtm_at "ch") ⟨x, dx, _, rfl, sv, .lst (by wtm_at "stb") (by wtm_at "rpa")⟩
local macro_rules | `(tactic| wtm_at "go1") => `(tactic| first
  | with_reducible refine s_makeX ?_
  | with_reducible refine s_methX ?_
  | with_reducible refine s_callX ?_
  | with_reducible refine s_ost ?_
  | with_reducible refine s_veI ?_
  | with_reducible refine s_xg ?_
  | ((with_reducible refine' s_xgv ?h ?x ?n ?k); (case h => wtm_at "hh"); (case x => assumption); (case n => assumption))
  | ((with_reducible refine' s_isXc ?c ?e ?h ?k); (case c => assumption); (case e => assumption); (case h => wtm_at "hh"))
  | ((with_reducible refine' s_isXt ?c ?e ?h ?k); (case c => assumption); (case e => assumption); (case h => wtm_at "hh"))
  | with_reducible refine s_isU ?_
  | fail "go1x")
local macro_rules | `(tactic| wtm_at "go1") => `(tactic| first
  | with_reducible refine s_methX ?_
  | with_reducible refine s_callX ?_
  | with_reducible refine s_ost ?_
  | with_reducible refine s_veI ?_
  | with_reducible refine s_xg ?_
  | ((with_reducible refine' s_xgv ?h ?x ?n ?k); (case h => wtm_at "hh"); (case x => assumption); (case n => assumption))
  | ((with_reducible refine' s_isXc ?c ?e ?h ?k); (case c => assumption); (case e => assumption); (case h => wtm_at "hh"))
  | ((with_reducible refine' s_isXt ?c ?e ?h ?k); (case c => assumption); (case e => assumption); (case h => wtm_at "hh"))
  | with_reducible refine s_isU ?_
  | fail "go1x")
/-- a list of pairs at a, to be read -/
def Ls (w : Wd) (a : V) (rows : List (Int × Int)) : Prop := ∃ p vs, a = .ref p ∧ Rd w p (.lst vs) ∧ RpA w.S vs (rows.map prD)
/-- the answer: a new list of pairs, the caller's own -/
def Tells (w : Wd) (Q : VK) (P : List (Int × Int) → Prop) : Prop := ∀ v r vs out, Ext Non w v → w.H r = none → Own v r (.lst vs) → RpA v.S vs (out.map prD) → P out → Q (.ref r) v.H
abbrev s_joined : Stmt := top 23
abbrev nm_joined : List Str := ["stretches", "found", "low", "high"]
theorem sc_joined : FnScope nm_joined ["stretches"] (defScope s_joined) := ⟨rfl, rfl, rfl, by decide +kernel, rfl, by decide +kernel, by decide +kernel⟩
theorem st_joined (a : V) : start nm_joined [a] = [some a, none, none, none] := rfl
def p_joined (w : Wd) (a : V) (Q : VK) (_ : XK) : Prop := ∃ rows, Ls w a rows ∧ (∀ q ∈ rows, q.1 ≤ q.2) ∧ rows.length < 2 ^ 20 ∧ Tells w Q fun out => Sp none out ∧ out.length ≤ rows.length ∧ ∀ n, ins out n ↔ ins rows n
theorem ok_joined {f : Addr} {fd : FuncData} {C_Entry C_Within C_At C_Between C_Table C_Read C_Joint C_Sifted C_LogError C_NoEntry C_NoMoment C_NoName C_NoPlace C_NoReading C_TooMany : Addr} (F : Fun K "joined" "joined" s_joined f fd) (T : Txt K mg C_Entry C_Within C_At C_Between C_Table C_Read C_Joint C_Sifted C_LogError C_NoEntry C_NoMoment C_NoName C_NoPlace C_NoReading C_TooMany)  : FnOk P ww K mg base CX0 1 f fd ["stretches"] (pr1 (p_joined)) := by
  refine F.ok sc_joined (fun vs H Q E h => len1 h) (fun cdv A outer s H vs Q E hr h => ?_)
  obtain ⟨w, x0,  rfl, rfl, h⟩ := h
  have ekT := ek_T T
  have oex_NoEntry := T.oex_NoEntry; have xf_NoEntry := T.xf_NoEntry; have ec_NoEntry := T.ec_NoEntry; have xn_NoEntry := T.xn_NoEntry
  have oex_NoMoment := T.oex_NoMoment; have xf_NoMoment := T.xf_NoMoment; have ec_NoMoment := T.ec_NoMoment; have xn_NoMoment := T.xn_NoMoment
  have oex_NoName := T.oex_NoName; have xf_NoName := T.xf_NoName; have ec_NoName := T.ec_NoName; have xn_NoName := T.xn_NoName
  have oex_NoPlace := T.oex_NoPlace; have xf_NoPlace := T.xf_NoPlace; have ec_NoPlace := T.ec_NoPlace; have xn_NoPlace := T.xn_NoPlace
  have oex_NoReading := T.oex_NoReading; have xf_NoReading := T.xf_NoReading; have ec_NoReading := T.ec_NoReading; have xn_NoReading := T.xn_NoReading
  have oex_TooMany := T.oex_TooMany; have xf_TooMany := T.xf_TooMany; have ec_TooMany := T.ec_TooMany; have xn_TooMany := T.xn_TooMany
  have rel_NoPlace_NoPlace := T.rel_NoPlace_NoPlace
  have rel_NoPlace_ValueError := T.rel_NoPlace_ValueError
  have rel_NoPlace_NoEntry := T.rel_NoPlace_NoEntry
  have rel_NoPlace_NoMoment := T.rel_NoPlace_NoMoment
  have rel_NoPlace_NoName := T.rel_NoPlace_NoName
  have rel_NoPlace_NoReading := T.rel_NoPlace_NoReading
  have rel_NoPlace_TooMany := T.rel_NoPlace_TooMany
  have exm_NoPlace_LogError := T.exm_NoPlace_LogError
  refine ⟨_, (pss_cons (ps_set (i := 1) sc_joined.nd rfl (Or.inl rfl) (pe_lst pa_nil))
      (pss_cons (ps_for PassesOwn.never rfl (kpList K (pe_callB (kSortedP K) (by rfl) T.n_sorted (by decide +kernel) (pa_cons (pv 0) pa_nil))) (kgTup K (by rfl) (pgs_cons (pg_name (i := 2) sc_joined.nd rfl (Or.inl rfl)) (pgs_cons (pg_name (i := 3) sc_joined.nd rfl (Or.inl rfl)) pgs_nil))) (pss_one (ps_if (PW.pt (pw_and (pt_cmpR (kNe K hr.units) (pv 1) (pe_lst pa_nil) (nomark _)) (pw_and1 (pt_cmpR g_le (pv 2) (pe_op (kAdd K) (pe_ix (kIx K) (pe_ix (kIx K) (pv 1) (pe_un un_neg pe_int) (fun _ _ => rfl)) pe_int (fun _ _ => rfl)) pe_int) (nomark _))))) (pss_one (ps_asg (pe_tup (pa_cons (pe_ix (kIx K) (pe_ix (kIx K) (pv 1) (pe_un un_neg pe_int) (fun _ _ => rfl)) pe_int (fun _ _ => rfl)) (pa_cons (pe_callB (kMax K rfl) (by rfl) T.n_max (by decide +kernel) (pa_cons (pe_ix (kIx K) (pe_ix (kIx K) (pv 1) (pe_un un_neg pe_int) (fun _ _ => rfl)) pe_int (fun _ _ => rfl)) (pa_cons (pv 3) pa_nil))) pa_nil))) (pg_sub (pv 1) (pe_un un_neg pe_int) set_list))) (pss_one (ps_expr (pe_bm PySem.F.plainAttrs_list PySem.F.slot_list_append PySem.F.type_list_append mt_append (pv 1) (pa_cons (pe_tup (pa_cons (pv 2) (pa_cons (pv 3) pa_nil))) pa_nil)))))))
      (pss_one (ps_ret (pv 1))))), ?_⟩
  rw [st_joined]
  obtain ⟨rows, ⟨a, vs, rfl, ra, ha⟩, hw, hl, k⟩ := h
  wtm_at "go"
  rename_i f wf ef nf of
  refine s_sortP (by wtm_at "sq") (by wtm_at "rpa") fun p v S vs' e n s hS hp hs => ?_
  wtm_at "go"
  have hwS : ∀ q ∈ S, q.1 ≤ q.2 := fun q hq => hw q (hp.mem_iff.mp hq)
  have hlS : S.length = rows.length := hp.length_eq
  have hvl := hS.length
  rw [List.length_map] at hvl
  refine forW (ww_list (xs := vs')) (fun i σ u => Ext (One f) v u ∧ ∃ l h fs us, σ = [some (.ref a), some (.ref f), l, h] ∧ Own u f (.lst us) ∧ RpA u.S us (fs.map prD) ∧ JInv S i fs) ⟨Ext.refl _ _, _, _, [], [], rfl, by wtm_at "own", .nil, .nil⟩ (fun i σ u _ p => by have := p.1; exact sql_of (st_go this s)) ?_ ?_
  · rintro i x σ _ u hi ⟨eu, l, h, fs, us, rfl, ou, hus, J⟩ ⟨rfl, hx⟩
    obtain ⟨d, h3, h4⟩ := hS.get hx
    have hi' : i < S.length := by omega
    have h3' : d = prD S[i] := by rw [List.getElem?_map, List.getElem?_eq_getElem hi'] at h3; exact (Option.some.inj h3).symm
    subst h3'
    have hq : S[i]? = some S[i] := List.getElem?_eq_getElem hi'
    have hww := hwS _ (List.mem_of_getElem? hq)
    generalize S[i] = q at hq h4 hww
    obtain ⟨lo, hh⟩ := q
    obtain ⟨t, rfl, ht⟩ := pr_inv (h4.go eu)
    have hul : us.length < 2 ^ 20 := by
      have h5 := hus.length
      rw [List.length_map] at h5
      have := J.len
      omega
    wtm_at "gs"
    refine s_neN (by wtm_at "rd") (by wtm_at "rpa") (by wtm_at "stb") ?_
    rcases nil_or_snoc fs with rfl | ⟨fs, ⟨a, b⟩, rfl⟩
    · rw [show (!([] : List (Int × Int)).isEmpty) = false from rfl]
      wtm_at "gs"
      refine ⟨by wtm_at "ch", _, _, _, _, rfl, by wtm_at "own", ?_, J.app hs hq hww fun x z => by cases z⟩
      rw [List.map_append]
      exact RpA.append (by wtm_at "rpa") (.one (pr_rp (by wtm_at "stb")))
    · rw [show (!(fs ++ [(a, b)]).isEmpty) = true by simp]
      rw [List.map_append] at hus
      obtain ⟨us, y, rfl, hu1, hu2⟩ := RpA.snoc_inv hus
      obtain ⟨t2, rfl, ht2⟩ := pr_inv hu2
      have hul : us.length + 1 < 2 ^ 20 := by simpa using hul
      wtm_at "gs"
      refine ite_d (fun hc => ?_) (fun hc => ?_)
      · wtm_at "gs"
        refine ⟨by wtm_at "ch", _, _, _, _, rfl, by wtm_at "own", ?_, J.mrg hq hww hc⟩
        rw [List.map_append]
        exact RpA.append (by wtm_at "rpa") (.one (pr_rp (by wtm_at "stb")))
      · wtm_at "gs"
        refine ⟨by wtm_at "ch", _, _, _, _, rfl, by wtm_at "own", ?_, J.app hs hq hww fun x hx => ?_⟩
        · rw [List.map_append, List.map_append]
          exact RpA.append (RpA.append (by wtm_at "rpa") (.one (by wtm_at "rp"))) (.one (pr_rp (by wtm_at "stb")))
        · rw [lastHi_snoc] at hx
          cases hx
          show _ ≤ lo
          omega
  · rintro σ u ⟨eu, l, h, fs, us, rfl, ou, hus, J⟩
    wtm_at "go"
    refine k u f us fs (by wtm_at "ch") (by assumption) ou hus ⟨J.sp, by have := J.len; omega, fun n => ?_⟩
    rw [J.mem, hvl, List.take_length, ins_perm hp]
def isStretch : PyData → Bool
  | .tuple ds => decide (ds.length = 2) && ds.all isNum
  | _ => false
abbrev s_is_stretch : Stmt := top 22
abbrev nm_is_stretch : List Str := ["thing", "number"]
theorem sc_is_stretch : FnScope nm_is_stretch ["thing"] (defScope s_is_stretch) := ⟨rfl, rfl, rfl, by decide +kernel, rfl, by decide +kernel, by decide +kernel⟩
theorem st_is_stretch (a : V) : start nm_is_stretch [a] = [some a, none] := rfl
def p_is_stretch (w : Wd) (a : V) (Q : VK) (_ : XK) : Prop := ∃ d, Rp w.S a d ∧ ∀ v, Ext Non w v → Q (.bl (isStretch d)) v.H
theorem ok_is_stretch {f : Addr} {fd : FuncData} {C_Entry C_Within C_At C_Between C_Table C_Read C_Joint C_Sifted C_LogError C_NoEntry C_NoMoment C_NoName C_NoPlace C_NoReading C_TooMany : Addr} (F : Fun K "is_stretch" "is_stretch" s_is_stretch f fd) (T : Txt K mg C_Entry C_Within C_At C_Between C_Table C_Read C_Joint C_Sifted C_LogError C_NoEntry C_NoMoment C_NoName C_NoPlace C_NoReading C_TooMany)  : FnOk P ww K mg base CX0 1 f fd ["thing"] (pr1 (p_is_stretch)) := by
  refine F.ok sc_is_stretch (fun vs H Q E h => len1 h) (fun cdv A outer s H vs Q E hr h => ?_)
  obtain ⟨w, x0,  rfl, rfl, h⟩ := h
  have ekT := ek_T T
  have oex_NoEntry := T.oex_NoEntry; have xf_NoEntry := T.xf_NoEntry; have ec_NoEntry := T.ec_NoEntry; have xn_NoEntry := T.xn_NoEntry
  have oex_NoMoment := T.oex_NoMoment; have xf_NoMoment := T.xf_NoMoment; have ec_NoMoment := T.ec_NoMoment; have xn_NoMoment := T.xn_NoMoment
  have oex_NoName := T.oex_NoName; have xf_NoName := T.xf_NoName; have ec_NoName := T.ec_NoName; have xn_NoName := T.xn_NoName
  have oex_NoPlace := T.oex_NoPlace; have xf_NoPlace := T.xf_NoPlace; have ec_NoPlace := T.ec_NoPlace; have xn_NoPlace := T.xn_NoPlace
  have oex_NoReading := T.oex_NoReading; have xf_NoReading := T.xf_NoReading; have ec_NoReading := T.ec_NoReading; have xn_NoReading := T.xn_NoReading
  have oex_TooMany := T.oex_TooMany; have xf_TooMany := T.xf_TooMany; have ec_TooMany := T.ec_TooMany; have xn_TooMany := T.xn_TooMany
  have rel_NoPlace_NoPlace := T.rel_NoPlace_NoPlace
  have rel_NoPlace_ValueError := T.rel_NoPlace_ValueError
  have rel_NoPlace_NoEntry := T.rel_NoPlace_NoEntry
  have rel_NoPlace_NoMoment := T.rel_NoPlace_NoMoment
  have rel_NoPlace_NoName := T.rel_NoPlace_NoName
  have rel_NoPlace_NoReading := T.rel_NoPlace_NoReading
  have rel_NoPlace_TooMany := T.rel_NoPlace_TooMany
  have exm_NoPlace_LogError := T.exm_NoPlace_LogError
  refine ⟨_, (pss_cons (ps_if (PW.pt (pw_or (pt_not (pt_val (pe_callB (kIsi K) (by rfl) T.n_isinstance (by decide +kernel) (pa_cons (pv 0) (pa_cons (pe_bltn (v := .ty "tuple") (u := .type "tuple") rfl T.n_tuple (by decide +kernel) rfl) pa_nil))))) (pw_or1 (pt_cmpR (kNe K hr.units) (pe_callB (kLen K) (by rfl) T.n_len (by decide +kernel) (pa_cons (pv 0) pa_nil)) pe_int (nomark _))))) (pss_one (ps_ret pe_bl)) pss_nil)
      (pss_one (ps_ret (pe_callB (kAll K rfl) (by rfl) T.n_all (by decide +kernel) (pa_cons (pe_lc (own := [("number", 1)]) (g := (gName 1)) (tt := tYes) (by rfl) sc_is_stretch.nd (kpTup K (pv 0)) (blkOk_by (own := [("number", 1)]) (N := nm_is_stretch) (sc := defScope s_is_stretch) (by decide +kernel)) (fun _ _ _ _ _ => (pg_name (i := 1) sc_is_stretch.nd rfl (Or.inl rfl))) (fun _ _ _ _ _ => pts_nil) (fun _ _ _ _ _ => (pe_and (pe_callB (kIsi K) (by rfl) T.n_isinstance (by decide +kernel) (pa_cons (pv 1) (pa_cons (pe_bltn (v := .ty "int") (u := .type "int") rfl T.n_int (by decide +kernel) rfl) pa_nil))) (pe_one (pe_not (pe_callB (kIsi K) (by rfl) T.n_isinstance (by decide +kernel) (pa_cons (pv 1) (pa_cons (pe_bltn (v := .ty "bool") (u := .type "bool") rfl T.n_bool (by decide +kernel) rfl) pa_nil)))))))) pa_nil))))), ?_⟩
  rw [st_is_stretch]
  obtain ⟨d, hd, k⟩ := h
  wtm_at "go"
  refine ite_n (fun hb => ?_) (fun hb => ?_)
  · wtm_at "go"
    have e : isStretch d = false := by cases d <;> first | rfl | cases hb
    exact e ▸ k w (Ext.refl _ _)
  · obtain ⟨ds, rfl⟩ := isTup_inv hb
    obtain ⟨a, vs, rfl, hs, ha⟩ := hd.tuple_inv
    have hl := ha.length
    wtm_at "go"
    refine ite_d (fun h2 => ?_) (fun h2 => ?_)
    · wtm_at "go"
      have e : isStretch (.tuple ds) = false := by simp only [isStretch]; rw [decide_eq_false (by omega), Bool.false_and]
      exact e ▸ k w (Ext.refl _ _)
    · wtm_at "go"
      intro D hD
      refine lc_pure (ww_tup (xs := vs)) ((ds.map isNum).map V.bl) hD (fun u e => sqt_ext e hs) (by simp [hl]) (by rw [sizeLine_eq]; omega) (fun _ => rfl) ?_ ?_
      · intro i x y u hi hx hy e R kR
        obtain ⟨d, h3, h4⟩ := ha.get hx
        obtain rfl : y = .bl (isNum d) := by simp [h3] at hy; exact hy.symm
        wtm_at "go"
        refine ite_b (fun h5 => ?_) (fun h5 => ?_)
        · wtm_at "go"
          have e5 : isNum d = !isBool d := by unfold isNum; rw [h5, Bool.true_and]
          exact e5 ▸ kR u (Ext.refl _ _)
        · have e5 : isNum d = false := by unfold isNum; rw [h5, Bool.false_and]
          exact e5 ▸ kR u (Ext.refl _ _)
      · intro u eu hD o
        wtm_at "go"
        have e : isStretch (.tuple ds) = (ds.map isNum).all id := by simp only [isStretch]; rw [decide_eq_true (by omega), Bool.true_and, List.all_map]; rfl
        exact e ▸ k u eu
theorem drop_at {α : Type} {xs : List α} {i : Nat} {x : α} (h : xs[i]? = some x) : xs.drop i = x :: xs.drop (i + 1) := by
  obtain ⟨h1, rfl⟩ := List.getElem?_eq_some_iff.mp h
  exact List.drop_eq_getElem_cons h1
/-- the last high -/
def lastHi (l : Option Int) : List (Int × Int) → Option Int
  | [] => l
  | p :: r => lastHi (some p.2) r
theorem lastHi_snoc (a b : Int) : ∀ (l : Option Int) (rows : List (Int × Int)), lastHi l (rows ++ [(a, b)]) = some b
  | _, [] => rfl
  | _, p :: r => lastHi_snoc a b (some p.2) r
abbrev s_NoReading_init : Stmt := inClass (top 5) 0
abbrev nm_NoReading_init : List Str := ["self", "found"]
theorem sc_NoReading_init : FnScope nm_NoReading_init ["self", "found"] (defScope s_NoReading_init) := ⟨rfl, rfl, rfl, by decide +kernel, rfl, by decide +kernel, by decide +kernel⟩
theorem st_NoReading_init (a b : V) : start nm_NoReading_init [a, b] = [some a, some b] := rfl
abbrev p_NoReading_init (C : Addr) := initX (Str.ofString "found") C
theorem ok_NoReading_init {f : Addr} {fd : FuncData} {C_Entry C_Within C_At C_Between C_Table C_Read C_Joint C_Sifted C_LogError C_NoEntry C_NoMoment C_NoName C_NoPlace C_NoReading C_TooMany : Addr} (F : Fun K "__init__" "NoReading.__init__" s_NoReading_init f fd) (T : Txt K mg C_Entry C_Within C_At C_Between C_Table C_Read C_Joint C_Sifted C_LogError C_NoEntry C_NoMoment C_NoName C_NoPlace C_NoReading C_TooMany)  : FnOk P ww K mg base CX0 1 f fd ["self", "found"] (pr2 (p_NoReading_init C_NoReading)) := by
  refine F.ok sc_NoReading_init (fun vs H Q E h => len2 h) (fun cdv A outer s H vs Q E hr h => ?_)
  obtain ⟨w, x0, x1,  rfl, rfl, h⟩ := h
  have ekT := ek_T T
  have cl_Table := T.cl_Table
  have na_Table_kept_rows := T.na_Table_kept_rows
  have oex_NoEntry := T.oex_NoEntry; have xf_NoEntry := T.xf_NoEntry; have ec_NoEntry := T.ec_NoEntry; have xn_NoEntry := T.xn_NoEntry
  have oex_NoMoment := T.oex_NoMoment; have xf_NoMoment := T.xf_NoMoment; have ec_NoMoment := T.ec_NoMoment; have xn_NoMoment := T.xn_NoMoment
  have oex_NoName := T.oex_NoName; have xf_NoName := T.xf_NoName; have ec_NoName := T.ec_NoName; have xn_NoName := T.xn_NoName
  have oex_NoPlace := T.oex_NoPlace; have xf_NoPlace := T.xf_NoPlace; have ec_NoPlace := T.ec_NoPlace; have xn_NoPlace := T.xn_NoPlace
  have oex_NoReading := T.oex_NoReading; have xf_NoReading := T.xf_NoReading; have ec_NoReading := T.ec_NoReading; have xn_NoReading := T.xn_NoReading
  have oex_TooMany := T.oex_TooMany; have xf_TooMany := T.xf_TooMany; have ec_TooMany := T.ec_TooMany; have xn_TooMany := T.xn_TooMany
  have rel_NoPlace_NoPlace := T.rel_NoPlace_NoPlace
  have rel_NoPlace_ValueError := T.rel_NoPlace_ValueError
  have rel_NoPlace_NoEntry := T.rel_NoPlace_NoEntry
  have rel_NoPlace_NoMoment := T.rel_NoPlace_NoMoment
  have rel_NoPlace_NoName := T.rel_NoPlace_NoName
  have rel_NoPlace_NoReading := T.rel_NoPlace_NoReading
  have rel_NoPlace_TooMany := T.rel_NoPlace_TooMany
  have exm_NoPlace_LogError := T.exm_NoPlace_LogError
  refine ⟨_, (pss_cons (ps_expr (pe_xinit (pe_glob (v := .ref C_LogError) (u := .ref C_LogError) rfl T.g_LogError rfl) T.rd_LogError T.gs_LogError T.vv_LogError (pa_cons (pv 0) (pa_cons pe_str pa_nil))))
      (pss_one (ps_ost (pv 0) (pv 1)))), ?_⟩
  rw [st_NoReading_init]
  obtain ⟨x, rfl, hx, k⟩ := h
  wtm_at "gs"
  refine ⟨x, _, _, rfl, by simp, oex_NoReading, hx, ?_⟩
  wtm_at "gs"
  exact ⟨x, C_NoReading, rfl, oex_NoReading, xn_NoReading, .inl ⟨hx, fun dx h1 h2 => k dx h1 h2⟩⟩
abbrev s_Table_pieces : Stmt := inClass (top 40) 2
abbrev nm_Table_pieces : List Str := ["self", "found", "at", "moment", "shift", "last"]
theorem sc_Table_pieces : FnScope nm_Table_pieces ["self"] (defScope s_Table_pieces) := ⟨rfl, rfl, rfl, by decide +kernel, rfl, by decide +kernel, by decide +kernel⟩
theorem st_Table_pieces (a : V) : start nm_Table_pieces [a] = [some a, none, none, none, none, none] := rfl
def p_Table_pieces (C : Addr) (w : Wd) (a : V) (Q : VK) (_ : XK) : Prop := ∃ R, TbS C w.S a R ∧ TabOk R ∧ ∀ v r vs, Ext Non w v → w.H r = none → Own v r (.lst vs) → RpA v.S vs ((pcsI R).map trD3) → Q (.ref r) v.H
theorem ok_Table_pieces {f : Addr} {fd : FuncData} {C_Entry C_Within C_At C_Between C_Table C_Read C_Joint C_Sifted C_LogError C_NoEntry C_NoMoment C_NoName C_NoPlace C_NoReading C_TooMany : Addr} (F : Fun K "pieces" "Table.pieces" s_Table_pieces f fd) (T : Txt K mg C_Entry C_Within C_At C_Between C_Table C_Read C_Joint C_Sifted C_LogError C_NoEntry C_NoMoment C_NoName C_NoPlace C_NoReading C_TooMany)  : FnOk P ww K mg base CX0 1 f fd ["self"] (pr1 (p_Table_pieces C_Table)) := by
  refine F.ok sc_Table_pieces (fun vs H Q E h => len1 h) (fun cdv A outer s H vs Q E hr h => ?_)
  obtain ⟨w, x0,  rfl, rfl, h⟩ := h
  have ekT := ek_T T
  have cl_Table := T.cl_Table
  have na_Table_kept_rows := T.na_Table_kept_rows
  have oex_NoEntry := T.oex_NoEntry; have xf_NoEntry := T.xf_NoEntry; have ec_NoEntry := T.ec_NoEntry; have xn_NoEntry := T.xn_NoEntry
  have oex_NoMoment := T.oex_NoMoment; have xf_NoMoment := T.xf_NoMoment; have ec_NoMoment := T.ec_NoMoment; have xn_NoMoment := T.xn_NoMoment
  have oex_NoName := T.oex_NoName; have xf_NoName := T.xf_NoName; have ec_NoName := T.ec_NoName; have xn_NoName := T.xn_NoName
  have oex_NoPlace := T.oex_NoPlace; have xf_NoPlace := T.xf_NoPlace; have ec_NoPlace := T.ec_NoPlace; have xn_NoPlace := T.xn_NoPlace
  have oex_NoReading := T.oex_NoReading; have xf_NoReading := T.xf_NoReading; have ec_NoReading := T.ec_NoReading; have xn_NoReading := T.xn_NoReading
  have oex_TooMany := T.oex_TooMany; have xf_TooMany := T.xf_TooMany; have ec_TooMany := T.ec_TooMany; have xn_TooMany := T.xn_TooMany
  have rel_NoPlace_NoPlace := T.rel_NoPlace_NoPlace
  have rel_NoPlace_ValueError := T.rel_NoPlace_ValueError
  have rel_NoPlace_NoEntry := T.rel_NoPlace_NoEntry
  have rel_NoPlace_NoMoment := T.rel_NoPlace_NoMoment
  have rel_NoPlace_NoName := T.rel_NoPlace_NoName
  have rel_NoPlace_NoReading := T.rel_NoPlace_NoReading
  have rel_NoPlace_TooMany := T.rel_NoPlace_TooMany
  have exm_NoPlace_LogError := T.exm_NoPlace_LogError
  refine ⟨_, (pss_cons (ps_set (i := 1) sc_Table_pieces.nd rfl (Or.inl rfl) (pe_lst pa_nil))
      (pss_cons (ps_for PassesOwn.never rfl (kpEnum K (by rfl) T.n_enumerate (pa_cons (pe_fld (pv 0) rfl) pa_nil)) (kgTup K (by rfl) (pgs_cons (pg_name (i := 2) sc_Table_pieces.nd rfl (Or.inl rfl)) (pgs_cons (kgTup K (by rfl) (pgs_cons (pg_name (i := 3) sc_Table_pieces.nd rfl (Or.inl rfl)) (pgs_cons (pg_name (i := 4) sc_Table_pieces.nd rfl (Or.inl rfl)) pgs_nil))) pgs_nil))) (pss_cons (ps_set (i := 5) sc_Table_pieces.nd rfl (Or.inl rfl) (pe_gco rfl T.c_LAST))
      (pss_cons (ps_if (pt_cmpR g_lt (pe_op (kAdd K) (pv 2) pe_int) (pe_callB (kLen K) (by rfl) T.n_len (by decide +kernel) (pa_cons (pe_fld (pv 0) rfl) pa_nil)) (nomark _)) (pss_one (ps_set (i := 5) sc_Table_pieces.nd rfl (Or.inl rfl) (pe_op g_sub (pe_ix (kIx K) (pe_ix (kIx K) (pe_fld (pv 0) rfl) (pe_op (kAdd K) (pv 2) pe_int) (fun _ _ => rfl)) pe_int (fun _ _ => rfl)) pe_int))) pss_nil)
      (pss_one (ps_expr (pe_bm PySem.F.plainAttrs_list PySem.F.slot_list_append PySem.F.type_list_append mt_append (pv 1) (pa_cons (pe_tup (pa_cons (pv 3) (pa_cons (pv 5) (pa_cons (pv 4) pa_nil)))) pa_nil)))))))
      (pss_one (ps_ret (pv 1))))), ?_⟩
  rw [st_Table_pieces]
  obtain ⟨R, ⟨x, dx, y, rfl, sx, hR⟩, hok, k⟩ := h
  obtain ⟨q, vs, rfl, sq, ra⟩ := hR.list_inv
  have la := ra.length
  rw [List.length_map] at la
  have hl := hok.l
  wtm_at "go"
  rename_i D v1 e1 n1 o1
  refine ⟨q, vs, rfl, SqL.of (v1.ok _ _ (st_go e1 sq)), ?_⟩
  refine forW (ww_enum (xs := vs)) (fun i σ u => Ext (One D) v1 u ∧ ∃ (fs : List V) (g1 g2 g3 g4 : Option V), σ = [some (.ref x), some (.ref D), g1, g2, g3, g4] ∧ Own u D (.lst fs) ∧ RpA u.S fs (((List.range i).map (pcAt R)).map trD3)) ⟨Ext.refl _ _, [], _, _, _, _, rfl, o1, .nil⟩ (fun i σ u _ p => sql_of (st_go p.1 (st_go e1 sq))) ?_ ?_
  · rintro i z σ u v hi ⟨eu, fs, g1, g2, g3, g4, rfl, o, rf⟩ ⟨T, z1, rfl, ev, hT, sT, hz⟩
    obtain ⟨p, t, hp, rfl, st0⟩ := rpa_pr ra hz
    have lf := rf.length
    rw [List.length_map, List.length_map, List.length_range] at lf
    have epc : pcAt R i = (p.1, lastOf R i, p.2) := by
      unfold pcAt
      rw [List.getD_eq_getElem?_getD, hp]
      rfl
    have stv : v.S t = some (.tup [.int p.1, .int p.2]) := by wtm_at "stb"
    have sxv : v.S x = some (.ins C_Table dx [("kept_rows", .ref q)]) := by wtm_at "stb"
    have sqv : v.S q = some (.lst vs) := by wtm_at "stb"
    wtm_at "goi"
    refine s_ifJ (fun σ u2 => Ext Non v u2 ∧ σ = [some (.ref x), some (.ref D), some (.int (i : Nat)), some (.int p.1), some (.int p.2), some (.int (lastOf R i))]) (fun Z hZ => ?_) ?_
    · wtm_at "go"
      refine ite_d (fun c1 => ?_) (fun c1 => ?_)
      · have hq : R[i + 1]? = some R[i + 1] := List.getElem?_eq_getElem (by omega)
        generalize R[i + 1] = p2 at hq
        obtain ⟨z2, hz2, hzr⟩ := ra.get' (i := i + 1) (d := prD p2) (by rw [List.getElem?_map, hq]; rfl)
        obtain ⟨t2, rfl, st2⟩ := pr_inv (show Rp w.S z2 (prD p2) from hzr)
        have elast : lastOf R i = p2.1 - 1 := by unfold lastOf; rw [hq]
        have st2v : v.S t2 = some (.tup [.int p2.1, .int p2.2]) := by wtm_at "stb"
        wtm_at "go"
        refine s_ixL sqv (show atI vs _ = some (V.ref t2) by rw [atI_nn (by omega) (by omega), show (((i : Nat) : Int) + 1).toNat = i + 1 by omega]; exact hz2) ?_
        wtm_at "go"
        rw [← elast]
        exact hZ _ _ ⟨by wtm_at "ch", rfl⟩
      · have elast : lastOf R i = 1000000000 := by
          unfold lastOf
          rw [List.getElem?_eq_none (by omega)]
        wtm_at "go"
        rw [← elast]
        exact hZ _ _ ⟨by wtm_at "ch", rfl⟩
    · rintro σ u2 ⟨eu2, rfl⟩
      wtm_at "go"
      refine ⟨by wtm_at "ch", _, _, _, _, _, rfl, by wtm_at "own", ?_⟩
      rw [List.range_succ, List.map_append, List.map_append]
      refine RpA.append (by wtm_at "rpa") ?_
      show RpA _ _ [trD3 (pcAt R i)]
      rw [epc]
      exact .cons (.tup (by wtm_at "stb") (.cons (.int _) (.cons (.int _) (.cons (.int _) .nil)))) .nil
  · rintro σ u ⟨eu, fs, g1, g2, g3, g4, rfl, o, rf⟩
    rw [la] at rf
    wtm_at "go"
    exact k _ _ _ (by wtm_at "ch") n1 o rf
abbrev s_spans_of : Stmt := top 24
abbrev nm_spans_of : List Str := ["stretches", "at", "stretch", "low", "high"]
theorem sc_spans_of : FnScope nm_spans_of ["stretches"] (defScope s_spans_of) := ⟨rfl, rfl, rfl, by decide +kernel, rfl, by decide +kernel, by decide +kernel⟩
theorem st_spans_of (a : V) : start nm_spans_of [a] = [some a, none, none, none, none] := rfl
def p_spans_of (w : Wd) (a : V) (Q : VK) (_ : XK) : Prop := ∃ rows, Ls w a rows ∧ rows.length < 1000 ∧ Tells w Q fun out => Sp none out ∧ out.length ≤ rows.length ∧ ∀ n, ins out n ↔ ins (rows.filter ne2) n
theorem ok_spans_of {f : Addr} {fd : FuncData} {C_Entry C_Within C_At C_Between C_Table C_Read C_Joint C_Sifted C_LogError C_NoEntry C_NoMoment C_NoName C_NoPlace C_NoReading C_TooMany : Addr} (F : Fun K "spans_of" "spans_of" s_spans_of f fd) (T : Txt K mg C_Entry C_Within C_At C_Between C_Table C_Read C_Joint C_Sifted C_LogError C_NoEntry C_NoMoment C_NoName C_NoPlace C_NoReading C_TooMany) (c_is_stretch : Fnc P ww K mg base CX0 1 "is_stretch" (pr1 (p_is_stretch))) (c_joined : Fnc P ww K mg base CX0 1 "joined" (pr1 (p_joined))) : FnOk P ww K mg base CX0 2 f fd ["stretches"] (pr1 (p_spans_of)) := by
  refine F.ok sc_spans_of (fun vs H Q E h => len1 h) (fun cdv A outer s H vs Q E hr h => ?_)
  obtain ⟨w, x0,  rfl, rfl, h⟩ := h
  have ekT := ek_T T
  have oex_NoEntry := T.oex_NoEntry; have xf_NoEntry := T.xf_NoEntry; have ec_NoEntry := T.ec_NoEntry; have xn_NoEntry := T.xn_NoEntry
  have oex_NoMoment := T.oex_NoMoment; have xf_NoMoment := T.xf_NoMoment; have ec_NoMoment := T.ec_NoMoment; have xn_NoMoment := T.xn_NoMoment
  have oex_NoName := T.oex_NoName; have xf_NoName := T.xf_NoName; have ec_NoName := T.ec_NoName; have xn_NoName := T.xn_NoName
  have oex_NoPlace := T.oex_NoPlace; have xf_NoPlace := T.xf_NoPlace; have ec_NoPlace := T.ec_NoPlace; have xn_NoPlace := T.xn_NoPlace
  have oex_NoReading := T.oex_NoReading; have xf_NoReading := T.xf_NoReading; have ec_NoReading := T.ec_NoReading; have xn_NoReading := T.xn_NoReading
  have oex_TooMany := T.oex_TooMany; have xf_TooMany := T.xf_TooMany; have ec_TooMany := T.ec_TooMany; have xn_TooMany := T.xn_TooMany
  have rel_NoPlace_NoPlace := T.rel_NoPlace_NoPlace
  have rel_NoPlace_ValueError := T.rel_NoPlace_ValueError
  have rel_NoPlace_NoEntry := T.rel_NoPlace_NoEntry
  have rel_NoPlace_NoMoment := T.rel_NoPlace_NoMoment
  have rel_NoPlace_NoName := T.rel_NoPlace_NoName
  have rel_NoPlace_NoReading := T.rel_NoPlace_NoReading
  have rel_NoPlace_TooMany := T.rel_NoPlace_TooMany
  have exm_NoPlace_LogError := T.exm_NoPlace_LogError
  refine ⟨_, (pss_cons (ps_if (pt_not (pt_val (pe_callB (kIsi K) (by rfl) T.n_isinstance (by decide +kernel) (pa_cons (pv 0) (pa_cons (pe_bltn (v := .ty "list") (u := .type "list") rfl T.n_list (by decide +kernel) rfl) pa_nil))))) (pss_one ps_no) pss_nil)
      (pss_cons (ps_for PassesOwn.never rfl (kpEnum K (by rfl) T.n_enumerate (pa_cons (pv 0) pa_nil)) (kgTup K (by rfl) (pgs_cons (pg_name (i := 1) sc_spans_of.nd rfl (Or.inl rfl)) (pgs_cons (pg_name (i := 2) sc_spans_of.nd rfl (Or.inl rfl)) pgs_nil))) (pss_one (ps_if (pt_not (pt_val (pe_fn c_is_stretch hr (by decide) pass0 (pa_cons (pv 2) pa_nil)))) (pss_one ps_no) pss_nil)))
      (pss_one (ps_ret (pe_fn c_joined hr (by decide) pass0 (pa_cons (pe_lc (own := [("low", 3), ("high", 4)]) (g := (gTup K 2 (gCons (gName 3) (gCons (gName 4) gNil)))) (tt := _) (by rfl) sc_spans_of.nd (kpList K (pv 0)) (blkOk_by (own := [("low", 3), ("high", 4)]) (N := nm_spans_of) (sc := defScope s_spans_of) (by decide +kernel)) (fun _ _ _ _ _ => (kgTup K (by rfl) (pgs_cons (pg_name (i := 3) sc_spans_of.nd rfl (Or.inl rfl)) (pgs_cons (pg_name (i := 4) sc_spans_of.nd rfl (Or.inl rfl)) pgs_nil)))) (fun _ _ _ _ _ => (pts_one (pt_cmpR g_le (pv 3) (pv 4) (nomark _)))) (fun _ _ _ _ _ => (pe_tup (pa_cons (pv 3) (pa_cons (pv 4) pa_nil))))) pa_nil)))))), ?_⟩
  rw [st_spans_of]
  obtain ⟨rows, ⟨p, vs, rfl, rd, ra⟩, hl, k⟩ := h
  have la := ra.length
  rw [List.length_map] at la
  wtm_at "gs"
  refine ⟨p, vs, rfl, SqL.of rd.h, ?_⟩
  refine forW (ww_enum (xs := vs)) (fun i σ u => Ext Non w u ∧ ∃ (g h : Option V), σ = [some (.ref p), g, h, none, none]) ⟨Ext.refl _ _, _, _, rfl⟩ (fun i σ u _ p => SqL.of (Rd.h (rd.go p.1 fun z => z))) ?_ ?_
  · rintro i x σ u v hi ⟨eu, g, h, rfl⟩ ⟨T, x1, rfl, ev, hT, sT, hx⟩
    obtain ⟨r, t, hr, rfl, st⟩ := rpa_pr ra hx
    have h5 : Rp v.S (.ref t) (prD r) := .tup (by wtm_at "stb") (.cons (.int _) (.cons (.int _) .nil))
    have ewv : Ext Non w v := by wtm_at "ch"
    clear eu ev
    wtm_at "gs"
    refine ⟨prD r, h5, fun v1 e1 => ?_⟩
    rw [show isStretch (prD r) = true from rfl]
    wtm_at "gs"
    exact ⟨by wtm_at "ch", _, _, rfl⟩
  · rintro σ u ⟨eu, g, h, rfl⟩
    have rdu : Rd u p (.lst vs) := rd.go eu fun z => z
    have rau : RpA u.S vs (rows.map prD) := ra.go eu
    wtm_at "go"
    intro D hD
    have nwD : w.H D = none := eu.back hD
    refine lc_rows (ww_list (xs := vs)) ne2 prD hD rau rfl (by rw [sizeLine_eq]; omega) (fun u e => SqL.of (Rd.h (rdu.go e (rdu.ne hD)))) ?_ ?_
    · intro i z q u5 hi hx hq hr e R' Z hR' hZ
      obtain ⟨t, rfl, ht⟩ := pr_inv hr
      wtm_at "go"
      refine ⟨rfl, ?_⟩
      wtm_at "go"
      refine ite_d (fun c1 => ?_) (fun c1 => ?_)
      · wtm_at "gs"
        exact hR' _ _ (by wtm_at "ch") (by unfold ne2; simpa using c1) (.tup (by wtm_at "stb") (.cons (.int _) (.cons (.int _) .nil)))
      · exact hZ _ (Ext.refl _ _) (by unfold ne2; simpa using c1)
    · intro u5 acc eu5 hD' oD ha2
      have lfl := List.length_filter_le ne2 rows
      have ew5 : Ext Non w u5 := eu.trans eu5
      wtm_at "go"
      refine ⟨rows.filter ne2, ⟨D, acc, rfl, .inr oD, ha2⟩, fun q hq => by simpa [ne2] using (List.mem_filter.mp hq).2, by omega, fun v r vs out e n o h p => ?_⟩
      exact k v r vs out (ew5.trans e) (ew5.back n) o h ⟨p.1, by have := p.2.1; omega, p.2.2⟩
abbrev s_Table_moments_between : Stmt := inClass (top 40) 6
abbrev nm_Table_moments_between : List Str := ["self", "low", "high", "bound", "stretches", "first", "last", "shift"]
theorem sc_Table_moments_between : FnScope nm_Table_moments_between ["self", "low", "high"] (defScope s_Table_moments_between) := ⟨rfl, rfl, rfl, by decide +kernel, rfl, by decide +kernel, by decide +kernel⟩
theorem st_Table_moments_between (a b c : V) : start nm_Table_moments_between [a, b, c] = [some a, some b, some c, none, none, none, none, none] := rfl
def p_Table_moments_between (C N : Addr) (w : Wd) (a b c : V) (Q : VK) (E : XK) : Prop := ∃ R d f, TbS C w.S a R ∧ TabOk R ∧ Rp w.S b d ∧ Rp w.S c f ∧
  (∀ lo hi, d = .int lo → f = .int hi → -10000000000 ≤ lo → lo ≤ 10000000000 → -10000000000 ≤ hi → hi ≤ 10000000000 → Tells w Q fun out => Sp none out ∧ out.length ≤ 21 ∧ ∀ n, ins out n ↔ ins ((strsR R lo hi R.length).filter ne2) n) ∧
  (wholeB d (0 - 10000000000) 10000000000 = false → ∀ v e, Ext Non w v → w.H e = none → Own v e (.xd [(Str.ofString "found", b)]) → E (.ref N) (some e) v.H) ∧
  (wholeB d (0 - 10000000000) 10000000000 = true → wholeB f (0 - 10000000000) 10000000000 = false → ∀ v e, Ext Non w v → w.H e = none → Own v e (.xd [(Str.ofString "found", c)]) → E (.ref N) (some e) v.H)
theorem ok_Table_moments_between {f : Addr} {fd : FuncData} {C_Entry C_Within C_At C_Between C_Table C_Read C_Joint C_Sifted C_LogError C_NoEntry C_NoMoment C_NoName C_NoPlace C_NoReading C_TooMany : Addr} (F : Fun K "moments_between" "Table.moments_between" s_Table_moments_between f fd) (T : Txt K mg C_Entry C_Within C_At C_Between C_Table C_Read C_Joint C_Sifted C_LogError C_NoEntry C_NoMoment C_NoName C_NoPlace C_NoReading C_TooMany) (c_NoReading_init : Mxr P ww K mg base C_NoReading 1 (pr2 (p_NoReading_init C_NoReading))) (c_Table_pieces : Mth P ww K mg base CX0 C_Table 1 "pieces" (pr1 (p_Table_pieces C_Table))) (c_is_reading : Fnc P ww K mg base CX0 2 "is_reading" (pr1 (p_is_reading))) (c_spans_of : Fnc P ww K mg base CX0 2 "spans_of" (pr1 (p_spans_of))) : FnOk P ww K mg base (L2.CX P ww) 3 f fd ["self", "low", "high"] (pr3 (p_Table_moments_between C_Table C_NoReading)) := by
  refine F.okX sc_Table_moments_between (fun vs H Q E h => len3 h) (fun cdv A outer s H vs Q E hr h => ?_)
  obtain ⟨w, x0, x1, x2,  rfl, rfl, h⟩ := h
  have ekT := ek_T T
  have cl_Table := T.cl_Table
  have na_Table_kept_rows := T.na_Table_kept_rows
  have oex_NoEntry := T.oex_NoEntry; have xf_NoEntry := T.xf_NoEntry; have ec_NoEntry := T.ec_NoEntry; have xn_NoEntry := T.xn_NoEntry
  have oex_NoMoment := T.oex_NoMoment; have xf_NoMoment := T.xf_NoMoment; have ec_NoMoment := T.ec_NoMoment; have xn_NoMoment := T.xn_NoMoment
  have oex_NoName := T.oex_NoName; have xf_NoName := T.xf_NoName; have ec_NoName := T.ec_NoName; have xn_NoName := T.xn_NoName
  have oex_NoPlace := T.oex_NoPlace; have xf_NoPlace := T.xf_NoPlace; have ec_NoPlace := T.ec_NoPlace; have xn_NoPlace := T.xn_NoPlace
  have oex_NoReading := T.oex_NoReading; have xf_NoReading := T.xf_NoReading; have ec_NoReading := T.ec_NoReading; have xn_NoReading := T.xn_NoReading
  have oex_TooMany := T.oex_TooMany; have xf_TooMany := T.xf_TooMany; have ec_TooMany := T.ec_TooMany; have xn_TooMany := T.xn_TooMany
  have rel_NoPlace_NoPlace := T.rel_NoPlace_NoPlace
  have rel_NoPlace_ValueError := T.rel_NoPlace_ValueError
  have rel_NoPlace_NoEntry := T.rel_NoPlace_NoEntry
  have rel_NoPlace_NoMoment := T.rel_NoPlace_NoMoment
  have rel_NoPlace_NoName := T.rel_NoPlace_NoName
  have rel_NoPlace_NoReading := T.rel_NoPlace_NoReading
  have rel_NoPlace_TooMany := T.rel_NoPlace_TooMany
  have exm_NoPlace_LogError := T.exm_NoPlace_LogError
  refine ⟨_, (pss_cons (ps_for (passes_of rfl) rfl (kpTup K (pe_tup (pa_cons (pv 1) (pa_cons (pv 2) pa_nil)))) (pg_name (i := 3) sc_Table_moments_between.nd rfl (Or.inl rfl)) (pss_one (ps_if (pt_not (pt_val (pe_fn c_is_reading hr (by decide) pass0 (pa_cons (pv 3) pa_nil)))) (pss_one (ps_raiseX rfl (takes_of rfl rfl rfl rfl) c_NoReading_init hr (by decide) T.g_NoReading (pa_cons (pv 3) pa_nil))) pss_nil)))
      (pss_cons (ps_set (i := 4) sc_Table_moments_between.nd rfl (Or.inl rfl) (pe_lst pa_nil))
      (pss_cons (ps_for (passes_of rfl) rfl (kpList K (pe_mth0 c_Table_pieces T.cl_Table hr (by decide) pass0 (pv 0))) (kgTup K (by rfl) (pgs_cons (pg_name (i := 5) sc_Table_moments_between.nd rfl (Or.inl rfl)) (pgs_cons (pg_name (i := 6) sc_Table_moments_between.nd rfl (Or.inl rfl)) (pgs_cons (pg_name (i := 7) sc_Table_moments_between.nd rfl (Or.inl rfl)) pgs_nil)))) (pss_one (ps_expr (pe_bm PySem.F.plainAttrs_list PySem.F.slot_list_append PySem.F.type_list_append mt_append (pv 4) (pa_cons (pe_tup (pa_cons (pe_callB (kMax K rfl) (by rfl) T.n_max (by decide +kernel) (pa_cons (pv 5) (pa_cons (pe_op g_sub (pv 1) (pv 7)) pa_nil))) (pa_cons (pe_callB (kMin K rfl) (by rfl) T.n_min (by decide +kernel) (pa_cons (pv 6) (pa_cons (pe_op g_sub (pv 2) (pv 7)) pa_nil))) pa_nil))) pa_nil)))))
      (pss_one (ps_ret (pe_fn c_spans_of hr (by decide) pass0 (pa_cons (pv 4) pa_nil))))))), ?_⟩
  rw [st_Table_moments_between]
  obtain ⟨R, d, f, hT, hok, hd, hf, k1, k2, k3⟩ := h
  obtain ⟨x, dx, y, rfl, sx, hR⟩ := id hT
  wtm_at "gs"
  rename_i T v0 e0 n0 s0
  refine forW (ww_tup (xs := [x1, x2])) (fun i σ u => Ext Non v0 u ∧ ∃ g, σ = [some (.ref x), some x1, some x2, g, none, none, none, none] ∧ (1 ≤ i → wholeB d (0 - 10000000000) 10000000000 = true) ∧ (2 ≤ i → wholeB f (0 - 10000000000) 10000000000 = true)) ⟨Ext.refl _ _, _, rfl, (fun z => absurd z (by decide)), (fun z => absurd z (by decide))⟩ (fun i σ u _ hh => sqt_of (st_go hh.1 s0)) ?_ ?_
  · rintro i z σ _ u hi ⟨eu, g, rfl, h1, h2⟩ ⟨rfl, hz⟩
    have hi2 : i < 2 := hi
    have hcase : (i = 0 ∧ z = x1) ∨ (i = 1 ∧ z = x2) := by
      match i, hi2 with
      | 0, _ => exact .inl ⟨rfl, by simpa using hz.symm⟩
      | 1, _ => exact .inr ⟨rfl, by simpa using hz.symm⟩
    rcases hcase with ⟨rfl, rfl⟩ | ⟨rfl, rfl⟩
    · wtm_at "gs"
      refine ⟨d, by wtm_at "rp", fun v1 e1 => ?_⟩
      wtm_at "gs"
      refine ite_n (fun hb => ?_) (fun hb => ?_)
      · wtm_at "gs"
        refine s_raiseX rfl ?_
        wtm_at "gs"
        exact s_raised (W := fun cls d _ H => E cls d H) (σ := []) fun e v ev n o => k2 hb v e (by wtm_at "ch") ((show Ext Non w v1 by wtm_at "ch").back n) o
      · wtm_at "gs"
        exact ⟨by wtm_at "ch", _, rfl, (fun _ => hb), (fun z => absurd z (by decide))⟩
    · have hd1 := h1 (by decide)
      wtm_at "gs"
      refine ⟨f, by wtm_at "rp", fun v1 e1 => ?_⟩
      wtm_at "gs"
      refine ite_n (fun hb => ?_) (fun hb => ?_)
      · wtm_at "gs"
        refine s_raiseX rfl ?_
        wtm_at "gs"
        exact s_raised (W := fun cls d _ H => E cls d H) (σ := []) fun e v ev n o => k3 hd1 hb v e (by wtm_at "ch") ((show Ext Non w v1 by wtm_at "ch").back n) o
      · wtm_at "gs"
        exact ⟨by wtm_at "ch", _, rfl, (fun _ => hd1), (fun _ => hb)⟩
  rintro σ u ⟨eu, g, rfl, h1, h2⟩
  obtain ⟨lo, rfl, lo0, lo1⟩ := whole_yes (h1 (show 1 ≤ 2 by decide))
  obtain ⟨hi, rfl, hi0, hi1⟩ := whole_yes (h2 (show 2 ≤ 2 by decide))
  obtain rfl := hd.int_inv
  obtain rfl := hf.int_inv
  have k1 := k1 lo hi rfl rfl (by omega) lo1 (by omega) hi1
  have hl := hok.l
  wtm_at "go"
  rename_i D v2 e2 n2 o2
  refine ⟨R, by wtm_at "tbs", hok, fun v3 r vs3 e3 n3 o3 ra3 => ?_⟩
  have nD : w.H D = none := (show Ext Non w u by wtm_at "ch").back n2
  have hDr : r ≠ D := (o2.ne n3).symm
  have rr3 : Rd v3 r (.lst vs3) := .inr o3
  have oD3 : Own v3 D (.lst []) := by wtm_at "own"
  have ew3 : Ext Non w v3 := by wtm_at "ch"
  have l3 := ra3.length
  have lp : (pcsI R).length = R.length := by unfold pcsI; rw [List.length_map, List.length_range]
  rw [List.length_map] at l3
  clear e0 eu e2 e3 o2
  wtm_at "go"
  refine forW (ww_list (xs := vs3)) (fun i σ u => Ext (One D) v3 u ∧ ∃ (us : List V) (g1 g2 g3 : Option V), σ = [some (.ref x), some (.int lo), some (.int hi), g, some (.ref D), g1, g2, g3] ∧ Own u D (.lst us) ∧ RpA u.S us ((strsR R lo hi i).map prD)) ⟨Ext.refl _ _, [], _, _, _, rfl, oD3, .nil⟩ (fun i σ u _ hh => SqL.of (Rd.h (rr3.go hh.1 hDr))) ?_ ?_
  · rintro i z σ _ u hi' ⟨eu, us, g1, g2, g3, rfl, o, ru⟩ ⟨rfl, hz⟩
    obtain ⟨d, h3, h4⟩ := ra3.get hz
    rw [List.getElem?_map] at h3
    obtain ⟨t, ht, rfl⟩ := Option.map_eq_some_iff.mp h3
    have hti : t = pcAt R i := by
      unfold pcsI at ht
      rw [List.getElem?_map, List.getElem?_range (by omega)] at ht
      exact (Option.some.inj ht).symm
    obtain ⟨tt, vt, rfl, st, rt⟩ := h4.tuple_inv
    obtain rfl : vt = [.int t.1, .int t.2.1, .int t.2.2] := by
      cases rt with
      | cons a1 r1 => cases r1 with
        | cons a2 r2 => cases r2 with
          | cons a3 r3 =>
            cases r3
            rw [a1.int_inv, a2.int_inv, a3.int_inv]
    have lu := ru.length
    have lss : (strsR R lo hi i).length = i := by unfold strsR; rw [List.length_map, List.length_range]
    rw [List.length_map, lss] at lu
    have hus : us.length < sizeLine := by rw [sizeLine_eq]; omega
    wtm_at "go"
    refine ⟨by wtm_at "ch", _, _, _, _, rfl, by wtm_at "own", ?_⟩
    rw [strs_succ, List.map_append]
    refine RpA.append (by wtm_at "rpa") (.one ?_)
    have e9 : stR R lo hi i = (max t.1 (lo - t.2.2), min t.2.1 (hi - t.2.2)) := by unfold stR; rw [hti]
    rw [e9]
    exact .tup (by wtm_at "stb") (.cons (.int _) (.cons (.int _) .nil))
  · rintro σ u ⟨eu, us, g1, g2, g3, rfl, o, ru⟩
    have ewu : Ext Non w u := ew3.step eu fun b hb => .inl (by rw [show b = D from hb]; exact nD)
    rw [show vs3.length = R.length by omega] at ru
    clear eu
    wtm_at "go"
    refine ⟨strsR R lo hi R.length, ⟨D, us, rfl, .inr o, ru⟩, by unfold strsR; rw [List.length_map, List.length_range]; omega, fun v r vs out e n o h p => ?_⟩
    exact k1 v r vs out (ewu.trans e) (ewu.back n) o h ⟨p.1, by have := p.2.1; unfold strsR at this; rw [List.length_map, List.length_range] at this; omega, p.2.2⟩
def letters : List Nat := (Str.ofString "abcdefghijklmnopqrstuvwxyz").cps.toList
def nameB : PyData → Bool
  | .str z => decide ((1 : Int) ≤ z.length) && (decide ((z.length : Int) ≤ 8) && z.cps.toList.all fun c => decide (c ∈ letters))
  | _ => false
def TxD (d : PyData) : Prop := ∀ z, d = .str z → Tx 1000 z
theorem z_at {z : Str} {i : Nat} {x : V} {c : Nat} (h : (zV z)[i]? = some x) (k : z.cps.toList[i]? = some c) : x = .str ⟨#[c]⟩ := by
  unfold zV at h
  rw [List.getElem?_map, k] at h
  exact (Option.some.inj h).symm
abbrev s_is_name : Stmt := top 20
abbrev nm_is_name : List Str := ["thing", "sign"]
theorem sc_is_name : FnScope nm_is_name ["thing"] (defScope s_is_name) := ⟨rfl, rfl, rfl, by decide +kernel, rfl, by decide +kernel, by decide +kernel⟩
theorem st_is_name (a : V) : start nm_is_name [a] = [some a, none] := rfl
def p_is_name (w : Wd) (a : V) (Q : VK) (_ : XK) : Prop := ∃ d, Rp w.S a d ∧ TxD d ∧ ∀ v, Ext Non w v → Q (.bl (nameB d)) v.H
theorem ok_is_name {f : Addr} {fd : FuncData} {C_Entry C_Within C_At C_Between C_Table C_Read C_Joint C_Sifted C_LogError C_NoEntry C_NoMoment C_NoName C_NoPlace C_NoReading C_TooMany : Addr} (F : Fun K "is_name" "is_name" s_is_name f fd) (T : Txt K mg C_Entry C_Within C_At C_Between C_Table C_Read C_Joint C_Sifted C_LogError C_NoEntry C_NoMoment C_NoName C_NoPlace C_NoReading C_TooMany)  : FnOk P ww K mg base CX0 1 f fd ["thing"] (pr1 (p_is_name)) := by
  refine F.ok sc_is_name (fun vs H Q E h => len1 h) (fun cdv A outer s H vs Q E hr h => ?_)
  obtain ⟨w, x0,  rfl, rfl, h⟩ := h
  have ekT := ek_T T
  have oex_NoEntry := T.oex_NoEntry; have xf_NoEntry := T.xf_NoEntry; have ec_NoEntry := T.ec_NoEntry; have xn_NoEntry := T.xn_NoEntry
  have oex_NoMoment := T.oex_NoMoment; have xf_NoMoment := T.xf_NoMoment; have ec_NoMoment := T.ec_NoMoment; have xn_NoMoment := T.xn_NoMoment
  have oex_NoName := T.oex_NoName; have xf_NoName := T.xf_NoName; have ec_NoName := T.ec_NoName; have xn_NoName := T.xn_NoName
  have oex_NoPlace := T.oex_NoPlace; have xf_NoPlace := T.xf_NoPlace; have ec_NoPlace := T.ec_NoPlace; have xn_NoPlace := T.xn_NoPlace
  have oex_NoReading := T.oex_NoReading; have xf_NoReading := T.xf_NoReading; have ec_NoReading := T.ec_NoReading; have xn_NoReading := T.xn_NoReading
  have oex_TooMany := T.oex_TooMany; have xf_TooMany := T.xf_TooMany; have ec_TooMany := T.ec_TooMany; have xn_TooMany := T.xn_TooMany
  have rel_NoPlace_NoPlace := T.rel_NoPlace_NoPlace
  have rel_NoPlace_ValueError := T.rel_NoPlace_ValueError
  have rel_NoPlace_NoEntry := T.rel_NoPlace_NoEntry
  have rel_NoPlace_NoMoment := T.rel_NoPlace_NoMoment
  have rel_NoPlace_NoName := T.rel_NoPlace_NoName
  have rel_NoPlace_NoReading := T.rel_NoPlace_NoReading
  have rel_NoPlace_TooMany := T.rel_NoPlace_TooMany
  have exm_NoPlace_LogError := T.exm_NoPlace_LogError
  refine ⟨_, (pss_cons (ps_if (PW.pt (pw_or (pt_not (pt_val (pe_callB (kIsi K) (by rfl) T.n_isinstance (by decide +kernel) (pa_cons (pv 0) (pa_cons (pe_bltn (v := .ty "str") (u := .type "str") rfl T.n_str (by decide +kernel) rfl) pa_nil))))) (pw_or1 (pt_not (pt_chain g_le g_le pe_int (pe_callB (kLen K) (by rfl) T.n_len (by decide +kernel) (pa_cons (pv 0) pa_nil)) (pe_gco rfl T.c_LONGEST_NAME)))))) (pss_one (ps_ret pe_bl)) pss_nil)
      (pss_one (ps_ret (pe_callB (kAll K rfl) (by rfl) T.n_all (by decide +kernel) (pa_cons (pe_lc (own := [("sign", 1)]) (g := (gName 1)) (tt := tYes) (by rfl) sc_is_name.nd (pi_str (pv 0)) (blkOk_by (own := [("sign", 1)]) (N := nm_is_name) (sc := defScope s_is_name) (by decide +kernel)) (fun _ _ _ _ _ => (pg_name (i := 1) sc_is_name.nd rfl (Or.inl rfl))) (fun _ _ _ _ _ => pts_nil) (fun _ _ _ _ _ => (pe_cmpR (kIn K) (pv 1) (pe_gco rfl T.c_LETTERS) (by rfl)))) pa_nil))))), ?_⟩
  rw [st_is_name]
  obtain ⟨d, hd, hT, k⟩ := h
  wtm_at "go"
  refine ite_n (fun hb => ?_) (fun hb => ?_)
  · wtm_at "go"
    have e : nameB d = false := by cases d <;> first | rfl | cases hb
    exact e ▸ k w (Ext.refl _ _)
  · obtain ⟨z, rfl⟩ := isStr_inv hb
    obtain rfl := hd.str_inv
    have tz : Tx 1000 z := hT z rfl
    have hzs : z.cps.size ≤ 1000 := tz.1
    wtm_at "go"
    refine ite_d (fun c1 => ?_) (fun c1 => ?_)
    · wtm_at "go"
      refine ite_nd (fun c2 => ?_) (fun c2 => ?_)
      · wtm_at "go"
        have e : nameB (.str z) = false := by simp only [nameB]; rw [decide_eq_false c2]; simp
        exact e ▸ k w (Ext.refl _ _)
      · wtm_at "go"
        refine ⟨z, rfl, ?_⟩
        intro D hD
        refine lc_gen (rows := z.cps.toList) (ww_strI (z := z)) (fun _ => true) (fun c => .bool (decide (c ∈ letters))) hD (by rw [Array.length_toList]) (by rw [sizeLine_eq]; omega) (fun _ _ => trivial) ?_ ?_
        · intro i x c u hi hx hq e R Z hR hZ
          obtain rfl := z_at hx hq
          wtm_at "gs"
          refine ⟨rfl, s_yes (ite_tt ?_)⟩
          wtm_at "gs"
          exact hR _ _ (Ext.refl _ _) rfl (.bl _)
        · intro u acc eu hD' o ha2
          rw [filter_all] at ha2
          obtain rfl := RpA.bools_inv ha2
          wtm_at "gs"
          have e : nameB (.str z) = (z.cps.toList.map fun c => decide (c ∈ letters)).all id := by
            simp only [nameB]
            rw [decide_eq_true c1, decide_eq_true c2, List.all_map]
            rfl
          rw [← e]
          exact k _ (by wtm_at "ch")
    · wtm_at "go"
      have e : nameB (.str z) = false := by simp only [nameB]; rw [decide_eq_false c1]; simp
      exact e ▸ k w (Ext.refl _ _)
local macro_rules | `(tactic| wtm_at "go1") => `(tactic| first
  | with_reducible refine s_pr5 ?_
  | with_reducible refine s_pm4 ?_
  | with_reducible refine s_pm5 ?_
  | with_reducible refine s_pq1 ?_
  | with_reducible refine s_pq2 ?_
  | fail "go1e")
abbrev s_NoName_init : Stmt := inClass (top 7) 0
abbrev nm_NoName_init : List Str := ["self", "found"]
theorem sc_NoName_init : FnScope nm_NoName_init ["self", "found"] (defScope s_NoName_init) := ⟨rfl, rfl, rfl, by decide +kernel, rfl, by decide +kernel, by decide +kernel⟩
theorem st_NoName_init (a b : V) : start nm_NoName_init [a, b] = [some a, some b] := rfl
abbrev p_NoName_init (C : Addr) := initX (Str.ofString "found") C
theorem ok_NoName_init {f : Addr} {fd : FuncData} {C_Entry C_Within C_At C_Between C_Table C_Read C_Joint C_Sifted C_LogError C_NoEntry C_NoMoment C_NoName C_NoPlace C_NoReading C_TooMany : Addr} (F : Fun K "__init__" "NoName.__init__" s_NoName_init f fd) (T : Txt K mg C_Entry C_Within C_At C_Between C_Table C_Read C_Joint C_Sifted C_LogError C_NoEntry C_NoMoment C_NoName C_NoPlace C_NoReading C_TooMany)  : FnOk P ww K mg base CX0 1 f fd ["self", "found"] (pr2 (p_NoName_init C_NoName)) := by
  refine F.ok sc_NoName_init (fun vs H Q E h => len2 h) (fun cdv A outer s H vs Q E hr h => ?_)
  obtain ⟨w, x0, x1,  rfl, rfl, h⟩ := h
  have ekT := ek_T T
  have cl_Table := T.cl_Table
  have na_Table_kept_rows := T.na_Table_kept_rows
  have oex_NoEntry := T.oex_NoEntry; have xf_NoEntry := T.xf_NoEntry; have ec_NoEntry := T.ec_NoEntry; have xn_NoEntry := T.xn_NoEntry
  have oex_NoMoment := T.oex_NoMoment; have xf_NoMoment := T.xf_NoMoment; have ec_NoMoment := T.ec_NoMoment; have xn_NoMoment := T.xn_NoMoment
  have oex_NoName := T.oex_NoName; have xf_NoName := T.xf_NoName; have ec_NoName := T.ec_NoName; have xn_NoName := T.xn_NoName
  have oex_NoPlace := T.oex_NoPlace; have xf_NoPlace := T.xf_NoPlace; have ec_NoPlace := T.ec_NoPlace; have xn_NoPlace := T.xn_NoPlace
  have oex_NoReading := T.oex_NoReading; have xf_NoReading := T.xf_NoReading; have ec_NoReading := T.ec_NoReading; have xn_NoReading := T.xn_NoReading
  have oex_TooMany := T.oex_TooMany; have xf_TooMany := T.xf_TooMany; have ec_TooMany := T.ec_TooMany; have xn_TooMany := T.xn_TooMany
  have rel_NoPlace_NoPlace := T.rel_NoPlace_NoPlace
  have rel_NoPlace_ValueError := T.rel_NoPlace_ValueError
  have rel_NoPlace_NoEntry := T.rel_NoPlace_NoEntry
  have rel_NoPlace_NoMoment := T.rel_NoPlace_NoMoment
  have rel_NoPlace_NoName := T.rel_NoPlace_NoName
  have rel_NoPlace_NoReading := T.rel_NoPlace_NoReading
  have rel_NoPlace_TooMany := T.rel_NoPlace_TooMany
  have exm_NoPlace_LogError := T.exm_NoPlace_LogError
  refine ⟨_, (pss_cons (ps_expr (pe_xinit (pe_glob (v := .ref C_LogError) (u := .ref C_LogError) rfl T.g_LogError rfl) T.rd_LogError T.gs_LogError T.vv_LogError (pa_cons (pv 0) (pa_cons pe_str pa_nil))))
      (pss_one (ps_ost (pv 0) (pv 1)))), ?_⟩
  rw [st_NoName_init]
  obtain ⟨x, rfl, hx, k⟩ := h
  wtm_at "gs"
  refine ⟨x, _, _, rfl, by simp, oex_NoName, hx, ?_⟩
  wtm_at "gs"
  exact ⟨x, C_NoName, rfl, oex_NoName, xn_NoName, .inl ⟨hx, fun dx h1 h2 => k dx h1 h2⟩⟩
abbrev s_NoPlace_init : Stmt := inClass (top 8) 0
abbrev nm_NoPlace_init : List Str := ["self", "found"]
theorem sc_NoPlace_init : FnScope nm_NoPlace_init ["self", "found"] (defScope s_NoPlace_init) := ⟨rfl, rfl, rfl, by decide +kernel, rfl, by decide +kernel, by decide +kernel⟩
theorem st_NoPlace_init (a b : V) : start nm_NoPlace_init [a, b] = [some a, some b] := rfl
abbrev p_NoPlace_init (C : Addr) := initX (Str.ofString "found") C
theorem ok_NoPlace_init {f : Addr} {fd : FuncData} {C_Entry C_Within C_At C_Between C_Table C_Read C_Joint C_Sifted C_LogError C_NoEntry C_NoMoment C_NoName C_NoPlace C_NoReading C_TooMany : Addr} (F : Fun K "__init__" "NoPlace.__init__" s_NoPlace_init f fd) (T : Txt K mg C_Entry C_Within C_At C_Between C_Table C_Read C_Joint C_Sifted C_LogError C_NoEntry C_NoMoment C_NoName C_NoPlace C_NoReading C_TooMany)  : FnOk P ww K mg base CX0 1 f fd ["self", "found"] (pr2 (p_NoPlace_init C_NoPlace)) := by
  refine F.ok sc_NoPlace_init (fun vs H Q E h => len2 h) (fun cdv A outer s H vs Q E hr h => ?_)
  obtain ⟨w, x0, x1,  rfl, rfl, h⟩ := h
  have ekT := ek_T T
  have cl_Table := T.cl_Table
  have na_Table_kept_rows := T.na_Table_kept_rows
  have oex_NoEntry := T.oex_NoEntry; have xf_NoEntry := T.xf_NoEntry; have ec_NoEntry := T.ec_NoEntry; have xn_NoEntry := T.xn_NoEntry
  have oex_NoMoment := T.oex_NoMoment; have xf_NoMoment := T.xf_NoMoment; have ec_NoMoment := T.ec_NoMoment; have xn_NoMoment := T.xn_NoMoment
  have oex_NoName := T.oex_NoName; have xf_NoName := T.xf_NoName; have ec_NoName := T.ec_NoName; have xn_NoName := T.xn_NoName
  have oex_NoPlace := T.oex_NoPlace; have xf_NoPlace := T.xf_NoPlace; have ec_NoPlace := T.ec_NoPlace; have xn_NoPlace := T.xn_NoPlace
  have oex_NoReading := T.oex_NoReading; have xf_NoReading := T.xf_NoReading; have ec_NoReading := T.ec_NoReading; have xn_NoReading := T.xn_NoReading
  have oex_TooMany := T.oex_TooMany; have xf_TooMany := T.xf_TooMany; have ec_TooMany := T.ec_TooMany; have xn_TooMany := T.xn_TooMany
  have rel_NoPlace_NoPlace := T.rel_NoPlace_NoPlace
  have rel_NoPlace_ValueError := T.rel_NoPlace_ValueError
  have rel_NoPlace_NoEntry := T.rel_NoPlace_NoEntry
  have rel_NoPlace_NoMoment := T.rel_NoPlace_NoMoment
  have rel_NoPlace_NoName := T.rel_NoPlace_NoName
  have rel_NoPlace_NoReading := T.rel_NoPlace_NoReading
  have rel_NoPlace_TooMany := T.rel_NoPlace_TooMany
  have exm_NoPlace_LogError := T.exm_NoPlace_LogError
  refine ⟨_, (pss_cons (ps_expr (pe_xinit (pe_glob (v := .ref C_LogError) (u := .ref C_LogError) rfl T.g_LogError rfl) T.rd_LogError T.gs_LogError T.vv_LogError (pa_cons (pv 0) (pa_cons pe_str pa_nil))))
      (pss_one (ps_ost (pv 0) (pv 1)))), ?_⟩
  rw [st_NoPlace_init]
  obtain ⟨x, rfl, hx, k⟩ := h
  wtm_at "gs"
  refine ⟨x, _, _, rfl, by simp, oex_NoPlace, hx, ?_⟩
  wtm_at "gs"
  exact ⟨x, C_NoPlace, rfl, oex_NoPlace, xn_NoPlace, .inl ⟨hx, fun dx h1 h2 => k dx h1 h2⟩⟩
abbrev s_NoMoment_init : Stmt := inClass (top 4) 0
abbrev nm_NoMoment_init : List Str := ["self", "found"]
theorem sc_NoMoment_init : FnScope nm_NoMoment_init ["self", "found"] (defScope s_NoMoment_init) := ⟨rfl, rfl, rfl, by decide +kernel, rfl, by decide +kernel, by decide +kernel⟩
theorem st_NoMoment_init (a b : V) : start nm_NoMoment_init [a, b] = [some a, some b] := rfl
abbrev p_NoMoment_init (C : Addr) := initX (Str.ofString "found") C
theorem ok_NoMoment_init {f : Addr} {fd : FuncData} {C_Entry C_Within C_At C_Between C_Table C_Read C_Joint C_Sifted C_LogError C_NoEntry C_NoMoment C_NoName C_NoPlace C_NoReading C_TooMany : Addr} (F : Fun K "__init__" "NoMoment.__init__" s_NoMoment_init f fd) (T : Txt K mg C_Entry C_Within C_At C_Between C_Table C_Read C_Joint C_Sifted C_LogError C_NoEntry C_NoMoment C_NoName C_NoPlace C_NoReading C_TooMany)  : FnOk P ww K mg base CX0 1 f fd ["self", "found"] (pr2 (p_NoMoment_init C_NoMoment)) := by
  refine F.ok sc_NoMoment_init (fun vs H Q E h => len2 h) (fun cdv A outer s H vs Q E hr h => ?_)
  obtain ⟨w, x0, x1,  rfl, rfl, h⟩ := h
  have ekT := ek_T T
  have cl_Table := T.cl_Table
  have na_Table_kept_rows := T.na_Table_kept_rows
  have oex_NoEntry := T.oex_NoEntry; have xf_NoEntry := T.xf_NoEntry; have ec_NoEntry := T.ec_NoEntry; have xn_NoEntry := T.xn_NoEntry
  have oex_NoMoment := T.oex_NoMoment; have xf_NoMoment := T.xf_NoMoment; have ec_NoMoment := T.ec_NoMoment; have xn_NoMoment := T.xn_NoMoment
  have oex_NoName := T.oex_NoName; have xf_NoName := T.xf_NoName; have ec_NoName := T.ec_NoName; have xn_NoName := T.xn_NoName
  have oex_NoPlace := T.oex_NoPlace; have xf_NoPlace := T.xf_NoPlace; have ec_NoPlace := T.ec_NoPlace; have xn_NoPlace := T.xn_NoPlace
  have oex_NoReading := T.oex_NoReading; have xf_NoReading := T.xf_NoReading; have ec_NoReading := T.ec_NoReading; have xn_NoReading := T.xn_NoReading
  have oex_TooMany := T.oex_TooMany; have xf_TooMany := T.xf_TooMany; have ec_TooMany := T.ec_TooMany; have xn_TooMany := T.xn_TooMany
  have rel_NoPlace_NoPlace := T.rel_NoPlace_NoPlace
  have rel_NoPlace_ValueError := T.rel_NoPlace_ValueError
  have rel_NoPlace_NoEntry := T.rel_NoPlace_NoEntry
  have rel_NoPlace_NoMoment := T.rel_NoPlace_NoMoment
  have rel_NoPlace_NoName := T.rel_NoPlace_NoName
  have rel_NoPlace_NoReading := T.rel_NoPlace_NoReading
  have rel_NoPlace_TooMany := T.rel_NoPlace_TooMany
  have exm_NoPlace_LogError := T.exm_NoPlace_LogError
  refine ⟨_, (pss_cons (ps_expr (pe_xinit (pe_glob (v := .ref C_LogError) (u := .ref C_LogError) rfl T.g_LogError rfl) T.rd_LogError T.gs_LogError T.vv_LogError (pa_cons (pv 0) (pa_cons pe_str pa_nil))))
      (pss_one (ps_ost (pv 0) (pv 1)))), ?_⟩
  rw [st_NoMoment_init]
  obtain ⟨x, rfl, hx, k⟩ := h
  wtm_at "gs"
  refine ⟨x, _, _, rfl, by simp, oex_NoMoment, hx, ?_⟩
  wtm_at "gs"
  exact ⟨x, C_NoMoment, rfl, oex_NoMoment, xn_NoMoment, .inl ⟨hx, fun dx h1 h2 => k dx h1 h2⟩⟩
abbrev s_Entry_init : Stmt := inClass (top 29) 0
abbrev nm_Entry_init : List Str := ["self", "name"]
theorem sc_Entry_init : FnScope nm_Entry_init ["self", "name"] (defScope s_Entry_init) := ⟨rfl, rfl, rfl, by decide +kernel, rfl, by decide +kernel, by decide +kernel⟩
theorem st_Entry_init (a b : V) : start nm_Entry_init [a, b] = [some a, some b] := rfl
def p_Entry_init (K : PySem.W.Frag) (N : Addr) (w : Wd) (a b : V) (Q : VK) (E : XK) : Prop := ∃ x C dx d, a = .ref x ∧ Own w x (.ins C dx []) ∧ Ecl K C ∧ Rp w.S b d ∧ TxD d ∧
  (∀ z, d = .str z → nameB d = true → ∀ v, Ext (One x) w v → Own v x (.ins C dx [("name", .str z)]) → Q .non v.H) ∧
  (nameB d = false → Rz (One x) w N b E)
theorem ok_Entry_init {f : Addr} {fd : FuncData} {C_Entry C_Within C_At C_Between C_Table C_Read C_Joint C_Sifted C_LogError C_NoEntry C_NoMoment C_NoName C_NoPlace C_NoReading C_TooMany : Addr} (F : Fun K "__init__" "Entry.__init__" s_Entry_init f fd) (T : Txt K mg C_Entry C_Within C_At C_Between C_Table C_Read C_Joint C_Sifted C_LogError C_NoEntry C_NoMoment C_NoName C_NoPlace C_NoReading C_TooMany) (c_NoName_init : Mxr P ww K mg base C_NoName 1 (pr2 (p_NoName_init C_NoName))) (c_is_name : Fnc P ww K mg base CX0 1 "is_name" (pr1 (p_is_name))) : FnOk P ww K mg base (L2.CX P ww) 3 f fd ["self", "name"] (pr2 (p_Entry_init K C_NoName)) := by
  refine F.okX sc_Entry_init (fun vs H Q E h => len2 h) (fun cdv A outer s H vs Q E hr h => ?_)
  obtain ⟨w, x0, x1,  rfl, rfl, h⟩ := h
  have ekT := ek_T T
  have cl_Table := T.cl_Table
  have na_Table_kept_rows := T.na_Table_kept_rows
  have oex_NoEntry := T.oex_NoEntry; have xf_NoEntry := T.xf_NoEntry; have ec_NoEntry := T.ec_NoEntry; have xn_NoEntry := T.xn_NoEntry
  have oex_NoMoment := T.oex_NoMoment; have xf_NoMoment := T.xf_NoMoment; have ec_NoMoment := T.ec_NoMoment; have xn_NoMoment := T.xn_NoMoment
  have oex_NoName := T.oex_NoName; have xf_NoName := T.xf_NoName; have ec_NoName := T.ec_NoName; have xn_NoName := T.xn_NoName
  have oex_NoPlace := T.oex_NoPlace; have xf_NoPlace := T.xf_NoPlace; have ec_NoPlace := T.ec_NoPlace; have xn_NoPlace := T.xn_NoPlace
  have oex_NoReading := T.oex_NoReading; have xf_NoReading := T.xf_NoReading; have ec_NoReading := T.ec_NoReading; have xn_NoReading := T.xn_NoReading
  have oex_TooMany := T.oex_TooMany; have xf_TooMany := T.xf_TooMany; have ec_TooMany := T.ec_TooMany; have xn_TooMany := T.xn_TooMany
  have rel_NoPlace_NoPlace := T.rel_NoPlace_NoPlace
  have rel_NoPlace_ValueError := T.rel_NoPlace_ValueError
  have rel_NoPlace_NoEntry := T.rel_NoPlace_NoEntry
  have rel_NoPlace_NoMoment := T.rel_NoPlace_NoMoment
  have rel_NoPlace_NoName := T.rel_NoPlace_NoName
  have rel_NoPlace_NoReading := T.rel_NoPlace_NoReading
  have rel_NoPlace_TooMany := T.rel_NoPlace_TooMany
  have exm_NoPlace_LogError := T.exm_NoPlace_LogError
  refine ⟨_, (pss_cons (ps_if (pt_not (pt_val (pe_fn c_is_name hr (by decide) pass0 (pa_cons (pv 1) pa_nil)))) (pss_one (ps_raiseX rfl (takes_of rfl rfl rfl rfl) c_NoName_init hr (by decide) T.g_NoName (pa_cons (pv 1) pa_nil))) pss_nil)
      (pss_one (ps_fld (pv 0) (pv 1) rfl))), ?_⟩
  rw [st_Entry_init]
  obtain ⟨x, C, dx, d, rfl, o, ec, hd, tx, k1, k2⟩ := h
  have cl := ec.cl; have na := ec.name
  wtm_at "gs"
  refine ⟨d, hd, tx, fun v1 e1 => ?_⟩
  cases hn : nameB d with
  | false =>
    wtm_at "gs"
    refine s_raiseX rfl ?_
    wtm_at "gs"
    exact s_raised (W := fun cls d _ H => E cls d H) (σ := []) fun e v ev n o => k2 hn v e (by wtm_at "ch") (e1.back n) o
  | true =>
    obtain ⟨z, rfl⟩ : ∃ z, d = .str z := by cases d <;> first | exact ⟨_, rfl⟩ | cases hn
    obtain rfl := hd.str_inv
    wtm_at "gs"
    exact k1 z rfl hn _ (by wtm_at "ch") (by wtm_at "own")
abbrev s_Within_init : Stmt := inClass (top 30) 0
abbrev nm_Within_init : List Str := ["self", "name", "low", "high", "moment"]
theorem sc_Within_init : FnScope nm_Within_init ["self", "name", "low", "high"] (defScope s_Within_init) := ⟨rfl, rfl, rfl, by decide +kernel, rfl, by decide +kernel, by decide +kernel⟩
theorem st_Within_init (a b c d : V) : start nm_Within_init [a, b, c, d] = [some a, some b, some c, some d, none] := rfl
def p_Within_init (K : PySem.W.Frag) (N M : Addr) (w : Wd) (a b c d : V) (Q : VK) (E : XK) : Prop := ∃ x C dx dn dl dh, a = .ref x ∧ Own w x (.ins C dx []) ∧ Ecl K C ∧ Rp w.S b dn ∧ TxD dn ∧ Rp w.S c dl ∧ Rp w.S d dh ∧
  (∀ z lo hi, dn = .str z → nameB dn = true → dl = .int lo → dh = .int hi → 0 ≤ lo → lo ≤ 1000000000 → 0 ≤ hi → hi ≤ 1000000000 → ∀ v, Ext (One x) w v → Own v x (.ins C dx [("name", .str z), ("low", .int lo), ("high", .int hi)]) → Q .non v.H) ∧
  (nameB dn = false → Rz (One x) w N b E) ∧ (nameB dn = true → wholeB dl 0 1000000000 = false → Rz (One x) w M c E) ∧ (nameB dn = true → wholeB dl 0 1000000000 = true → wholeB dh 0 1000000000 = false → Rz (One x) w M d E)
theorem ok_Within_init {f : Addr} {fd : FuncData} {C_Entry C_Within C_At C_Between C_Table C_Read C_Joint C_Sifted C_LogError C_NoEntry C_NoMoment C_NoName C_NoPlace C_NoReading C_TooMany : Addr} (F : Fun K "__init__" "Within.__init__" s_Within_init f fd) (T : Txt K mg C_Entry C_Within C_At C_Between C_Table C_Read C_Joint C_Sifted C_LogError C_NoEntry C_NoMoment C_NoName C_NoPlace C_NoReading C_TooMany) (c_NoMoment_init : Mxr P ww K mg base C_NoMoment 1 (pr2 (p_NoMoment_init C_NoMoment))) (c_is_moment : Fnc P ww K mg base CX0 2 "is_moment" (pr1 (p_is_moment))) (b_Entry_init : Bin P ww K mg base (L2.CX P ww) C_Entry 3 (pr2 (p_Entry_init K C_NoName))) : FnOk P ww K mg base (L2.CX P ww) 4 f fd ["self", "name", "low", "high"] (pr4 (p_Within_init K C_NoName C_NoMoment)) := by
  refine F.okX sc_Within_init (fun vs H Q E h => len4 h) (fun cdv A outer s H vs Q E hr h => ?_)
  obtain ⟨w, x0, x1, x2, x3,  rfl, rfl, h⟩ := h
  have ekT := ek_T T
  have cl_Table := T.cl_Table
  have na_Table_kept_rows := T.na_Table_kept_rows
  have oex_NoEntry := T.oex_NoEntry; have xf_NoEntry := T.xf_NoEntry; have ec_NoEntry := T.ec_NoEntry; have xn_NoEntry := T.xn_NoEntry
  have oex_NoMoment := T.oex_NoMoment; have xf_NoMoment := T.xf_NoMoment; have ec_NoMoment := T.ec_NoMoment; have xn_NoMoment := T.xn_NoMoment
  have oex_NoName := T.oex_NoName; have xf_NoName := T.xf_NoName; have ec_NoName := T.ec_NoName; have xn_NoName := T.xn_NoName
  have oex_NoPlace := T.oex_NoPlace; have xf_NoPlace := T.xf_NoPlace; have ec_NoPlace := T.ec_NoPlace; have xn_NoPlace := T.xn_NoPlace
  have oex_NoReading := T.oex_NoReading; have xf_NoReading := T.xf_NoReading; have ec_NoReading := T.ec_NoReading; have xn_NoReading := T.xn_NoReading
  have oex_TooMany := T.oex_TooMany; have xf_TooMany := T.xf_TooMany; have ec_TooMany := T.ec_TooMany; have xn_TooMany := T.xn_TooMany
  have rel_NoPlace_NoPlace := T.rel_NoPlace_NoPlace
  have rel_NoPlace_ValueError := T.rel_NoPlace_ValueError
  have rel_NoPlace_NoEntry := T.rel_NoPlace_NoEntry
  have rel_NoPlace_NoMoment := T.rel_NoPlace_NoMoment
  have rel_NoPlace_NoName := T.rel_NoPlace_NoName
  have rel_NoPlace_NoReading := T.rel_NoPlace_NoReading
  have rel_NoPlace_TooMany := T.rel_NoPlace_TooMany
  have exm_NoPlace_LogError := T.exm_NoPlace_LogError
  refine ⟨_, (pss_cons (ps_expr (pe_bin (takes_of rfl rfl rfl rfl) b_Entry_init hr (by decide) (pe_glob (v := .ref C_Entry) (u := .ref C_Entry) rfl T.g_Entry rfl) (pa_cons (pv 0) (pa_cons (pv 1) pa_nil))))
      (pss_cons (ps_for (passes_of rfl) rfl (kpTup K (pe_tup (pa_cons (pv 2) (pa_cons (pv 3) pa_nil)))) (pg_name (i := 4) sc_Within_init.nd rfl (Or.inl rfl)) (pss_one (ps_if (pt_not (pt_val (pe_fn c_is_moment hr (by decide) pass0 (pa_cons (pv 4) pa_nil)))) (pss_one (ps_raiseX rfl (takes_of rfl rfl rfl rfl) c_NoMoment_init hr (by decide) T.g_NoMoment (pa_cons (pv 4) pa_nil))) pss_nil)))
      (pss_cons (ps_fld (pv 0) (pv 2) rfl)
      (pss_one (ps_fld (pv 0) (pv 3) rfl))))), ?_⟩
  rw [st_Within_init]
  obtain ⟨x, C, dx, dn, dl, dh, rfl, o, ec, hn, tx, hl, hh, k1, k2, k3, k4⟩ := h
  have cl := ec.cl; have na := ec.name; have nl := ec.low; have nh := ec.high
  wtm_at "gs"
  refine ⟨x, C, dx, dn, rfl, o, ec, hn, tx, fun z hz hb v1 e1 o1 => ?_, k2⟩
  subst hz
  wtm_at "gs"
  rename_i T v0 e0 n0 s0
  refine forW (ww_tup (xs := [x2, x3])) (fun i σ u => Ext Non v0 u ∧ ∃ g, σ = [some (.ref x), some x1, some x2, some x3, g] ∧ (1 ≤ i → wholeB dl 0 1000000000 = true) ∧ (2 ≤ i → wholeB dh 0 1000000000 = true)) ⟨Ext.refl _ _, _, rfl, (fun z => absurd z (by decide)), (fun z => absurd z (by decide))⟩ (fun i σ u _ hh => sqt_of (st_go hh.1 s0)) ?_ ?_
  · rintro i z σ _ u hi ⟨eu, g, rfl, h1, h2⟩ ⟨rfl, hz⟩
    have hi2 : i < 2 := hi
    have ew0 : Ext (One x) w u := e1.step (e0.trans eu) fun _ z => z.elim
    have hcase : (i = 0 ∧ z = x2) ∨ (i = 1 ∧ z = x3) := by
      match i, hi2 with
      | 0, _ => exact .inl ⟨rfl, by simpa using hz.symm⟩
      | 1, _ => exact .inr ⟨rfl, by simpa using hz.symm⟩
    rcases hcase with ⟨rfl, rfl⟩ | ⟨rfl, rfl⟩
    · wtm_at "gs"
      refine ⟨dl, hl.go ew0, fun v2 e2 => ?_⟩
      wtm_at "gs"
      refine ite_n (fun hb2 => ?_) (fun hb2 => ?_)
      · wtm_at "gs"
        refine s_raiseX rfl ?_
        wtm_at "gs"
        exact s_raised (W := fun cls d _ H => E cls d H) (σ := []) fun e v ev n o => k3 hb hb2 v e (ew0.step (e2.trans ev) fun _ z => z.elim) (ew0.back (e2.back n)) o
      · wtm_at "gs"
        exact ⟨eu.trans e2, _, rfl, (fun _ => hb2), (fun z => absurd z (by decide))⟩
    · have hd1 := h1 (by decide)
      wtm_at "gs"
      refine ⟨dh, hh.go ew0, fun v2 e2 => ?_⟩
      wtm_at "gs"
      refine ite_n (fun hb2 => ?_) (fun hb2 => ?_)
      · wtm_at "gs"
        refine s_raiseX rfl ?_
        wtm_at "gs"
        exact s_raised (W := fun cls d _ H => E cls d H) (σ := []) fun e v ev n o => k4 hb hd1 hb2 v e (ew0.step (e2.trans ev) fun _ z => z.elim) (ew0.back (e2.back n)) o
      · wtm_at "gs"
        exact ⟨eu.trans e2, _, rfl, (fun _ => hd1), (fun _ => hb2)⟩
  rintro σ u ⟨eu, g, rfl, h1, h2⟩
  obtain ⟨lo, rfl, lo0, lo1⟩ := whole_yes (h1 (show 1 ≤ 2 by decide))
  obtain ⟨hi, rfl, hi0, hi1⟩ := whole_yes (h2 (show 2 ≤ 2 by decide))
  obtain rfl := hl.int_inv
  obtain rfl := hh.int_inv
  have ou : Own u x _ := (o1.ext e0 fun z => z).ext eu fun z => z
  have ewu : Ext (One x) w u := e1.step (e0.trans eu) fun _ z => z.elim
  clear e0 eu e1 o1 o s0
  wtm_at "gs"
  exact k1 z lo hi rfl hb rfl rfl (by omega) lo1 (by omega) hi1 _ (by wtm_at "ch") (by wtm_at "own")
abbrev s_At_init : Stmt := inClass (top 31) 0
abbrev nm_At_init : List Str := ["self", "name", "moment"]
theorem sc_At_init : FnScope nm_At_init ["self", "name", "moment"] (defScope s_At_init) := ⟨rfl, rfl, rfl, by decide +kernel, rfl, by decide +kernel, by decide +kernel⟩
theorem st_At_init (a b c : V) : start nm_At_init [a, b, c] = [some a, some b, some c] := rfl
def p_At_init (K : PySem.W.Frag) (N M : Addr) (w : Wd) (a b c : V) (Q : VK) (E : XK) : Prop := ∃ x C dx dn dl, a = .ref x ∧ Own w x (.ins C dx []) ∧ Ecl K C ∧ Rp w.S b dn ∧ TxD dn ∧ Rp w.S c dl ∧
  (∀ z lo, dn = .str z → nameB dn = true → dl = .int lo → 0 ≤ lo → lo ≤ 1000000000 → ∀ v, Ext (One x) w v → Own v x (.ins C dx [("name", .str z), ("low", .int lo), ("high", .int lo)]) → Q .non v.H) ∧
  (nameB dn = false → Rz (One x) w N b E) ∧ (nameB dn = true → wholeB dl 0 1000000000 = false → Rz (One x) w M c E)
theorem ok_At_init {f : Addr} {fd : FuncData} {C_Entry C_Within C_At C_Between C_Table C_Read C_Joint C_Sifted C_LogError C_NoEntry C_NoMoment C_NoName C_NoPlace C_NoReading C_TooMany : Addr} (F : Fun K "__init__" "At.__init__" s_At_init f fd) (T : Txt K mg C_Entry C_Within C_At C_Between C_Table C_Read C_Joint C_Sifted C_LogError C_NoEntry C_NoMoment C_NoName C_NoPlace C_NoReading C_TooMany)  (b_Within_init : Bin P ww K mg base (L2.CX P ww) C_Within 4 (pr4 (p_Within_init K C_NoName C_NoMoment))) : FnOk P ww K mg base (L2.CX P ww) 5 f fd ["self", "name", "moment"] (pr3 (p_At_init K C_NoName C_NoMoment)) := by
  refine F.okX sc_At_init (fun vs H Q E h => len3 h) (fun cdv A outer s H vs Q E hr h => ?_)
  obtain ⟨w, x0, x1, x2,  rfl, rfl, h⟩ := h
  have ekT := ek_T T
  have cl_Table := T.cl_Table
  have na_Table_kept_rows := T.na_Table_kept_rows
  have oex_NoEntry := T.oex_NoEntry; have xf_NoEntry := T.xf_NoEntry; have ec_NoEntry := T.ec_NoEntry; have xn_NoEntry := T.xn_NoEntry
  have oex_NoMoment := T.oex_NoMoment; have xf_NoMoment := T.xf_NoMoment; have ec_NoMoment := T.ec_NoMoment; have xn_NoMoment := T.xn_NoMoment
  have oex_NoName := T.oex_NoName; have xf_NoName := T.xf_NoName; have ec_NoName := T.ec_NoName; have xn_NoName := T.xn_NoName
  have oex_NoPlace := T.oex_NoPlace; have xf_NoPlace := T.xf_NoPlace; have ec_NoPlace := T.ec_NoPlace; have xn_NoPlace := T.xn_NoPlace
  have oex_NoReading := T.oex_NoReading; have xf_NoReading := T.xf_NoReading; have ec_NoReading := T.ec_NoReading; have xn_NoReading := T.xn_NoReading
  have oex_TooMany := T.oex_TooMany; have xf_TooMany := T.xf_TooMany; have ec_TooMany := T.ec_TooMany; have xn_TooMany := T.xn_TooMany
  have rel_NoPlace_NoPlace := T.rel_NoPlace_NoPlace
  have rel_NoPlace_ValueError := T.rel_NoPlace_ValueError
  have rel_NoPlace_NoEntry := T.rel_NoPlace_NoEntry
  have rel_NoPlace_NoMoment := T.rel_NoPlace_NoMoment
  have rel_NoPlace_NoName := T.rel_NoPlace_NoName
  have rel_NoPlace_NoReading := T.rel_NoPlace_NoReading
  have rel_NoPlace_TooMany := T.rel_NoPlace_TooMany
  have exm_NoPlace_LogError := T.exm_NoPlace_LogError
  refine ⟨_, (pss_one (ps_expr (pe_bin (takes_of rfl rfl rfl rfl) b_Within_init hr (by decide) (pe_glob (v := .ref C_Within) (u := .ref C_Within) rfl T.g_Within rfl) (pa_cons (pv 0) (pa_cons (pv 1) (pa_cons (pv 2) (pa_cons (pv 2) pa_nil))))))), ?_⟩
  rw [st_At_init]
  obtain ⟨x, C, dx, dn, dl, rfl, o, ec, hn, tx, hl, k1, k2, k3⟩ := h
  wtm_at "gs"
  refine ⟨x, C, dx, dn, dl, dl, rfl, o, ec, hn, tx, hl, hl, fun z lo hi hz hb h1 h2 a1 a2 a3 a4 v ev ov => ?_, k2, k3, fun a b c => absurd b (by rw [c]; decide)⟩
  subst h1
  cases h2
  wtm_at "gs"
  exact k1 z lo hz hb rfl a1 a2 _ (by wtm_at "ch") (by wtm_at "own")
abbrev s_Between_init : Stmt := inClass (top 32) 0
abbrev nm_Between_init : List Str := ["self", "name", "place", "low", "high", "reading"]
theorem sc_Between_init : FnScope nm_Between_init ["self", "name", "place", "low", "high"] (defScope s_Between_init) := ⟨rfl, rfl, rfl, by decide +kernel, rfl, by decide +kernel, by decide +kernel⟩
theorem st_Between_init (a b c d e : V) : start nm_Between_init [a, b, c, d, e] = [some a, some b, some c, some d, some e, none] := rfl
def p_Between_init (K : PySem.W.Frag) (N M : Addr) (w : Wd) (a b p c d : V) (Q : VK) (E : XK) : Prop := ∃ x C dx dn dp dl dh, a = .ref x ∧ Own w x (.ins C dx []) ∧ Ecl K C ∧ Rp w.S b dn ∧ TxD dn ∧ Rp w.S p dp ∧ TxD dp ∧ Rp w.S c dl ∧ Rp w.S d dh ∧
  (∀ z y lo hi, dn = .str z → nameB dn = true → dp = .str y → nameB dp = true → dl = .int lo → dh = .int hi → -10000000000 ≤ lo → lo ≤ 10000000000 → -10000000000 ≤ hi → hi ≤ 10000000000 → ∀ v, Ext (One x) w v → Own v x (.ins C dx [("name", .str z), ("place", .str y), ("low", .int lo), ("high", .int hi)]) → Q .non v.H) ∧
  (nameB dn = false → Rz (One x) w N b E) ∧ (nameB dn = true → nameB dp = false → Rz (One x) w N p E) ∧ (nameB dn = true → nameB dp = true → wholeB dl (0 - 10000000000) 10000000000 = false → Rz (One x) w M c E) ∧ (nameB dn = true → nameB dp = true → wholeB dl (0 - 10000000000) 10000000000 = true → wholeB dh (0 - 10000000000) 10000000000 = false → Rz (One x) w M d E)
theorem ok_Between_init {f : Addr} {fd : FuncData} {C_Entry C_Within C_At C_Between C_Table C_Read C_Joint C_Sifted C_LogError C_NoEntry C_NoMoment C_NoName C_NoPlace C_NoReading C_TooMany : Addr} (F : Fun K "__init__" "Between.__init__" s_Between_init f fd) (T : Txt K mg C_Entry C_Within C_At C_Between C_Table C_Read C_Joint C_Sifted C_LogError C_NoEntry C_NoMoment C_NoName C_NoPlace C_NoReading C_TooMany) (c_NoName_init : Mxr P ww K mg base C_NoName 1 (pr2 (p_NoName_init C_NoName))) (c_NoReading_init : Mxr P ww K mg base C_NoReading 1 (pr2 (p_NoReading_init C_NoReading))) (c_is_name : Fnc P ww K mg base CX0 1 "is_name" (pr1 (p_is_name))) (c_is_reading : Fnc P ww K mg base CX0 2 "is_reading" (pr1 (p_is_reading))) (b_Entry_init : Bin P ww K mg base (L2.CX P ww) C_Entry 3 (pr2 (p_Entry_init K C_NoName))) : FnOk P ww K mg base (L2.CX P ww) 4 f fd ["self", "name", "place", "low", "high"] (pr5 (p_Between_init K C_NoName C_NoReading)) := by
  refine F.okX sc_Between_init (fun vs H Q E h => len5 h) (fun cdv A outer s H vs Q E hr h => ?_)
  obtain ⟨w, x0, x1, x2, x3, x4,  rfl, rfl, h⟩ := h
  have ekT := ek_T T
  have cl_Table := T.cl_Table
  have na_Table_kept_rows := T.na_Table_kept_rows
  have oex_NoEntry := T.oex_NoEntry; have xf_NoEntry := T.xf_NoEntry; have ec_NoEntry := T.ec_NoEntry; have xn_NoEntry := T.xn_NoEntry
  have oex_NoMoment := T.oex_NoMoment; have xf_NoMoment := T.xf_NoMoment; have ec_NoMoment := T.ec_NoMoment; have xn_NoMoment := T.xn_NoMoment
  have oex_NoName := T.oex_NoName; have xf_NoName := T.xf_NoName; have ec_NoName := T.ec_NoName; have xn_NoName := T.xn_NoName
  have oex_NoPlace := T.oex_NoPlace; have xf_NoPlace := T.xf_NoPlace; have ec_NoPlace := T.ec_NoPlace; have xn_NoPlace := T.xn_NoPlace
  have oex_NoReading := T.oex_NoReading; have xf_NoReading := T.xf_NoReading; have ec_NoReading := T.ec_NoReading; have xn_NoReading := T.xn_NoReading
  have oex_TooMany := T.oex_TooMany; have xf_TooMany := T.xf_TooMany; have ec_TooMany := T.ec_TooMany; have xn_TooMany := T.xn_TooMany
  have rel_NoPlace_NoPlace := T.rel_NoPlace_NoPlace
  have rel_NoPlace_ValueError := T.rel_NoPlace_ValueError
  have rel_NoPlace_NoEntry := T.rel_NoPlace_NoEntry
  have rel_NoPlace_NoMoment := T.rel_NoPlace_NoMoment
  have rel_NoPlace_NoName := T.rel_NoPlace_NoName
  have rel_NoPlace_NoReading := T.rel_NoPlace_NoReading
  have rel_NoPlace_TooMany := T.rel_NoPlace_TooMany
  have exm_NoPlace_LogError := T.exm_NoPlace_LogError
  refine ⟨_, (pss_cons (ps_expr (pe_bin (takes_of rfl rfl rfl rfl) b_Entry_init hr (by decide) (pe_glob (v := .ref C_Entry) (u := .ref C_Entry) rfl T.g_Entry rfl) (pa_cons (pv 0) (pa_cons (pv 1) pa_nil))))
      (pss_cons (ps_if (pt_not (pt_val (pe_fn c_is_name hr (by decide) pass0 (pa_cons (pv 2) pa_nil)))) (pss_one (ps_raiseX rfl (takes_of rfl rfl rfl rfl) c_NoName_init hr (by decide) T.g_NoName (pa_cons (pv 2) pa_nil))) pss_nil)
      (pss_cons (ps_for (passes_of rfl) rfl (kpTup K (pe_tup (pa_cons (pv 3) (pa_cons (pv 4) pa_nil)))) (pg_name (i := 5) sc_Between_init.nd rfl (Or.inl rfl)) (pss_one (ps_if (pt_not (pt_val (pe_fn c_is_reading hr (by decide) pass0 (pa_cons (pv 5) pa_nil)))) (pss_one (ps_raiseX rfl (takes_of rfl rfl rfl rfl) c_NoReading_init hr (by decide) T.g_NoReading (pa_cons (pv 5) pa_nil))) pss_nil)))
      (pss_cons (ps_fld (pv 0) (pv 2) rfl)
      (pss_cons (ps_fld (pv 0) (pv 3) rfl)
      (pss_one (ps_fld (pv 0) (pv 4) rfl))))))), ?_⟩
  rw [st_Between_init]
  obtain ⟨x, C, dx, dn, dp, dl, dh, rfl, o, ec, hn, tx, hp, tp, hl, hh, k1, k2, k5, k3, k4⟩ := h
  have cl := ec.cl; have na := ec.name; have nl := ec.low; have nh := ec.high; have np := ec.place
  wtm_at "gs"
  refine ⟨x, C, dx, dn, rfl, o, ec, hn, tx, fun z hz hb v1 e1 o1 => ?_, k2⟩
  subst hz
  wtm_at "gs"
  refine ⟨dp, hp.go e1, tp, fun v2 e2 => ?_⟩
  have e12 : Ext (One x) w v2 := e1.step e2 fun _ z => z.elim
  cases hbp : nameB dp with
  | false =>
    wtm_at "gs"
    refine s_raiseX rfl ?_
    wtm_at "gs"
    exact s_raised (W := fun cls d _ H => E cls d H) (σ := []) fun e v ev n o => k5 hb hbp v e (e12.step ev fun _ z => z.elim) (e12.back n) o
  | true =>
  obtain ⟨y, rfl⟩ : ∃ z, dp = .str z := by cases dp <;> first | exact ⟨_, rfl⟩ | cases hbp
  obtain rfl := hp.str_inv
  have o2 : Own v2 x _ := o1.ext e2 fun z => z
  clear e1 e2 o1 o
  wtm_at "gs"
  rename_i T v0 e0 n0 s0
  refine forW (ww_tup (xs := [x3, x4])) (fun i σ u => Ext Non v0 u ∧ ∃ g, σ = [some (.ref x), some x1, some (.str y), some x3, some x4, g] ∧ (1 ≤ i → wholeB dl (0 - 10000000000) 10000000000 = true) ∧ (2 ≤ i → wholeB dh (0 - 10000000000) 10000000000 = true)) ⟨Ext.refl _ _, _, rfl, (fun z => absurd z (by decide)), (fun z => absurd z (by decide))⟩ (fun i σ u _ hh => sqt_of (st_go hh.1 s0)) ?_ ?_
  · rintro i z σ _ u hi ⟨eu, g, rfl, h1, h2⟩ ⟨rfl, hz⟩
    have hi2 : i < 2 := hi
    have ew0 : Ext (One x) w u := e12.step (e0.trans eu) fun _ z => z.elim
    have hcase : (i = 0 ∧ z = x3) ∨ (i = 1 ∧ z = x4) := by
      match i, hi2 with
      | 0, _ => exact .inl ⟨rfl, by simpa using hz.symm⟩
      | 1, _ => exact .inr ⟨rfl, by simpa using hz.symm⟩
    rcases hcase with ⟨rfl, rfl⟩ | ⟨rfl, rfl⟩
    · wtm_at "gs"
      refine ⟨dl, hl.go ew0, fun v2 e2 => ?_⟩
      wtm_at "gs"
      refine ite_n (fun hb2 => ?_) (fun hb2 => ?_)
      · wtm_at "gs"
        refine s_raiseX rfl ?_
        wtm_at "gs"
        exact s_raised (W := fun cls d _ H => E cls d H) (σ := []) fun e v ev n o => k3 hb hbp hb2 v e (ew0.step (e2.trans ev) fun _ z => z.elim) (ew0.back (e2.back n)) o
      · wtm_at "gs"
        exact ⟨eu.trans e2, _, rfl, (fun _ => hb2), (fun z => absurd z (by decide))⟩
    · have hd1 := h1 (by decide)
      wtm_at "gs"
      refine ⟨dh, hh.go ew0, fun v2 e2 => ?_⟩
      wtm_at "gs"
      refine ite_n (fun hb2 => ?_) (fun hb2 => ?_)
      · wtm_at "gs"
        refine s_raiseX rfl ?_
        wtm_at "gs"
        exact s_raised (W := fun cls d _ H => E cls d H) (σ := []) fun e v ev n o => k4 hb hbp hd1 hb2 v e (ew0.step (e2.trans ev) fun _ z => z.elim) (ew0.back (e2.back n)) o
      · wtm_at "gs"
        exact ⟨eu.trans e2, _, rfl, (fun _ => hd1), (fun _ => hb2)⟩
  rintro σ u ⟨eu, g, rfl, h1, h2⟩
  obtain ⟨lo, rfl, lo0, lo1⟩ := whole_yes (h1 (show 1 ≤ 2 by decide))
  obtain ⟨hi, rfl, hi0, hi1⟩ := whole_yes (h2 (show 2 ≤ 2 by decide))
  obtain rfl := hl.int_inv
  obtain rfl := hh.int_inv
  have ou : Own u x _ := (o2.ext e0 fun z => z).ext eu fun z => z
  have ewu : Ext (One x) w u := e12.step (e0.trans eu) fun _ z => z.elim
  clear e0 eu e12 o2 s0
  wtm_at "gs"
  exact k1 z y lo hi rfl hb rfl hbp rfl rfl (by omega) lo1 (by omega) hi1 _ (by wtm_at "ch") (by wtm_at "own")
abbrev s_Read_init : Stmt := inClass (top 33) 0
abbrev nm_Read_init : List Str := ["self", "name", "place", "reading"]
theorem sc_Read_init : FnScope nm_Read_init ["self", "name", "place", "reading"] (defScope s_Read_init) := ⟨rfl, rfl, rfl, by decide +kernel, rfl, by decide +kernel, by decide +kernel⟩
theorem st_Read_init (a b c d : V) : start nm_Read_init [a, b, c, d] = [some a, some b, some c, some d] := rfl
def p_Read_init (K : PySem.W.Frag) (N M : Addr) (w : Wd) (a b p c : V) (Q : VK) (E : XK) : Prop := ∃ x C dx dn dp dl, a = .ref x ∧ Own w x (.ins C dx []) ∧ Ecl K C ∧ Rp w.S b dn ∧ TxD dn ∧ Rp w.S p dp ∧ TxD dp ∧ Rp w.S c dl ∧
  (∀ z y lo, dn = .str z → nameB dn = true → dp = .str y → nameB dp = true → dl = .int lo → -10000000000 ≤ lo → lo ≤ 10000000000 → ∀ v, Ext (One x) w v → Own v x (.ins C dx [("name", .str z), ("place", .str y), ("low", .int lo), ("high", .int lo)]) → Q .non v.H) ∧
  (nameB dn = false → Rz (One x) w N b E) ∧ (nameB dn = true → nameB dp = false → Rz (One x) w N p E) ∧ (nameB dn = true → nameB dp = true → wholeB dl (0 - 10000000000) 10000000000 = false → Rz (One x) w M c E)
theorem ok_Read_init {f : Addr} {fd : FuncData} {C_Entry C_Within C_At C_Between C_Table C_Read C_Joint C_Sifted C_LogError C_NoEntry C_NoMoment C_NoName C_NoPlace C_NoReading C_TooMany : Addr} (F : Fun K "__init__" "Read.__init__" s_Read_init f fd) (T : Txt K mg C_Entry C_Within C_At C_Between C_Table C_Read C_Joint C_Sifted C_LogError C_NoEntry C_NoMoment C_NoName C_NoPlace C_NoReading C_TooMany)  (b_Between_init : Bin P ww K mg base (L2.CX P ww) C_Between 4 (pr5 (p_Between_init K C_NoName C_NoReading))) : FnOk P ww K mg base (L2.CX P ww) 5 f fd ["self", "name", "place", "reading"] (pr4 (p_Read_init K C_NoName C_NoReading)) := by
  refine F.okX sc_Read_init (fun vs H Q E h => len4 h) (fun cdv A outer s H vs Q E hr h => ?_)
  obtain ⟨w, x0, x1, x2, x3,  rfl, rfl, h⟩ := h
  have ekT := ek_T T
  have cl_Table := T.cl_Table
  have na_Table_kept_rows := T.na_Table_kept_rows
  have oex_NoEntry := T.oex_NoEntry; have xf_NoEntry := T.xf_NoEntry; have ec_NoEntry := T.ec_NoEntry; have xn_NoEntry := T.xn_NoEntry
  have oex_NoMoment := T.oex_NoMoment; have xf_NoMoment := T.xf_NoMoment; have ec_NoMoment := T.ec_NoMoment; have xn_NoMoment := T.xn_NoMoment
  have oex_NoName := T.oex_NoName; have xf_NoName := T.xf_NoName; have ec_NoName := T.ec_NoName; have xn_NoName := T.xn_NoName
  have oex_NoPlace := T.oex_NoPlace; have xf_NoPlace := T.xf_NoPlace; have ec_NoPlace := T.ec_NoPlace; have xn_NoPlace := T.xn_NoPlace
  have oex_NoReading := T.oex_NoReading; have xf_NoReading := T.xf_NoReading; have ec_NoReading := T.ec_NoReading; have xn_NoReading := T.xn_NoReading
  have oex_TooMany := T.oex_TooMany; have xf_TooMany := T.xf_TooMany; have ec_TooMany := T.ec_TooMany; have xn_TooMany := T.xn_TooMany
  have rel_NoPlace_NoPlace := T.rel_NoPlace_NoPlace
  have rel_NoPlace_ValueError := T.rel_NoPlace_ValueError
  have rel_NoPlace_NoEntry := T.rel_NoPlace_NoEntry
  have rel_NoPlace_NoMoment := T.rel_NoPlace_NoMoment
  have rel_NoPlace_NoName := T.rel_NoPlace_NoName
  have rel_NoPlace_NoReading := T.rel_NoPlace_NoReading
  have rel_NoPlace_TooMany := T.rel_NoPlace_TooMany
  have exm_NoPlace_LogError := T.exm_NoPlace_LogError
  refine ⟨_, (pss_one (ps_expr (pe_bin (takes_of rfl rfl rfl rfl) b_Between_init hr (by decide) (pe_glob (v := .ref C_Between) (u := .ref C_Between) rfl T.g_Between rfl) (pa_cons (pv 0) (pa_cons (pv 1) (pa_cons (pv 2) (pa_cons (pv 3) (pa_cons (pv 3) pa_nil)))))))), ?_⟩
  rw [st_Read_init]
  obtain ⟨x, C, dx, dn, dp, dl, rfl, o, ec, hn, tx, hp, tp, hl, k1, k2, k5, k3⟩ := h
  wtm_at "gs"
  refine ⟨x, C, dx, dn, dp, dl, dl, rfl, o, ec, hn, tx, hp, tp, hl, hl, fun z y lo hi hz hb hy hbp h1 h2 a1 a2 a3 a4 v ev ov => ?_, k2, k5, k3, fun a a2 b c => absurd b (by rw [c]; decide)⟩
  subst h1
  cases h2
  wtm_at "gs"
  exact k1 z y lo hz hb hy hbp rfl a1 a2 _ (by wtm_at "ch") (by wtm_at "own")
theorem nameB_ok {z : Str} (h : NmOk z) : nameB (.str z) = true := by
  obtain ⟨h1, h2, h3⟩ := h
  have hl := len_tl z
  have hp := List.length_pos_iff.mpr h2
  simp only [nameB, Bool.and_eq_true, decide_eq_true_eq]
  refine ⟨by omega, by omega, List.all_eq_true.mpr fun c hc => decide_eq_true ?_⟩
  have := h3 c hc
  show c ∈ tl (Str.ofString "abcdefghijklmnopqrstuvwxyz")
  rw [letters_tl]
  exact List.mem_map.mpr ⟨c - 97, List.mem_range.mpr (by omega), by omega⟩
theorem txd_ok {z : Str} (h : NmOk z) : TxD (.str z) := fun y e => by
  cases e
  exact h.tx.mono (by decide)
theorem fld_spans (e : Sim) : (fldS e).lookup ("spans" : Str) = none ∧ (fldS e).lookup ("word" : Str) = none ∧ (fldS e).lookup ("places" : Str) = none := by
  obtain ⟨k, n, p, lo, hi⟩ := e
  cases k <;> exact ⟨by wtm_at "lkp", by wtm_at "lkp", by wtm_at "lkp"⟩
abbrev s_Entry_places : Stmt := inClass (top 29) 2
abbrev nm_Entry_places : List Str := ["self"]
theorem sc_Entry_places : FnScope nm_Entry_places ["self"] (defScope s_Entry_places) := ⟨rfl, rfl, rfl, by decide +kernel, rfl, by decide +kernel, by decide +kernel⟩
theorem st_Entry_places (a : V) : start nm_Entry_places [a] = [some a] := rfl
def p_Entry_places (w : Wd) (a : V) (Q : VK) (_ : XK) : Prop := ∀ v r, Ext Non w v → w.H r = none → Own v r (.lst []) → Q (.ref r) v.H
theorem ok_Entry_places {f : Addr} {fd : FuncData} {C_Entry C_Within C_At C_Between C_Table C_Read C_Joint C_Sifted C_LogError C_NoEntry C_NoMoment C_NoName C_NoPlace C_NoReading C_TooMany : Addr} (F : Fun K "places" "Entry.places" s_Entry_places f fd) (T : Txt K mg C_Entry C_Within C_At C_Between C_Table C_Read C_Joint C_Sifted C_LogError C_NoEntry C_NoMoment C_NoName C_NoPlace C_NoReading C_TooMany)  : FnOk P ww K mg base (L2.CX P ww) 1 f fd ["self"] (pr1 (p_Entry_places)) := by
  refine F.okX sc_Entry_places (fun vs H Q E h => len1 h) (fun cdv A outer s H vs Q E hr h => ?_)
  obtain ⟨w, x0,  rfl, rfl, h⟩ := h
  have ekT := ek_T T
  have cl_Table := T.cl_Table
  have na_Table_kept_rows := T.na_Table_kept_rows
  have oex_NoEntry := T.oex_NoEntry; have xf_NoEntry := T.xf_NoEntry; have ec_NoEntry := T.ec_NoEntry; have xn_NoEntry := T.xn_NoEntry
  have oex_NoMoment := T.oex_NoMoment; have xf_NoMoment := T.xf_NoMoment; have ec_NoMoment := T.ec_NoMoment; have xn_NoMoment := T.xn_NoMoment
  have oex_NoName := T.oex_NoName; have xf_NoName := T.xf_NoName; have ec_NoName := T.ec_NoName; have xn_NoName := T.xn_NoName
  have oex_NoPlace := T.oex_NoPlace; have xf_NoPlace := T.xf_NoPlace; have ec_NoPlace := T.ec_NoPlace; have xn_NoPlace := T.xn_NoPlace
  have oex_NoReading := T.oex_NoReading; have xf_NoReading := T.xf_NoReading; have ec_NoReading := T.ec_NoReading; have xn_NoReading := T.xn_NoReading
  have oex_TooMany := T.oex_TooMany; have xf_TooMany := T.xf_TooMany; have ec_TooMany := T.ec_TooMany; have xn_TooMany := T.xn_TooMany
  have rel_NoPlace_NoPlace := T.rel_NoPlace_NoPlace
  have rel_NoPlace_ValueError := T.rel_NoPlace_ValueError
  have rel_NoPlace_NoEntry := T.rel_NoPlace_NoEntry
  have rel_NoPlace_NoMoment := T.rel_NoPlace_NoMoment
  have rel_NoPlace_NoName := T.rel_NoPlace_NoName
  have rel_NoPlace_NoReading := T.rel_NoPlace_NoReading
  have rel_NoPlace_TooMany := T.rel_NoPlace_TooMany
  have exm_NoPlace_LogError := T.exm_NoPlace_LogError
  refine ⟨_, (pss_one (ps_ret (pe_lst pa_nil))), ?_⟩
  rw [st_Entry_places]
  wtm_at "go"
  exact h _ _ (by assumption) (by assumption) (by assumption)
abbrev s_Between_places : Stmt := inClass (top 32) 2
abbrev nm_Between_places : List Str := ["self"]
theorem sc_Between_places : FnScope nm_Between_places ["self"] (defScope s_Between_places) := ⟨rfl, rfl, rfl, by decide +kernel, rfl, by decide +kernel, by decide +kernel⟩
theorem st_Between_places (a : V) : start nm_Between_places [a] = [some a] := rfl
def p_Between_places (K : PySem.W.Frag) (w : Wd) (a : V) (Q : VK) (_ : XK) : Prop := ∃ x C dx, ∃ fs : List (Str × V), ∃ z : Str, a = .ref x ∧ w.S x = some (.ins C dx fs) ∧ Ecl K C ∧ fs.lookup ("place" : Str) = some (.str z) ∧ ∀ v r, Ext Non w v → w.H r = none → Own v r (.lst [.str z]) → Q (.ref r) v.H
theorem ok_Between_places {f : Addr} {fd : FuncData} {C_Entry C_Within C_At C_Between C_Table C_Read C_Joint C_Sifted C_LogError C_NoEntry C_NoMoment C_NoName C_NoPlace C_NoReading C_TooMany : Addr} (F : Fun K "places" "Between.places" s_Between_places f fd) (T : Txt K mg C_Entry C_Within C_At C_Between C_Table C_Read C_Joint C_Sifted C_LogError C_NoEntry C_NoMoment C_NoName C_NoPlace C_NoReading C_TooMany)  : FnOk P ww K mg base (L2.CX P ww) 1 f fd ["self"] (pr1 (p_Between_places K)) := by
  refine F.okX sc_Between_places (fun vs H Q E h => len1 h) (fun cdv A outer s H vs Q E hr h => ?_)
  obtain ⟨w, x0,  rfl, rfl, h⟩ := h
  have ekT := ek_T T
  have cl_Table := T.cl_Table
  have na_Table_kept_rows := T.na_Table_kept_rows
  have oex_NoEntry := T.oex_NoEntry; have xf_NoEntry := T.xf_NoEntry; have ec_NoEntry := T.ec_NoEntry; have xn_NoEntry := T.xn_NoEntry
  have oex_NoMoment := T.oex_NoMoment; have xf_NoMoment := T.xf_NoMoment; have ec_NoMoment := T.ec_NoMoment; have xn_NoMoment := T.xn_NoMoment
  have oex_NoName := T.oex_NoName; have xf_NoName := T.xf_NoName; have ec_NoName := T.ec_NoName; have xn_NoName := T.xn_NoName
  have oex_NoPlace := T.oex_NoPlace; have xf_NoPlace := T.xf_NoPlace; have ec_NoPlace := T.ec_NoPlace; have xn_NoPlace := T.xn_NoPlace
  have oex_NoReading := T.oex_NoReading; have xf_NoReading := T.xf_NoReading; have ec_NoReading := T.ec_NoReading; have xn_NoReading := T.xn_NoReading
  have oex_TooMany := T.oex_TooMany; have xf_TooMany := T.xf_TooMany; have ec_TooMany := T.ec_TooMany; have xn_TooMany := T.xn_TooMany
  have rel_NoPlace_NoPlace := T.rel_NoPlace_NoPlace
  have rel_NoPlace_ValueError := T.rel_NoPlace_ValueError
  have rel_NoPlace_NoEntry := T.rel_NoPlace_NoEntry
  have rel_NoPlace_NoMoment := T.rel_NoPlace_NoMoment
  have rel_NoPlace_NoName := T.rel_NoPlace_NoName
  have rel_NoPlace_NoReading := T.rel_NoPlace_NoReading
  have rel_NoPlace_TooMany := T.rel_NoPlace_TooMany
  have exm_NoPlace_LogError := T.exm_NoPlace_LogError
  refine ⟨_, (pss_one (ps_ret (pe_lst (pa_cons (pe_fld (pv 0) rfl) pa_nil)))), ?_⟩
  rw [st_Between_places]
  obtain ⟨x, C, dx, fs, z, rfl, sx, ec, lk, k⟩ := h
  have cl := ec.cl; have np := ec.place
  wtm_at "go"
  refine s_rfld (w.ok _ _ sx) cl np lk ?_
  wtm_at "go"
  exact k _ _ (by assumption) (by assumption) (by assumption)
abbrev s_Entry_spans : Stmt := inClass (top 29) 3
abbrev nm_Entry_spans : List Str := ["self", "tables"]
theorem sc_Entry_spans : FnScope nm_Entry_spans ["self", "tables"] (defScope s_Entry_spans) := ⟨rfl, rfl, rfl, by decide +kernel, rfl, by decide +kernel, by decide +kernel⟩
theorem st_Entry_spans (a b : V) : start nm_Entry_spans [a, b] = [some a, some b] := rfl
def p_Entry_spans (w : Wd) (a b : V) (Q : VK) (_ : XK) : Prop := Tells w Q fun out => out = [(0, 1000000000)]
theorem ok_Entry_spans {f : Addr} {fd : FuncData} {C_Entry C_Within C_At C_Between C_Table C_Read C_Joint C_Sifted C_LogError C_NoEntry C_NoMoment C_NoName C_NoPlace C_NoReading C_TooMany : Addr} (F : Fun K "spans" "Entry.spans" s_Entry_spans f fd) (T : Txt K mg C_Entry C_Within C_At C_Between C_Table C_Read C_Joint C_Sifted C_LogError C_NoEntry C_NoMoment C_NoName C_NoPlace C_NoReading C_TooMany)  : FnOk P ww K mg base (L2.CX P ww) 1 f fd ["self", "tables"] (pr2 (p_Entry_spans)) := by
  refine F.okX sc_Entry_spans (fun vs H Q E h => len2 h) (fun cdv A outer s H vs Q E hr h => ?_)
  obtain ⟨w, x0, x1,  rfl, rfl, h⟩ := h
  have ekT := ek_T T
  have cl_Table := T.cl_Table
  have na_Table_kept_rows := T.na_Table_kept_rows
  have oex_NoEntry := T.oex_NoEntry; have xf_NoEntry := T.xf_NoEntry; have ec_NoEntry := T.ec_NoEntry; have xn_NoEntry := T.xn_NoEntry
  have oex_NoMoment := T.oex_NoMoment; have xf_NoMoment := T.xf_NoMoment; have ec_NoMoment := T.ec_NoMoment; have xn_NoMoment := T.xn_NoMoment
  have oex_NoName := T.oex_NoName; have xf_NoName := T.xf_NoName; have ec_NoName := T.ec_NoName; have xn_NoName := T.xn_NoName
  have oex_NoPlace := T.oex_NoPlace; have xf_NoPlace := T.xf_NoPlace; have ec_NoPlace := T.ec_NoPlace; have xn_NoPlace := T.xn_NoPlace
  have oex_NoReading := T.oex_NoReading; have xf_NoReading := T.xf_NoReading; have ec_NoReading := T.ec_NoReading; have xn_NoReading := T.xn_NoReading
  have oex_TooMany := T.oex_TooMany; have xf_TooMany := T.xf_TooMany; have ec_TooMany := T.ec_TooMany; have xn_TooMany := T.xn_TooMany
  have rel_NoPlace_NoPlace := T.rel_NoPlace_NoPlace
  have rel_NoPlace_ValueError := T.rel_NoPlace_ValueError
  have rel_NoPlace_NoEntry := T.rel_NoPlace_NoEntry
  have rel_NoPlace_NoMoment := T.rel_NoPlace_NoMoment
  have rel_NoPlace_NoName := T.rel_NoPlace_NoName
  have rel_NoPlace_NoReading := T.rel_NoPlace_NoReading
  have rel_NoPlace_TooMany := T.rel_NoPlace_TooMany
  have exm_NoPlace_LogError := T.exm_NoPlace_LogError
  refine ⟨_, (pss_one (ps_ret (pe_lst (pa_cons (pe_tup (pa_cons pe_int (pa_cons (pe_gco rfl T.c_LAST) pa_nil))) pa_nil)))), ?_⟩
  rw [st_Entry_spans]
  wtm_at "go"
  rename_i p v e n s p2 v2 e2 n2 o2
  exact h _ _ _ [(0, 1000000000)] (e.trans e2) (e.back n2) o2 (.cons (.tup (by wtm_at "stb") (.cons (.int _) (.cons (.int _) .nil))) .nil) rfl
abbrev s_Within_spans : Stmt := inClass (top 30) 2
abbrev nm_Within_spans : List Str := ["self", "tables"]
theorem sc_Within_spans : FnScope nm_Within_spans ["self", "tables"] (defScope s_Within_spans) := ⟨rfl, rfl, rfl, by decide +kernel, rfl, by decide +kernel, by decide +kernel⟩
theorem st_Within_spans (a b : V) : start nm_Within_spans [a, b] = [some a, some b] := rfl
def p_Within_spans (K : PySem.W.Frag) (w : Wd) (a b : V) (Q : VK) (_ : XK) : Prop := ∃ x C dx, ∃ fs : List (Str × V), ∃ lo hi : Int, a = .ref x ∧ w.S x = some (.ins C dx fs) ∧ Ecl K C ∧ fs.lookup ("low" : Str) = some (.int lo) ∧ fs.lookup ("high" : Str) = some (.int hi) ∧ Tells w Q fun out => Sp none out ∧ out.length ≤ 21 ∧ ∀ n, ins out n ↔ lo ≤ n ∧ n ≤ hi
theorem ok_Within_spans {f : Addr} {fd : FuncData} {C_Entry C_Within C_At C_Between C_Table C_Read C_Joint C_Sifted C_LogError C_NoEntry C_NoMoment C_NoName C_NoPlace C_NoReading C_TooMany : Addr} (F : Fun K "spans" "Within.spans" s_Within_spans f fd) (T : Txt K mg C_Entry C_Within C_At C_Between C_Table C_Read C_Joint C_Sifted C_LogError C_NoEntry C_NoMoment C_NoName C_NoPlace C_NoReading C_TooMany) (c_spans_of : Fnc P ww K mg base CX0 2 "spans_of" (pr1 (p_spans_of))) : FnOk P ww K mg base (L2.CX P ww) 3 f fd ["self", "tables"] (pr2 (p_Within_spans K)) := by
  refine F.okX sc_Within_spans (fun vs H Q E h => len2 h) (fun cdv A outer s H vs Q E hr h => ?_)
  obtain ⟨w, x0, x1,  rfl, rfl, h⟩ := h
  have ekT := ek_T T
  have cl_Table := T.cl_Table
  have na_Table_kept_rows := T.na_Table_kept_rows
  have oex_NoEntry := T.oex_NoEntry; have xf_NoEntry := T.xf_NoEntry; have ec_NoEntry := T.ec_NoEntry; have xn_NoEntry := T.xn_NoEntry
  have oex_NoMoment := T.oex_NoMoment; have xf_NoMoment := T.xf_NoMoment; have ec_NoMoment := T.ec_NoMoment; have xn_NoMoment := T.xn_NoMoment
  have oex_NoName := T.oex_NoName; have xf_NoName := T.xf_NoName; have ec_NoName := T.ec_NoName; have xn_NoName := T.xn_NoName
  have oex_NoPlace := T.oex_NoPlace; have xf_NoPlace := T.xf_NoPlace; have ec_NoPlace := T.ec_NoPlace; have xn_NoPlace := T.xn_NoPlace
  have oex_NoReading := T.oex_NoReading; have xf_NoReading := T.xf_NoReading; have ec_NoReading := T.ec_NoReading; have xn_NoReading := T.xn_NoReading
  have oex_TooMany := T.oex_TooMany; have xf_TooMany := T.xf_TooMany; have ec_TooMany := T.ec_TooMany; have xn_TooMany := T.xn_TooMany
  have rel_NoPlace_NoPlace := T.rel_NoPlace_NoPlace
  have rel_NoPlace_ValueError := T.rel_NoPlace_ValueError
  have rel_NoPlace_NoEntry := T.rel_NoPlace_NoEntry
  have rel_NoPlace_NoMoment := T.rel_NoPlace_NoMoment
  have rel_NoPlace_NoName := T.rel_NoPlace_NoName
  have rel_NoPlace_NoReading := T.rel_NoPlace_NoReading
  have rel_NoPlace_TooMany := T.rel_NoPlace_TooMany
  have exm_NoPlace_LogError := T.exm_NoPlace_LogError
  refine ⟨_, (pss_one (ps_ret (pe_fn c_spans_of hr (by decide) pass0 (pa_cons (pe_lst (pa_cons (pe_tup (pa_cons (pe_fld (pv 0) rfl) (pa_cons (pe_fld (pv 0) rfl) pa_nil))) pa_nil)) pa_nil)))), ?_⟩
  rw [st_Within_spans]
  obtain ⟨x, C, dx, fs, lo, hi, rfl, sx, ec, l1, l2, k⟩ := h
  have cl := ec.cl; have nl := ec.low; have nh := ec.high
  wtm_at "gs"
  refine s_rfld (w.ok _ _ sx) cl nl l1 ?_
  wtm_at "gs"
  refine s_rfld (w.ok _ _ sx) cl nh l2 ?_
  wtm_at "gs"
  rename_i p v e n s p2 v2 e2 n2 s2
  have ew : Ext Non w v2 := e.trans e2
  refine ⟨[(lo, hi)], ⟨p2, _, rfl, .inl s2, .cons (.tup (st_go e2 s) (.cons (.int _) (.cons (.int _) .nil))) .nil⟩, by simp, fun v3 r vs out e3 n3 o3 r3 ⟨hs, hl, hm⟩ => ?_⟩
  exact k v3 r vs out (ew.trans e3) (ew.back n3) o3 r3 ⟨hs, Nat.le_trans hl (by simp), fun n => (hm n).trans ins_lohi⟩
abbrev s_Between_spans : Stmt := inClass (top 32) 3
abbrev nm_Between_spans : List Str := ["self", "tables"]
theorem sc_Between_spans : FnScope nm_Between_spans ["self", "tables"] (defScope s_Between_spans) := ⟨rfl, rfl, rfl, by decide +kernel, rfl, by decide +kernel, by decide +kernel⟩
theorem st_Between_spans (a b : V) : start nm_Between_spans [a, b] = [some a, some b] := rfl
def p_Between_spans (K : PySem.W.Frag) (C N : Addr) (w : Wd) (a b : V) (Q : VK) (E : XK) : Prop := ∃ x Ce dx, ∃ fs : List (Str × V), ∃ (z : Str) (lo hi : Int) (T : Tabs), a = .ref x ∧ w.S x = some (.ins Ce dx fs) ∧ Ecl K Ce ∧ fs.lookup ("place" : Str) = some (.str z) ∧ fs.lookup ("low" : Str) = some (.int lo) ∧ fs.lookup ("high" : Str) = some (.int hi) ∧
  -10000000000 ≤ lo ∧ lo ≤ 10000000000 ∧ -10000000000 ≤ hi ∧ hi ≤ 10000000000 ∧ TabsD C w b T ∧ (∀ R, getT T z = some R → Tells w Q fun out => Sp none out ∧ out.length ≤ 21 ∧ ∀ n, ins out n ↔ ins ((strsR R lo hi R.length).filter ne2) n) ∧ (getT T z = none → Rz Non w N (.str z) E)
theorem ok_Between_spans {f : Addr} {fd : FuncData} {C_Entry C_Within C_At C_Between C_Table C_Read C_Joint C_Sifted C_LogError C_NoEntry C_NoMoment C_NoName C_NoPlace C_NoReading C_TooMany : Addr} (F : Fun K "spans" "Between.spans" s_Between_spans f fd) (T : Txt K mg C_Entry C_Within C_At C_Between C_Table C_Read C_Joint C_Sifted C_LogError C_NoEntry C_NoMoment C_NoName C_NoPlace C_NoReading C_TooMany) (c_NoPlace_init : Mxr P ww K mg base C_NoPlace 1 (pr2 (p_NoPlace_init C_NoPlace))) (c_Table_moments_between : Mth P ww K mg base (L2.CX P ww) C_Table 3 "moments_between" (pr3 (p_Table_moments_between C_Table C_NoReading))) : FnOk P ww K mg base (L2.CX P ww) 4 f fd ["self", "tables"] (pr2 (p_Between_spans K C_Table C_NoPlace)) := by
  refine F.okX sc_Between_spans (fun vs H Q E h => len2 h) (fun cdv A outer s H vs Q E hr h => ?_)
  obtain ⟨w, x0, x1,  rfl, rfl, h⟩ := h
  have ekT := ek_T T
  have cl_Table := T.cl_Table
  have na_Table_kept_rows := T.na_Table_kept_rows
  have oex_NoEntry := T.oex_NoEntry; have xf_NoEntry := T.xf_NoEntry; have ec_NoEntry := T.ec_NoEntry; have xn_NoEntry := T.xn_NoEntry
  have oex_NoMoment := T.oex_NoMoment; have xf_NoMoment := T.xf_NoMoment; have ec_NoMoment := T.ec_NoMoment; have xn_NoMoment := T.xn_NoMoment
  have oex_NoName := T.oex_NoName; have xf_NoName := T.xf_NoName; have ec_NoName := T.ec_NoName; have xn_NoName := T.xn_NoName
  have oex_NoPlace := T.oex_NoPlace; have xf_NoPlace := T.xf_NoPlace; have ec_NoPlace := T.ec_NoPlace; have xn_NoPlace := T.xn_NoPlace
  have oex_NoReading := T.oex_NoReading; have xf_NoReading := T.xf_NoReading; have ec_NoReading := T.ec_NoReading; have xn_NoReading := T.xn_NoReading
  have oex_TooMany := T.oex_TooMany; have xf_TooMany := T.xf_TooMany; have ec_TooMany := T.ec_TooMany; have xn_TooMany := T.xn_TooMany
  have rel_NoPlace_NoPlace := T.rel_NoPlace_NoPlace
  have rel_NoPlace_ValueError := T.rel_NoPlace_ValueError
  have rel_NoPlace_NoEntry := T.rel_NoPlace_NoEntry
  have rel_NoPlace_NoMoment := T.rel_NoPlace_NoMoment
  have rel_NoPlace_NoName := T.rel_NoPlace_NoName
  have rel_NoPlace_NoReading := T.rel_NoPlace_NoReading
  have rel_NoPlace_TooMany := T.rel_NoPlace_TooMany
  have exm_NoPlace_LogError := T.exm_NoPlace_LogError
  refine ⟨_, (pss_cons (ps_if (pt_cmp (pc_dnotin (hu_of hr) (pe_fld (pv 0) rfl) (pv 1)) (by rfl)) (pss_one (ps_raiseX rfl (takes_of rfl rfl rfl rfl) c_NoPlace_init hr (by decide) T.g_NoPlace (pa_cons (pe_fld (pv 0) rfl) pa_nil))) pss_nil)
      (pss_one (ps_ret (pe_mthX (takes_of rfl rfl rfl rfl) c_Table_moments_between T.cl_Table hr (by decide) (pe_dget (hu_of hr) (pv 1) (pe_fld (pv 0) rfl) (fun _ _ => rfl)) (pa_cons (pe_fld (pv 0) rfl) (pa_cons (pe_fld (pv 0) rfl) pa_nil)))))), ?_⟩
  rw [st_Between_spans]
  obtain ⟨x, Ce, dx, fs, z, lo, hi, T, rfl, sx, ec, l1, l2, l3, b1, b2, b3, b4, ⟨t, kvs, rfl, rt, ta⟩, k1, k2⟩ := h
  have cl := ec.cl; have np := ec.place; have nl := ec.low; have nh := ec.high
  have hx := w.ok _ _ sx
  wtm_at "gs"
  unfold tDNotIn
  wtm_at "gs"
  refine s_rfld hx cl np l1 ?_
  wtm_at "gs"
  refine ⟨t, _, rfl, dgetR (.inl rt.h) (.inr z), ?_⟩
  cases hg : getT T z with
  | none =>
    rw [DicR.miss ta hg, show (!(none : Option V).isSome) = true from rfl]
    wtm_at "gs"
    refine s_raiseX rfl ?_
    wtm_at "gs"
    refine s_rfld hx cl np l1 ?_
    wtm_at "gs"
    exact s_raised (W := fun cls d _ H => E cls d H) (σ := []) fun e v ev n o => k2 hg v e ev n o
  | some R =>
    obtain ⟨y, hy, hT, hok⟩ := DicR.hit ta hg
    rw [hy]
    obtain ⟨xt, dt, yt, rfl, st, ht⟩ := id hT
    rw [show (!(some (V.ref xt)).isSome) = false from rfl]
    wtm_at "gs"
    refine s_rfld hx cl np l1 ?_
    have hdg : DGet w.H t (.str z) (some (V.ref xt)) := by
      have := dgetR (.inl rt.h) (.inr z)
      rw [hy] at this
      exact this
    refine ⟨t, _, rfl, hdg, ?_⟩
    refine s_rmeth (w.ok _ _ st) (by wtm_at "lkp") ?_
    wtm_at "gs"
    refine s_rfld hx cl nl l2 ?_
    wtm_at "gs"
    refine s_rfld hx cl nh l3 ?_
    wtm_at "gs"
    refine ⟨R, .int lo, .int hi, hT, hok, .int _, .int _, fun lo' hi' h1 h2 _ _ _ _ => ?_, fun h1 => absurd h1 ?_, fun _ h1 => absurd h1 ?_⟩
    · cases h1
      cases h2
      exact k1 R hg
    · rw [show wholeB (.int lo) (0 - 10000000000) 10000000000 = true from by unfold wholeB; simp; omega]
      decide
    · rw [show wholeB (.int hi) (0 - 10000000000) 10000000000 = true from by unfold wholeB; simp; omega]
      decide
def plV (e : Sim) : List V := if placed e.k then [.str e.p] else []
def pE_places (K : PySem.W.Frag) (ec : EC) (k : Kd) (w : Wd) (a : V) (Q : VK) (_ : XK) : Prop := ∃ e, e.k = k ∧ SimS K ec w.S a e ∧ ∀ v r, Ext Non w v → w.H r = none → Own v r (.lst (plV e)) → Q (.ref r) v.H
def pE_spans (K : PySem.W.Frag) (ec : EC) (C N : Addr) (k : Kd) (w : Wd) (a b : V) (Q : VK) (E : XK) : Prop := ∃ e T, e.k = k ∧ SimS K ec w.S a e ∧ e.ok ∧ (placed e.k → TabsD C w b T) ∧
  ((placed e.k → ∃ R, getT T e.p = some R) → Tells w Q fun out => Sp none out ∧ out.length ≤ 21 ∧ ∀ n, ins out n ↔ inE e T n) ∧ (placed e.k → getT T e.p = none → Rz Non w N (.str e.p) E)
section
variable {ec : EC} {C N : Addr} {w : Wd} {a b : V} {Q : VK} {E : XK}
theorem pl_no {e : Sim} (h : ¬ placed e.k) : plV e = [] := if_neg h
theorem pl_yes {e : Sim} (h : placed e.k) : plV e = [.str e.p] := if_pos h
theorem wk_places_any (h : pE_places K ec .any w a Q E) : p_Entry_places w a Q E := by obtain ⟨e, he, _, k⟩ := h; rw [pl_no (by rw [he]; exact id)] at k; exact k
theorem wk_places_within (h : pE_places K ec .within w a Q E) : p_Entry_places w a Q E := by obtain ⟨e, he, _, k⟩ := h; rw [pl_no (by rw [he]; exact id)] at k; exact k
theorem wk_places_att (h : pE_places K ec .att w a Q E) : p_Entry_places w a Q E := by obtain ⟨e, he, _, k⟩ := h; rw [pl_no (by rw [he]; exact id)] at k; exact k
theorem fld_place {e : Sim} (h : placed e.k) : (fldS e).lookup ("place" : Str) = some (.str e.p) ∧ (fldS e).lookup ("low" : Str) = some (.int e.lo) ∧ (fldS e).lookup ("high" : Str) = some (.int e.hi) := by
  obtain ⟨k, n, p, lo, hi⟩ := e
  cases k <;> first | exact h.elim | exact ⟨by wtm_at "lkp", by wtm_at "lkp", by wtm_at "lkp"⟩
theorem wk_places_between (h : pE_places K ec .between w a Q E) : p_Between_places K w a Q E := by
  obtain ⟨e, he, ⟨ek, x, dx, rfl, sx⟩, k⟩ := h
  have hp : placed e.k := by rw [he]; trivial
  rw [pl_yes hp] at k
  exact ⟨x, _, dx, _, _, rfl, sx, ek.cl _ (by rw [he]; trivial), (fld_place hp).1, k⟩
theorem wk_places_read (h : pE_places K ec .read w a Q E) : p_Between_places K w a Q E := by
  obtain ⟨e, he, ⟨ek, x, dx, rfl, sx⟩, k⟩ := h
  have hp : placed e.k := by rw [he]; trivial
  rw [pl_yes hp] at k
  exact ⟨x, _, dx, _, _, rfl, sx, ek.cl _ (by rw [he]; trivial), (fld_place hp).1, k⟩
theorem wk_spans_any (h : pE_spans K ec C N .any w a b Q E) : p_Entry_spans w a b Q E := by
  obtain ⟨e, T, he, _, _, _, k, _⟩ := h
  intro v r vs out e1 n1 o1 r1 ho
  subst ho
  refine k (fun z => by rw [he] at z; exact z.elim) v r vs _ e1 n1 o1 r1 ⟨⟨by decide, (fun x hx => by cases hx), trivial⟩, by decide, fun n => ?_⟩
  unfold inE ins
  rw [he]
  simp
theorem wk_spans_lohi {k : Kd} (hk : k = .within ∨ k = .att) (h : pE_spans K ec C N k w a b Q E) : p_Within_spans K w a b Q E := by
  obtain ⟨e, T, he, ⟨ek, x, dx, rfl, sx⟩, _, _, k1, _⟩ := h
  have hk' : e.k = .within ∨ e.k = .att := he ▸ hk
  have hl : (fldS e).lookup ("low" : Str) = some (.int e.lo) ∧ (fldS e).lookup ("high" : Str) = some (.int e.hi) := by
    obtain ⟨k, n, p, lo, hi⟩ := e
    rcases hk' with rfl | rfl <;> exact ⟨by wtm_at "lkp", by wtm_at "lkp"⟩
  refine ⟨x, _, dx, _, e.lo, e.hi, rfl, sx, ek.cl _ (by rcases hk' with h | h <;> rw [h] <;> trivial), hl.1, hl.2, fun v r vs out e1 n1 o1 r1 ⟨hs, hl, hm⟩ => k1 (fun z => by rcases hk' with h | h <;> rw [h] at z <;> exact z.elim) v r vs out e1 n1 o1 r1 ⟨hs, hl, fun n => (hm n).trans ?_⟩⟩
  unfold inE
  rcases hk' with h | h <;> rw [h]
theorem wk_spans_within (h : pE_spans K ec C N .within w a b Q E) : p_Within_spans K w a b Q E := wk_spans_lohi (.inl rfl) h
theorem wk_spans_att (h : pE_spans K ec C N .att w a b Q E) : p_Within_spans K w a b Q E := wk_spans_lohi (.inr rfl) h
theorem wk_spans_pl {k : Kd} (hk : placed k) (h : pE_spans K ec C N k w a b Q E) : p_Between_spans K C N w a b Q E := by
  obtain ⟨e, T, rfl, ⟨ek, x, dx, rfl, sx⟩, ok, td, k1, k2⟩ := h
  obtain ⟨l1, l2, l3⟩ := fld_place hk
  obtain ⟨b1, b2, b3, b4⟩ := ok.2.1 hk
  refine ⟨x, _, dx, _, e.p, e.lo, e.hi, T, rfl, sx, ek.cl _ ok.1, l1, l2, l3, b1, b2, b3, b4, td hk, fun R hR v r vs out e1 n1 o1 r1 ⟨hs, hl, hm⟩ => k1 (fun _ => ⟨R, hR⟩) v r vs out e1 n1 o1 r1 ⟨hs, hl, fun n => (hm n).trans ?_⟩, k2 hk⟩
  have hi : inE e T n ↔ ∃ R, getT T e.p = some R ∧ ins ((strsR R e.lo e.hi R.length).filter ne2) n := by
    unfold inE
    obtain ⟨k, n', p, lo, hi⟩ := e
    cases k <;> first | exact hk.elim | exact Iff.rfl
  rw [hi]
  exact ⟨fun z => ⟨R, hR, z⟩, fun ⟨R', h1, h2⟩ => by rw [hR] at h1; cases h1; exact h2⟩
theorem wk_spans_between (h : pE_spans K ec C N .between w a b Q E) : p_Between_spans K C N w a b Q E := wk_spans_pl (k := .between) trivial h
theorem wk_spans_read (h : pE_spans K ec C N .read w a b Q E) : p_Between_spans K C N w a b Q E := wk_spans_pl (k := .read) trivial h
end
def p_word (z : Str) (w : Wd) (a : V) (Q : VK) (_ : XK) : Prop := ∀ v, Ext Non w v → Q (.str z) v.H
abbrev s_Entry_word : Stmt := inClass (top 29) 1
abbrev nm_Entry_word : List Str := ["self"]
theorem sc_Entry_word : FnScope nm_Entry_word ["self"] (defScope s_Entry_word) := ⟨rfl, rfl, rfl, by decide +kernel, rfl, by decide +kernel, by decide +kernel⟩
theorem st_Entry_word (a : V) : start nm_Entry_word [a] = [some a] := rfl
abbrev p_Entry_word := p_word (Str.ofString "any")
theorem ok_Entry_word {f : Addr} {fd : FuncData} {C_Entry C_Within C_At C_Between C_Table C_Read C_Joint C_Sifted C_LogError C_NoEntry C_NoMoment C_NoName C_NoPlace C_NoReading C_TooMany : Addr} (F : Fun K "word" "Entry.word" s_Entry_word f fd) (T : Txt K mg C_Entry C_Within C_At C_Between C_Table C_Read C_Joint C_Sifted C_LogError C_NoEntry C_NoMoment C_NoName C_NoPlace C_NoReading C_TooMany)  : FnOk P ww K mg base (L2.CX P ww) 1 f fd ["self"] (pr1 (p_Entry_word)) := by
  refine F.okX sc_Entry_word (fun vs H Q E h => len1 h) (fun cdv A outer s H vs Q E hr h => ?_)
  obtain ⟨w, x0,  rfl, rfl, h⟩ := h
  have ekT := ek_T T
  have cl_Table := T.cl_Table
  have na_Table_kept_rows := T.na_Table_kept_rows
  have oex_NoEntry := T.oex_NoEntry; have xf_NoEntry := T.xf_NoEntry; have ec_NoEntry := T.ec_NoEntry; have xn_NoEntry := T.xn_NoEntry
  have oex_NoMoment := T.oex_NoMoment; have xf_NoMoment := T.xf_NoMoment; have ec_NoMoment := T.ec_NoMoment; have xn_NoMoment := T.xn_NoMoment
  have oex_NoName := T.oex_NoName; have xf_NoName := T.xf_NoName; have ec_NoName := T.ec_NoName; have xn_NoName := T.xn_NoName
  have oex_NoPlace := T.oex_NoPlace; have xf_NoPlace := T.xf_NoPlace; have ec_NoPlace := T.ec_NoPlace; have xn_NoPlace := T.xn_NoPlace
  have oex_NoReading := T.oex_NoReading; have xf_NoReading := T.xf_NoReading; have ec_NoReading := T.ec_NoReading; have xn_NoReading := T.xn_NoReading
  have oex_TooMany := T.oex_TooMany; have xf_TooMany := T.xf_TooMany; have ec_TooMany := T.ec_TooMany; have xn_TooMany := T.xn_TooMany
  have rel_NoPlace_NoPlace := T.rel_NoPlace_NoPlace
  have rel_NoPlace_ValueError := T.rel_NoPlace_ValueError
  have rel_NoPlace_NoEntry := T.rel_NoPlace_NoEntry
  have rel_NoPlace_NoMoment := T.rel_NoPlace_NoMoment
  have rel_NoPlace_NoName := T.rel_NoPlace_NoName
  have rel_NoPlace_NoReading := T.rel_NoPlace_NoReading
  have rel_NoPlace_TooMany := T.rel_NoPlace_TooMany
  have exm_NoPlace_LogError := T.exm_NoPlace_LogError
  refine ⟨_, (pss_one (ps_ret pe_str)), ?_⟩
  rw [st_Entry_word]
  wtm_at "gs"
  exact h _ (Ext.refl _ _)
abbrev s_Within_word : Stmt := inClass (top 30) 1
abbrev nm_Within_word : List Str := ["self"]
theorem sc_Within_word : FnScope nm_Within_word ["self"] (defScope s_Within_word) := ⟨rfl, rfl, rfl, by decide +kernel, rfl, by decide +kernel, by decide +kernel⟩
theorem st_Within_word (a : V) : start nm_Within_word [a] = [some a] := rfl
abbrev p_Within_word := p_word (Str.ofString "within")
theorem ok_Within_word {f : Addr} {fd : FuncData} {C_Entry C_Within C_At C_Between C_Table C_Read C_Joint C_Sifted C_LogError C_NoEntry C_NoMoment C_NoName C_NoPlace C_NoReading C_TooMany : Addr} (F : Fun K "word" "Within.word" s_Within_word f fd) (T : Txt K mg C_Entry C_Within C_At C_Between C_Table C_Read C_Joint C_Sifted C_LogError C_NoEntry C_NoMoment C_NoName C_NoPlace C_NoReading C_TooMany)  : FnOk P ww K mg base (L2.CX P ww) 1 f fd ["self"] (pr1 (p_Within_word)) := by
  refine F.okX sc_Within_word (fun vs H Q E h => len1 h) (fun cdv A outer s H vs Q E hr h => ?_)
  obtain ⟨w, x0,  rfl, rfl, h⟩ := h
  have ekT := ek_T T
  have cl_Table := T.cl_Table
  have na_Table_kept_rows := T.na_Table_kept_rows
  have oex_NoEntry := T.oex_NoEntry; have xf_NoEntry := T.xf_NoEntry; have ec_NoEntry := T.ec_NoEntry; have xn_NoEntry := T.xn_NoEntry
  have oex_NoMoment := T.oex_NoMoment; have xf_NoMoment := T.xf_NoMoment; have ec_NoMoment := T.ec_NoMoment; have xn_NoMoment := T.xn_NoMoment
  have oex_NoName := T.oex_NoName; have xf_NoName := T.xf_NoName; have ec_NoName := T.ec_NoName; have xn_NoName := T.xn_NoName
  have oex_NoPlace := T.oex_NoPlace; have xf_NoPlace := T.xf_NoPlace; have ec_NoPlace := T.ec_NoPlace; have xn_NoPlace := T.xn_NoPlace
  have oex_NoReading := T.oex_NoReading; have xf_NoReading := T.xf_NoReading; have ec_NoReading := T.ec_NoReading; have xn_NoReading := T.xn_NoReading
  have oex_TooMany := T.oex_TooMany; have xf_TooMany := T.xf_TooMany; have ec_TooMany := T.ec_TooMany; have xn_TooMany := T.xn_TooMany
  have rel_NoPlace_NoPlace := T.rel_NoPlace_NoPlace
  have rel_NoPlace_ValueError := T.rel_NoPlace_ValueError
  have rel_NoPlace_NoEntry := T.rel_NoPlace_NoEntry
  have rel_NoPlace_NoMoment := T.rel_NoPlace_NoMoment
  have rel_NoPlace_NoName := T.rel_NoPlace_NoName
  have rel_NoPlace_NoReading := T.rel_NoPlace_NoReading
  have rel_NoPlace_TooMany := T.rel_NoPlace_TooMany
  have exm_NoPlace_LogError := T.exm_NoPlace_LogError
  refine ⟨_, (pss_one (ps_ret pe_str)), ?_⟩
  rw [st_Within_word]
  wtm_at "gs"
  exact h _ (Ext.refl _ _)
abbrev s_At_word : Stmt := inClass (top 31) 1
abbrev nm_At_word : List Str := ["self"]
theorem sc_At_word : FnScope nm_At_word ["self"] (defScope s_At_word) := ⟨rfl, rfl, rfl, by decide +kernel, rfl, by decide +kernel, by decide +kernel⟩
theorem st_At_word (a : V) : start nm_At_word [a] = [some a] := rfl
abbrev p_At_word := p_word (Str.ofString "at")
theorem ok_At_word {f : Addr} {fd : FuncData} {C_Entry C_Within C_At C_Between C_Table C_Read C_Joint C_Sifted C_LogError C_NoEntry C_NoMoment C_NoName C_NoPlace C_NoReading C_TooMany : Addr} (F : Fun K "word" "At.word" s_At_word f fd) (T : Txt K mg C_Entry C_Within C_At C_Between C_Table C_Read C_Joint C_Sifted C_LogError C_NoEntry C_NoMoment C_NoName C_NoPlace C_NoReading C_TooMany)  : FnOk P ww K mg base (L2.CX P ww) 1 f fd ["self"] (pr1 (p_At_word)) := by
  refine F.okX sc_At_word (fun vs H Q E h => len1 h) (fun cdv A outer s H vs Q E hr h => ?_)
  obtain ⟨w, x0,  rfl, rfl, h⟩ := h
  have ekT := ek_T T
  have cl_Table := T.cl_Table
  have na_Table_kept_rows := T.na_Table_kept_rows
  have oex_NoEntry := T.oex_NoEntry; have xf_NoEntry := T.xf_NoEntry; have ec_NoEntry := T.ec_NoEntry; have xn_NoEntry := T.xn_NoEntry
  have oex_NoMoment := T.oex_NoMoment; have xf_NoMoment := T.xf_NoMoment; have ec_NoMoment := T.ec_NoMoment; have xn_NoMoment := T.xn_NoMoment
  have oex_NoName := T.oex_NoName; have xf_NoName := T.xf_NoName; have ec_NoName := T.ec_NoName; have xn_NoName := T.xn_NoName
  have oex_NoPlace := T.oex_NoPlace; have xf_NoPlace := T.xf_NoPlace; have ec_NoPlace := T.ec_NoPlace; have xn_NoPlace := T.xn_NoPlace
  have oex_NoReading := T.oex_NoReading; have xf_NoReading := T.xf_NoReading; have ec_NoReading := T.ec_NoReading; have xn_NoReading := T.xn_NoReading
  have oex_TooMany := T.oex_TooMany; have xf_TooMany := T.xf_TooMany; have ec_TooMany := T.ec_TooMany; have xn_TooMany := T.xn_TooMany
  have rel_NoPlace_NoPlace := T.rel_NoPlace_NoPlace
  have rel_NoPlace_ValueError := T.rel_NoPlace_ValueError
  have rel_NoPlace_NoEntry := T.rel_NoPlace_NoEntry
  have rel_NoPlace_NoMoment := T.rel_NoPlace_NoMoment
  have rel_NoPlace_NoName := T.rel_NoPlace_NoName
  have rel_NoPlace_NoReading := T.rel_NoPlace_NoReading
  have rel_NoPlace_TooMany := T.rel_NoPlace_TooMany
  have exm_NoPlace_LogError := T.exm_NoPlace_LogError
  refine ⟨_, (pss_one (ps_ret pe_str)), ?_⟩
  rw [st_At_word]
  wtm_at "gs"
  exact h _ (Ext.refl _ _)
abbrev s_Between_word : Stmt := inClass (top 32) 1
abbrev nm_Between_word : List Str := ["self"]
theorem sc_Between_word : FnScope nm_Between_word ["self"] (defScope s_Between_word) := ⟨rfl, rfl, rfl, by decide +kernel, rfl, by decide +kernel, by decide +kernel⟩
theorem st_Between_word (a : V) : start nm_Between_word [a] = [some a] := rfl
abbrev p_Between_word := p_word (Str.ofString "between")
theorem ok_Between_word {f : Addr} {fd : FuncData} {C_Entry C_Within C_At C_Between C_Table C_Read C_Joint C_Sifted C_LogError C_NoEntry C_NoMoment C_NoName C_NoPlace C_NoReading C_TooMany : Addr} (F : Fun K "word" "Between.word" s_Between_word f fd) (T : Txt K mg C_Entry C_Within C_At C_Between C_Table C_Read C_Joint C_Sifted C_LogError C_NoEntry C_NoMoment C_NoName C_NoPlace C_NoReading C_TooMany)  : FnOk P ww K mg base (L2.CX P ww) 1 f fd ["self"] (pr1 (p_Between_word)) := by
  refine F.okX sc_Between_word (fun vs H Q E h => len1 h) (fun cdv A outer s H vs Q E hr h => ?_)
  obtain ⟨w, x0,  rfl, rfl, h⟩ := h
  have ekT := ek_T T
  have cl_Table := T.cl_Table
  have na_Table_kept_rows := T.na_Table_kept_rows
  have oex_NoEntry := T.oex_NoEntry; have xf_NoEntry := T.xf_NoEntry; have ec_NoEntry := T.ec_NoEntry; have xn_NoEntry := T.xn_NoEntry
  have oex_NoMoment := T.oex_NoMoment; have xf_NoMoment := T.xf_NoMoment; have ec_NoMoment := T.ec_NoMoment; have xn_NoMoment := T.xn_NoMoment
  have oex_NoName := T.oex_NoName; have xf_NoName := T.xf_NoName; have ec_NoName := T.ec_NoName; have xn_NoName := T.xn_NoName
  have oex_NoPlace := T.oex_NoPlace; have xf_NoPlace := T.xf_NoPlace; have ec_NoPlace := T.ec_NoPlace; have xn_NoPlace := T.xn_NoPlace
  have oex_NoReading := T.oex_NoReading; have xf_NoReading := T.xf_NoReading; have ec_NoReading := T.ec_NoReading; have xn_NoReading := T.xn_NoReading
  have oex_TooMany := T.oex_TooMany; have xf_TooMany := T.xf_TooMany; have ec_TooMany := T.ec_TooMany; have xn_TooMany := T.xn_TooMany
  have rel_NoPlace_NoPlace := T.rel_NoPlace_NoPlace
  have rel_NoPlace_ValueError := T.rel_NoPlace_ValueError
  have rel_NoPlace_NoEntry := T.rel_NoPlace_NoEntry
  have rel_NoPlace_NoMoment := T.rel_NoPlace_NoMoment
  have rel_NoPlace_NoName := T.rel_NoPlace_NoName
  have rel_NoPlace_NoReading := T.rel_NoPlace_NoReading
  have rel_NoPlace_TooMany := T.rel_NoPlace_TooMany
  have exm_NoPlace_LogError := T.exm_NoPlace_LogError
  refine ⟨_, (pss_one (ps_ret pe_str)), ?_⟩
  rw [st_Between_word]
  wtm_at "gs"
  exact h _ (Ext.refl _ _)
abbrev s_Read_word : Stmt := inClass (top 33) 1
abbrev nm_Read_word : List Str := ["self"]
theorem sc_Read_word : FnScope nm_Read_word ["self"] (defScope s_Read_word) := ⟨rfl, rfl, rfl, by decide +kernel, rfl, by decide +kernel, by decide +kernel⟩
theorem st_Read_word (a : V) : start nm_Read_word [a] = [some a] := rfl
abbrev p_Read_word := p_word (Str.ofString "read")
theorem ok_Read_word {f : Addr} {fd : FuncData} {C_Entry C_Within C_At C_Between C_Table C_Read C_Joint C_Sifted C_LogError C_NoEntry C_NoMoment C_NoName C_NoPlace C_NoReading C_TooMany : Addr} (F : Fun K "word" "Read.word" s_Read_word f fd) (T : Txt K mg C_Entry C_Within C_At C_Between C_Table C_Read C_Joint C_Sifted C_LogError C_NoEntry C_NoMoment C_NoName C_NoPlace C_NoReading C_TooMany)  : FnOk P ww K mg base (L2.CX P ww) 1 f fd ["self"] (pr1 (p_Read_word)) := by
  refine F.okX sc_Read_word (fun vs H Q E h => len1 h) (fun cdv A outer s H vs Q E hr h => ?_)
  obtain ⟨w, x0,  rfl, rfl, h⟩ := h
  have ekT := ek_T T
  have cl_Table := T.cl_Table
  have na_Table_kept_rows := T.na_Table_kept_rows
  have oex_NoEntry := T.oex_NoEntry; have xf_NoEntry := T.xf_NoEntry; have ec_NoEntry := T.ec_NoEntry; have xn_NoEntry := T.xn_NoEntry
  have oex_NoMoment := T.oex_NoMoment; have xf_NoMoment := T.xf_NoMoment; have ec_NoMoment := T.ec_NoMoment; have xn_NoMoment := T.xn_NoMoment
  have oex_NoName := T.oex_NoName; have xf_NoName := T.xf_NoName; have ec_NoName := T.ec_NoName; have xn_NoName := T.xn_NoName
  have oex_NoPlace := T.oex_NoPlace; have xf_NoPlace := T.xf_NoPlace; have ec_NoPlace := T.ec_NoPlace; have xn_NoPlace := T.xn_NoPlace
  have oex_NoReading := T.oex_NoReading; have xf_NoReading := T.xf_NoReading; have ec_NoReading := T.ec_NoReading; have xn_NoReading := T.xn_NoReading
  have oex_TooMany := T.oex_TooMany; have xf_TooMany := T.xf_TooMany; have ec_TooMany := T.ec_TooMany; have xn_TooMany := T.xn_TooMany
  have rel_NoPlace_NoPlace := T.rel_NoPlace_NoPlace
  have rel_NoPlace_ValueError := T.rel_NoPlace_ValueError
  have rel_NoPlace_NoEntry := T.rel_NoPlace_NoEntry
  have rel_NoPlace_NoMoment := T.rel_NoPlace_NoMoment
  have rel_NoPlace_NoName := T.rel_NoPlace_NoName
  have rel_NoPlace_NoReading := T.rel_NoPlace_NoReading
  have rel_NoPlace_TooMany := T.rel_NoPlace_TooMany
  have exm_NoPlace_LogError := T.exm_NoPlace_LogError
  refine ⟨_, (pss_one (ps_ret pe_str)), ?_⟩
  rw [st_Read_word]
  wtm_at "gs"
  exact h _ (Ext.refl _ _)
def pE_word (K : PySem.W.Frag) (ec : EC) (k : Kd) (w : Wd) (a : V) (Q : VK) (_ : XK) : Prop := ∃ e, e.k = k ∧ SimS K ec w.S a e ∧ ∀ v, Ext Non w v → Q (.str (wordK k)) v.H
section
variable {ec : EC} {w : Wd} {a : V} {Q : VK} {E : XK}
theorem wk_word_any (h : pE_word K ec .any w a Q E) : p_Entry_word w a Q E := by obtain ⟨_, _, _, k⟩ := h; exact k
theorem wk_word_within (h : pE_word K ec .within w a Q E) : p_Within_word w a Q E := by obtain ⟨_, _, _, k⟩ := h; exact k
theorem wk_word_att (h : pE_word K ec .att w a Q E) : p_At_word w a Q E := by obtain ⟨_, _, _, k⟩ := h; exact k
theorem wk_word_between (h : pE_word K ec .between w a Q E) : p_Between_word w a Q E := by obtain ⟨_, _, _, k⟩ := h; exact k
theorem wk_word_read (h : pE_word K ec .read w a Q E) : p_Read_word w a Q E := by obtain ⟨_, _, _, k⟩ := h; exact k
end
/-- the script -/
def Scr (K : PySem.W.Frag) (w : Wd) (v : V) : Prop := ∃ a, ∃ ns : List Int, v = .ref a ∧ SqL K w.S a (ns.map V.int) ∧ ns.length ≤ 63
theorem Scr.go {K : PySem.W.Frag} {w u : Wd} {v : V} {m : Addr → Prop} (e : Ext m w u) (h : Scr K w v) : Scr K u v := by
  obtain ⟨a, ns, rfl, h1, h2⟩ := h
  exact ⟨a, ns, rfl, sq_go e h1, h2⟩
/-- a state of drawn numbers stands at a -/
def Stt (w : Wd) (a : Addr) : Prop := ∃ l s t : Int, 0 ≤ l ∧ Own w a (.lst [.int l, .int s, .int t])
theorem Stt.go {w u : Wd} {a : Addr} {m : Addr → Prop} (e : Ext m w u) (n : ¬ m a) (h : Stt w a) : Stt u a := by
  obtain ⟨l, s, t, h0, h⟩ := h
  exact ⟨l, s, t, h0, h.ext e n⟩
theorem stt_new {w : Wd} {p l : Addr} (n : w.H l = none) (h : Stt w p) : l ≠ p := by
  obtain ⟨_, _, _, _, o⟩ := h
  exact o.ne' n
theorem stt_new' {w : Wd} {p l : Addr} (n : w.H l = none) (h : Stt w p) : p ≠ l := (stt_new n h).symm
theorem Stt.none {w : Wd} {p : Addr} (h : Stt w p) : w.S p = none := by
  obtain ⟨_, _, _, _, o⟩ := h
  exact o.s
local macro_rules | `(tactic| wtm_at "stt") => `(tactic| first
  | assumption
  | (refine' Stt.go (by assumption) ?nm ?pu; (case nm => wtm_at "nm"); (case pu => wtm_at "stt"))
  | fail "stt")
local macro_rules | `(tactic| wtm_at "scr") => `(tactic| first
  | assumption
  | (refine' Scr.go (by assumption) ?s; (case s => wtm_at "scr"))
  | fail "scr")
local macro_rules | `(tactic| wtm_at "ne") => `(tactic| first
  | (refine' stt_new ?n ?pu; (case n => assumption); (case pu => wtm_at "stt"))
  | (refine' stt_new' ?n ?pu; (case n => assumption); (case pu => wtm_at "stt"))
  | fail "ne")
abbrev s_l_cell : Stmt := top 42
abbrev nm_l_cell : List Str := ["_law_script", "_law_k"]
theorem sc_l_cell : FnScope nm_l_cell ["_law_script", "_law_k"] (defScope s_l_cell) := ⟨rfl, rfl, rfl, by decide +kernel, rfl, by decide +kernel, by decide +kernel⟩
theorem st_l_cell (a b : V) : start nm_l_cell [a, b] = [some a, some b] := rfl
def p_l_cell (K : PySem.W.Frag) (w : Wd) (a b : V) (Q : VK) (_ : XK) : Prop := ∃ k : Int, Scr K w a ∧ b = .int k ∧ 0 ≤ k ∧ ∀ v z, Ext Non w v → Q (.int z) v.H
theorem ok_l_cell {f : Addr} {fd : FuncData} {C_Entry C_Within C_At C_Between C_Table C_Read C_Joint C_Sifted C_LogError C_NoEntry C_NoMoment C_NoName C_NoPlace C_NoReading C_TooMany : Addr} (F : Fun K "_law_cell" "_law_cell" s_l_cell f fd) (T : Txt K mg C_Entry C_Within C_At C_Between C_Table C_Read C_Joint C_Sifted C_LogError C_NoEntry C_NoMoment C_NoName C_NoPlace C_NoReading C_TooMany)  : FnOk P ww K mg base CX0 1 f fd ["_law_script", "_law_k"] (pr2 (p_l_cell K)) := by
  refine F.ok sc_l_cell (fun vs H Q E h => len2 h) (fun cdv A outer s H vs Q E hr h => ?_)
  obtain ⟨w, x0, x1,  rfl, rfl, h⟩ := h
  have ekT := ek_T T
  have oex_NoEntry := T.oex_NoEntry; have xf_NoEntry := T.xf_NoEntry; have ec_NoEntry := T.ec_NoEntry; have xn_NoEntry := T.xn_NoEntry
  have oex_NoMoment := T.oex_NoMoment; have xf_NoMoment := T.xf_NoMoment; have ec_NoMoment := T.ec_NoMoment; have xn_NoMoment := T.xn_NoMoment
  have oex_NoName := T.oex_NoName; have xf_NoName := T.xf_NoName; have ec_NoName := T.ec_NoName; have xn_NoName := T.xn_NoName
  have oex_NoPlace := T.oex_NoPlace; have xf_NoPlace := T.xf_NoPlace; have ec_NoPlace := T.ec_NoPlace; have xn_NoPlace := T.xn_NoPlace
  have oex_NoReading := T.oex_NoReading; have xf_NoReading := T.xf_NoReading; have ec_NoReading := T.ec_NoReading; have xn_NoReading := T.xn_NoReading
  have oex_TooMany := T.oex_TooMany; have xf_TooMany := T.xf_TooMany; have ec_TooMany := T.ec_TooMany; have xn_TooMany := T.xn_TooMany
  have rel_NoPlace_NoPlace := T.rel_NoPlace_NoPlace
  have rel_NoPlace_ValueError := T.rel_NoPlace_ValueError
  have rel_NoPlace_NoEntry := T.rel_NoPlace_NoEntry
  have rel_NoPlace_NoMoment := T.rel_NoPlace_NoMoment
  have rel_NoPlace_NoName := T.rel_NoPlace_NoName
  have rel_NoPlace_NoReading := T.rel_NoPlace_NoReading
  have rel_NoPlace_TooMany := T.rel_NoPlace_TooMany
  have exm_NoPlace_LogError := T.exm_NoPlace_LogError
  refine ⟨_, (pss_cons (ps_if (pt_cmpR g_lt (pv 1) (pe_callB (kLen K) (by rfl) T.n_len (by decide +kernel) (pa_cons (pv 0) pa_nil)) (nomark _)) (pss_one (ps_ret (pe_ix (kIx K) (pv 0) (pv 1) (fun _ _ => rfl)))) pss_nil)
      (pss_one (ps_ret (pe_op (kAdd K) (pe_op (kMul K) pe_int (pv 1)) pe_int)))), ?_⟩
  rw [st_l_cell]
  obtain ⟨k, ⟨a, ns, rfl, hs, hl⟩, rfl, h0, q⟩ := h
  have hs' : SqL K w.H a (ns.map V.int) := w.ok.seq hs
  wtm_at "go"
  refine s_lenK hs' ?_
  wtm_at "go"
  refine ite_d (fun hb => ?_) (fun hb => ?_)
  · wtm_at "go"
    rw [List.length_map] at hb
    refine ⟨_, .int ns[k.toNat], .inl hs', ?_, ?_⟩
    · rw [atI_nn h0 (by rw [List.length_map]; omega), List.getElem?_map, List.getElem?_eq_getElem (by omega)]
      rfl
    · exact q w _ (Ext.refl _ _)
  · wtm_at "go"
    exact q w _ (Ext.refl _ _)
abbrev s_l_mix : Stmt := top 43
abbrev nm_l_mix : List Str := ["_law_cell_here", "_law_k", "_law_number"]
theorem sc_l_mix : FnScope nm_l_mix ["_law_cell_here", "_law_k"] (defScope s_l_mix) := ⟨rfl, rfl, rfl, by decide +kernel, rfl, by decide +kernel, by decide +kernel⟩
theorem st_l_mix (a b : V) : start nm_l_mix [a, b] = [some a, some b, none] := rfl
def p_l_mix (w : Wd) (a b : V) (Q : VK) (_ : XK) : Prop := ∃ z k : Int, a = .int z ∧ b = .int k ∧ ∀ v r, Ext Non w v → 0 ≤ r → r < 2 ^ 29 → Q (.int r) v.H
theorem ok_l_mix {f : Addr} {fd : FuncData} {C_Entry C_Within C_At C_Between C_Table C_Read C_Joint C_Sifted C_LogError C_NoEntry C_NoMoment C_NoName C_NoPlace C_NoReading C_TooMany : Addr} (F : Fun K "_law_mix" "_law_mix" s_l_mix f fd) (T : Txt K mg C_Entry C_Within C_At C_Between C_Table C_Read C_Joint C_Sifted C_LogError C_NoEntry C_NoMoment C_NoName C_NoPlace C_NoReading C_TooMany)  : FnOk P ww K mg base CX0 1 f fd ["_law_cell_here", "_law_k"] (pr2 (p_l_mix)) := by
  refine F.ok sc_l_mix (fun vs H Q E h => len2 h) (fun cdv A outer s H vs Q E hr h => ?_)
  obtain ⟨w, x0, x1,  rfl, rfl, h⟩ := h
  have ekT := ek_T T
  have oex_NoEntry := T.oex_NoEntry; have xf_NoEntry := T.xf_NoEntry; have ec_NoEntry := T.ec_NoEntry; have xn_NoEntry := T.xn_NoEntry
  have oex_NoMoment := T.oex_NoMoment; have xf_NoMoment := T.xf_NoMoment; have ec_NoMoment := T.ec_NoMoment; have xn_NoMoment := T.xn_NoMoment
  have oex_NoName := T.oex_NoName; have xf_NoName := T.xf_NoName; have ec_NoName := T.ec_NoName; have xn_NoName := T.xn_NoName
  have oex_NoPlace := T.oex_NoPlace; have xf_NoPlace := T.xf_NoPlace; have ec_NoPlace := T.ec_NoPlace; have xn_NoPlace := T.xn_NoPlace
  have oex_NoReading := T.oex_NoReading; have xf_NoReading := T.xf_NoReading; have ec_NoReading := T.ec_NoReading; have xn_NoReading := T.xn_NoReading
  have oex_TooMany := T.oex_TooMany; have xf_TooMany := T.xf_TooMany; have ec_TooMany := T.ec_TooMany; have xn_TooMany := T.xn_TooMany
  have rel_NoPlace_NoPlace := T.rel_NoPlace_NoPlace
  have rel_NoPlace_ValueError := T.rel_NoPlace_ValueError
  have rel_NoPlace_NoEntry := T.rel_NoPlace_NoEntry
  have rel_NoPlace_NoMoment := T.rel_NoPlace_NoMoment
  have rel_NoPlace_NoName := T.rel_NoPlace_NoName
  have rel_NoPlace_NoReading := T.rel_NoPlace_NoReading
  have rel_NoPlace_TooMany := T.rel_NoPlace_TooMany
  have exm_NoPlace_LogError := T.exm_NoPlace_LogError
  refine ⟨_, (pss_cons (ps_set (i := 2) sc_l_mix.nd rfl (Or.inl rfl) (pe_op g_mod (pe_op (kAdd K) (pe_op (kAdd K) (pv 0) (pe_op (kMul K) pe_int (pv 1))) pe_int) pe_int))
      (pss_cons (ps_set (i := 2) sc_l_mix.nd rfl (Or.inl rfl) (pe_op g_mod (pe_op (kMul K) (pe_op g_mod (pe_op (kMul K) (pv 2) (pv 2)) pe_int) pe_int) pe_int))
      (pss_one (ps_ret (pe_op g_div (pe_op g_mod (pe_op (kMul K) (pv 2) (pe_op (kAdd K) (pv 2) pe_int)) pe_int) pe_int))))), ?_⟩
  rw [st_l_mix]
  obtain ⟨z, k, rfl, rfl, q⟩ := h
  wtm_at "go"
  exact q w _ (Ext.refl _ _) (by omega) (by omega)
abbrev s_l_begun : Stmt := top 44
abbrev nm_l_begun : List Str := ["_law_cell_here"]
theorem sc_l_begun : FnScope nm_l_begun ["_law_cell_here"] (defScope s_l_begun) := ⟨rfl, rfl, rfl, by decide +kernel, rfl, by decide +kernel, by decide +kernel⟩
theorem st_l_begun (a : V) : start nm_l_begun [a] = [some a] := rfl
def p_l_begun (w : Wd) (a : V) (Q : VK) (_ : XK) : Prop := ∃ z : Int, a = .int z ∧ ∀ v p, Ext Non w v → w.H p = none → Stt v p → Q (.ref p) v.H
theorem ok_l_begun {f : Addr} {fd : FuncData} {C_Entry C_Within C_At C_Between C_Table C_Read C_Joint C_Sifted C_LogError C_NoEntry C_NoMoment C_NoName C_NoPlace C_NoReading C_TooMany : Addr} (F : Fun K "_law_begun" "_law_begun" s_l_begun f fd) (T : Txt K mg C_Entry C_Within C_At C_Between C_Table C_Read C_Joint C_Sifted C_LogError C_NoEntry C_NoMoment C_NoName C_NoPlace C_NoReading C_TooMany)  : FnOk P ww K mg base CX0 1 f fd ["_law_cell_here"] (pr1 (p_l_begun)) := by
  refine F.ok sc_l_begun (fun vs H Q E h => len1 h) (fun cdv A outer s H vs Q E hr h => ?_)
  obtain ⟨w, x0,  rfl, rfl, h⟩ := h
  have ekT := ek_T T
  have oex_NoEntry := T.oex_NoEntry; have xf_NoEntry := T.xf_NoEntry; have ec_NoEntry := T.ec_NoEntry; have xn_NoEntry := T.xn_NoEntry
  have oex_NoMoment := T.oex_NoMoment; have xf_NoMoment := T.xf_NoMoment; have ec_NoMoment := T.ec_NoMoment; have xn_NoMoment := T.xn_NoMoment
  have oex_NoName := T.oex_NoName; have xf_NoName := T.xf_NoName; have ec_NoName := T.ec_NoName; have xn_NoName := T.xn_NoName
  have oex_NoPlace := T.oex_NoPlace; have xf_NoPlace := T.xf_NoPlace; have ec_NoPlace := T.ec_NoPlace; have xn_NoPlace := T.xn_NoPlace
  have oex_NoReading := T.oex_NoReading; have xf_NoReading := T.xf_NoReading; have ec_NoReading := T.ec_NoReading; have xn_NoReading := T.xn_NoReading
  have oex_TooMany := T.oex_TooMany; have xf_TooMany := T.xf_TooMany; have ec_TooMany := T.ec_TooMany; have xn_TooMany := T.xn_TooMany
  have rel_NoPlace_NoPlace := T.rel_NoPlace_NoPlace
  have rel_NoPlace_ValueError := T.rel_NoPlace_ValueError
  have rel_NoPlace_NoEntry := T.rel_NoPlace_NoEntry
  have rel_NoPlace_NoMoment := T.rel_NoPlace_NoMoment
  have rel_NoPlace_NoName := T.rel_NoPlace_NoName
  have rel_NoPlace_NoReading := T.rel_NoPlace_NoReading
  have rel_NoPlace_TooMany := T.rel_NoPlace_TooMany
  have exm_NoPlace_LogError := T.exm_NoPlace_LogError
  refine ⟨_, (pss_one (ps_ret (pe_lst (pa_cons (pe_callB (kMax K rfl) (by rfl) T.n_max (by decide +kernel) (pa_cons pe_int (pa_cons (pe_op g_sub (pv 0) (pe_op g_pow pe_int pe_int)) pa_nil))) (pa_cons (pe_op g_mod (pv 0) pe_int) (pa_cons pe_int pa_nil)))))), ?_⟩
  rw [st_l_begun]
  obtain ⟨z, rfl, q⟩ := h
  wtm_at "go"
  rename_i p v e n o
  exact q v p e n ⟨_, _, _, (show (0 : Int) ≤ max 0 (z - 1000000000000000000) by omega), o⟩
abbrev s_l_pull : Stmt := top 45
abbrev nm_l_pull : List Str := ["_law_state", "_law_many", "_law_digit", "_law_high", "_law_low"]
theorem sc_l_pull : FnScope nm_l_pull ["_law_state", "_law_many"] (defScope s_l_pull) := ⟨rfl, rfl, rfl, by decide +kernel, rfl, by decide +kernel, by decide +kernel⟩
theorem st_l_pull (a b : V) : start nm_l_pull [a, b] = [some a, some b, none, none, none] := rfl
def p_l_pull (w : Wd) (a b : V) (Q : VK) (_ : XK) : Prop := ∃ p, ∃ m : Int, a = .ref p ∧ b = .int m ∧ Stt w p ∧ 0 < m ∧ m < 2 ^ 200 ∧ ∀ v d, Ext (One p) w v → Stt v p → 0 ≤ d → d < m → Q (.int d) v.H
theorem ok_l_pull {f : Addr} {fd : FuncData} {C_Entry C_Within C_At C_Between C_Table C_Read C_Joint C_Sifted C_LogError C_NoEntry C_NoMoment C_NoName C_NoPlace C_NoReading C_TooMany : Addr} (F : Fun K "_law_pull" "_law_pull" s_l_pull f fd) (T : Txt K mg C_Entry C_Within C_At C_Between C_Table C_Read C_Joint C_Sifted C_LogError C_NoEntry C_NoMoment C_NoName C_NoPlace C_NoReading C_TooMany) (c_l_mix : Fnc P ww K mg base CX0 1 "_law_mix" (pr2 (p_l_mix))) : FnOk P ww K mg base CX0 2 f fd ["_law_state", "_law_many"] (pr2 (p_l_pull)) := by
  refine F.ok sc_l_pull (fun vs H Q E h => len2 h) (fun cdv A outer s H vs Q E hr h => ?_)
  obtain ⟨w, x0, x1,  rfl, rfl, h⟩ := h
  have ekT := ek_T T
  have oex_NoEntry := T.oex_NoEntry; have xf_NoEntry := T.xf_NoEntry; have ec_NoEntry := T.ec_NoEntry; have xn_NoEntry := T.xn_NoEntry
  have oex_NoMoment := T.oex_NoMoment; have xf_NoMoment := T.xf_NoMoment; have ec_NoMoment := T.ec_NoMoment; have xn_NoMoment := T.xn_NoMoment
  have oex_NoName := T.oex_NoName; have xf_NoName := T.xf_NoName; have ec_NoName := T.ec_NoName; have xn_NoName := T.xn_NoName
  have oex_NoPlace := T.oex_NoPlace; have xf_NoPlace := T.xf_NoPlace; have ec_NoPlace := T.ec_NoPlace; have xn_NoPlace := T.xn_NoPlace
  have oex_NoReading := T.oex_NoReading; have xf_NoReading := T.xf_NoReading; have ec_NoReading := T.ec_NoReading; have xn_NoReading := T.xn_NoReading
  have oex_TooMany := T.oex_TooMany; have xf_TooMany := T.xf_TooMany; have ec_TooMany := T.ec_TooMany; have xn_TooMany := T.xn_TooMany
  have rel_NoPlace_NoPlace := T.rel_NoPlace_NoPlace
  have rel_NoPlace_ValueError := T.rel_NoPlace_ValueError
  have rel_NoPlace_NoEntry := T.rel_NoPlace_NoEntry
  have rel_NoPlace_NoMoment := T.rel_NoPlace_NoMoment
  have rel_NoPlace_NoName := T.rel_NoPlace_NoName
  have rel_NoPlace_NoReading := T.rel_NoPlace_NoReading
  have rel_NoPlace_TooMany := T.rel_NoPlace_TooMany
  have exm_NoPlace_LogError := T.exm_NoPlace_LogError
  refine ⟨_, (pss_cons (ps_if (pt_cmpR g_gt (pe_ix (kIx K) (pv 0) pe_int (fun _ _ => rfl)) pe_int (nomark _)) (pss_cons (ps_set (i := 2) sc_l_pull.nd rfl (Or.inl rfl) (pe_op g_mod (pe_ix (kIx K) (pv 0) pe_int (fun _ _ => rfl)) (pv 1)))
      (pss_cons (ps_asg (pe_op g_div (pe_ix (kIx K) (pv 0) pe_int (fun _ _ => rfl)) (pv 1)) (pg_sub (pv 0) pe_int set_list))
      (pss_one (ps_ret (pv 2))))) pss_nil)
      (pss_cons (ps_asg (pe_op (kAdd K) (pe_ix (kIx K) (pv 0) pe_int (fun _ _ => rfl)) pe_int) (pg_sub (pv 0) pe_int set_list))
      (pss_cons (ps_set (i := 3) sc_l_pull.nd rfl (Or.inl rfl) (pe_fn c_l_mix hr (by decide) pass0 (pa_cons (pe_ix (kIx K) (pv 0) pe_int (fun _ _ => rfl)) (pa_cons (pe_op (kMul K) pe_int (pe_ix (kIx K) (pv 0) pe_int (fun _ _ => rfl))) pa_nil))))
      (pss_cons (ps_set (i := 4) sc_l_pull.nd rfl (Or.inl rfl) (pe_fn c_l_mix hr (by decide) pass0 (pa_cons (pe_ix (kIx K) (pv 0) pe_int (fun _ _ => rfl)) (pa_cons (pe_op (kAdd K) (pe_op (kMul K) pe_int (pe_ix (kIx K) (pv 0) pe_int (fun _ _ => rfl))) pe_int) pa_nil))))
      (pss_one (ps_ret (pe_op g_mod (pe_op (kAdd K) (pe_op (kMul K) (pv 3) pe_int) (pv 4)) (pv 1)))))))), ?_⟩
  rw [st_l_pull]
  obtain ⟨p, m, rfl, rfl, ⟨l, s, t, hl, o⟩, h1, h2, q⟩ := h
  wtm_at "go"
  refine ite_d (fun hb => ?_) (fun hb => ?_)
  · wtm_at "go"
    refine q _ _ (by wtm_at "ch") ⟨_, _, _, ?_, by wtm_at "own"⟩ (Int.emod_nonneg _ (by omega)) (Int.emod_lt_of_pos _ h1)
    exact Int.ediv_nonneg hl (by omega)
  · wtm_at "go"
    refine ⟨_, _, rfl, rfl, fun v1 r1 e1 a1 b1 => ?_⟩
    wtm_at "go"
    refine ⟨_, _, rfl, rfl, fun v2 r2 e2 a2 b2 => ?_⟩
    wtm_at "go"
    exact q _ _ (by wtm_at "ch") ⟨_, _, _, hl, by wtm_at "own"⟩ (Int.emod_nonneg _ (by omega)) (Int.emod_lt_of_pos _ h1)
theorem pull_s {w : Wd} {p : Addr} {m : Int} {Q : VK} {E : XK} (pu : Stt w p) (a : 0 < m) (b : m < 2 ^ 200) (k : ∀ v d, Ext (One p) w v → Stt v p → 0 ≤ d → d < m → Q (.int d) v.H) : p_l_pull w (.ref p) (.int m) Q E := ⟨p, m, rfl, rfl, pu, a, b, k⟩
local macro_rules | `(tactic| wtm_at "go1") => `(tactic|
  (with_reducible refine' pull_s ?pu ?a ?b ?k; (case pu => wtm_at "stt"); (case a => first | decide | omega); (case b => first | decide | omega); (intro _v _d _e _pu _h0 _h1)))
abbrev s_l_names : Stmt := top 46
abbrev nm_l_names : List Str := ["_law_state", "_law_many", "_law_letters", "_law_size", "_law_at", "_law_k", "_law_base", "_law_first", "_law_step", "_law_names_here", "_law_behind", "_law_sign"]
theorem sc_l_names : FnScope nm_l_names ["_law_state", "_law_many"] (defScope s_l_names) := ⟨rfl, rfl, rfl, by decide +kernel, rfl, by decide +kernel, by decide +kernel⟩
theorem st_l_names (a b : V) : start nm_l_names [a, b] = [some a, some b, none, none, none, none, none, none, none, none, none, none] := rfl
def p_l_names (w : Wd) (a b : V) (Q : VK) (_ : XK) : Prop := ∃ p, ∃ m : Int, a = .ref p ∧ b = .int m ∧ Stt w p ∧ 0 ≤ m ∧ m < 1000 ∧ ∀ v r zs, Ext (One p) w v → Stt v p → v.S r = some (.lst (zs.map V.str)) → NmsOk zs m → Q (.ref r) v.H
theorem ok_l_names {f : Addr} {fd : FuncData} {C_Entry C_Within C_At C_Between C_Table C_Read C_Joint C_Sifted C_LogError C_NoEntry C_NoMoment C_NoName C_NoPlace C_NoReading C_TooMany : Addr} (F : Fun K "_law_names" "_law_names" s_l_names f fd) (T : Txt K mg C_Entry C_Within C_At C_Between C_Table C_Read C_Joint C_Sifted C_LogError C_NoEntry C_NoMoment C_NoName C_NoPlace C_NoReading C_TooMany) (c_l_pull : Fnc P ww K mg base CX0 2 "_law_pull" (pr2 (p_l_pull))) : FnOk P ww K mg base CX0 3 f fd ["_law_state", "_law_many"] (pr2 (p_l_names)) := by
  refine F.ok sc_l_names (fun vs H Q E h => len2 h) (fun cdv A outer s H vs Q E hr h => ?_)
  obtain ⟨w, x0, x1,  rfl, rfl, h⟩ := h
  have ekT := ek_T T
  have oex_NoEntry := T.oex_NoEntry; have xf_NoEntry := T.xf_NoEntry; have ec_NoEntry := T.ec_NoEntry; have xn_NoEntry := T.xn_NoEntry
  have oex_NoMoment := T.oex_NoMoment; have xf_NoMoment := T.xf_NoMoment; have ec_NoMoment := T.ec_NoMoment; have xn_NoMoment := T.xn_NoMoment
  have oex_NoName := T.oex_NoName; have xf_NoName := T.xf_NoName; have ec_NoName := T.ec_NoName; have xn_NoName := T.xn_NoName
  have oex_NoPlace := T.oex_NoPlace; have xf_NoPlace := T.xf_NoPlace; have ec_NoPlace := T.ec_NoPlace; have xn_NoPlace := T.xn_NoPlace
  have oex_NoReading := T.oex_NoReading; have xf_NoReading := T.xf_NoReading; have ec_NoReading := T.ec_NoReading; have xn_NoReading := T.xn_NoReading
  have oex_TooMany := T.oex_TooMany; have xf_TooMany := T.xf_TooMany; have ec_TooMany := T.ec_TooMany; have xn_TooMany := T.xn_TooMany
  have rel_NoPlace_NoPlace := T.rel_NoPlace_NoPlace
  have rel_NoPlace_ValueError := T.rel_NoPlace_ValueError
  have rel_NoPlace_NoEntry := T.rel_NoPlace_NoEntry
  have rel_NoPlace_NoMoment := T.rel_NoPlace_NoMoment
  have rel_NoPlace_NoName := T.rel_NoPlace_NoName
  have rel_NoPlace_NoReading := T.rel_NoPlace_NoReading
  have rel_NoPlace_TooMany := T.rel_NoPlace_TooMany
  have exm_NoPlace_LogError := T.exm_NoPlace_LogError
  refine ⟨_, (pss_cons (ps_set (i := 2) sc_l_names.nd rfl (Or.inr rfl) pe_str)
      (pss_cons (ps_set (i := 3) sc_l_names.nd rfl (Or.inl rfl) (pe_op (kAdd K) pe_int (pe_fn c_l_pull hr (by decide) pass0 (pa_cons (pv 0) (pa_cons pe_int pa_nil)))))
      (pss_cons (ps_set (i := 4) sc_l_names.nd rfl (Or.inl rfl) (pe_fn c_l_pull hr (by decide) pass0 (pa_cons (pv 0) (pa_cons (pv 3) pa_nil))))
      (pss_cons (ps_setLc (i := 6) (own := [("_law_k", 5)]) (g := (gName 5)) (tt := tYes) (by rfl) sc_l_names.nd rfl rfl (sw_true rfl rfl rfl (by decide +kernel)) (pi_range1 rfl T.n_range (pa_cons (pv 3) pa_nil)) (blkOk_by (own := [("_law_k", 5)]) (N := nm_l_names) (sc := defScope s_l_names) (by decide +kernel)) (fun _ _ _ _ _ => (pg_name (i := 5) sc_l_names.nd rfl (Or.inl rfl))) (fun _ _ _ _ _ => pts_nil) (fun _ _ _ _ _ => (pe_ix (kIx K) (pv 2) (pe_fn c_l_pull hr (by decide) pass0 (pa_cons (pv 0) (pa_cons pe_int pa_nil))) (fun _ _ => rfl))))
      (pss_cons (ps_set (i := 7) sc_l_names.nd rfl (Or.inl rfl) (pe_fn c_l_pull hr (by decide) pass0 (pa_cons (pv 0) (pa_cons pe_int pa_nil))))
      (pss_cons (ps_set (i := 8) sc_l_names.nd rfl (Or.inl rfl) (pe_ix (kIx K) (pe_lst (pa_cons pe_int (pa_cons pe_int (pa_cons pe_int (pa_cons pe_int (pa_cons pe_int (pa_cons pe_int (pa_cons pe_int (pa_cons pe_int (pa_cons pe_int (pa_cons pe_int (pa_cons pe_int (pa_cons pe_int pa_nil))))))))))))) (pe_fn c_l_pull hr (by decide) pass0 (pa_cons (pv 0) (pa_cons pe_int pa_nil))) (fun _ _ => rfl)))
      (pss_cons (ps_set (i := 9) sc_l_names.nd rfl (Or.inl rfl) (pe_lst pa_nil))
      (pss_cons (ps_for PassesOwn.never rfl (pi_range1 rfl T.n_range (pa_cons (pv 1) pa_nil)) (pg_name (i := 5) sc_l_names.nd rfl (Or.inl rfl)) (pss_cons (ps_set (i := 10) sc_l_names.nd rfl (Or.inl rfl) (pe_slice (kSl K) (pv 6) (po_some (pe_op (kAdd K) (pv 4) pe_int)) (po_some (pe_op (kAdd K) (pe_op (kAdd K) (pv 4) pe_int) (pe_fn c_l_pull hr (by decide) pass0 (pa_cons (pv 0) (pa_cons (pe_op g_sub (pv 3) (pv 4)) pa_nil)))))))
      (pss_cons (ps_set (i := 11) sc_l_names.nd rfl (Or.inl rfl) (pe_ix (kIx K) (pv 2) (pe_op g_mod (pe_op (kAdd K) (pv 7) (pe_op (kMul K) (pv 8) (pv 5))) pe_int) (fun _ _ => rfl)))
      (pss_one (ps_expr (pe_bm PySem.F.plainAttrs_list PySem.F.slot_list_append PySem.F.type_list_append mt_append (pv 9) (pa_cons (pe_op (kAdd K) (pe_op (kAdd K) (pe_join pe_str (pe_slice (kSl K) (pv 6) po_none (po_some (pv 4)))) (pv 11)) (pe_join pe_str (pv 10))) pa_nil)))))))
      (pss_one (ps_ret (pv 9))))))))))), ?_⟩
  rw [st_l_names]
  obtain ⟨p, m, rfl, rfl, pu, hm0, hm1, k⟩ := h
  wtm_at "gs"
  rename_i v1 sz0 e1 pu1 h10 h11 v2 at0 e2 pu2 h20 h21
  have e12 : Ext (One p) w v2 := e1.trans e2
  clear e1 e2 pu pu1
  intro D hD
  have hpD : p ≠ D := stt_new' hD pu2
  refine lc_rngI (α := Nat) (P := fun c => 97 ≤ c ∧ c ≤ 122) (gd := fun c => .str (sgl c)) (One p) (fun u => Stt u p) hD (fun h => hpD h.symm) (by rw [sizeLine_eq]; omega) (fun u e => pu2.go e (fun z => z)) (fun u v h e => h.go e hpD) ?_ ?_
  · intro i u hi eu pu2 R Z hR
    wtm_at "gs"
    refine ⟨rfl, s_yes (ite_tt ?_)⟩
    wtm_at "gs"
    rename_i v3 d3 e3 pu3 h30 h31
    refine s_ixZe (by rw [sizeLine_eq]; decide +kernel) h30 (by have h26 : (Str.ofString "abcdefghijklmnopqrstuvwxyz").length = 26 := (by decide +kernel); omega) fun c hc => ?_
    have := letter_at hc
    exact hR _ _ c e3 pu3 (by omega) (.str _)
  · intro u acc cs eu pu2 hD' o hr hl hP
    have hr' : RpA u.S acc ((cs.map sgl).map PyData.str) := by rw [List.map_map]; exact hr
    obtain rfl := RpA.strs_inv hr'
    show gName 6 _ _ _ _
    refine lay (R := fun H => gName 6 (V.ref D) _ H _) o fun v3 e3 s3 => ?_
    have hpD' : ¬ One D p := hpD
    have pu3 : Stt v3 p := pu2.go e3 hpD'
    have ew3 : Ext (One p) w v3 := (e12.trans eu).step e3 fun b hb => .inl (by rw [show b = D from hb]; exact e12.back hD)
    clear e12 eu pu2 e3 hr hr' o hD hD'
    have hcl : cs.length ≤ 8 := by omega
    wtm_at "go"
    rename_i v4 fi e4 pu4 h40 h41 l5 v5 e5 n5 o5 v6 d6 e6 pu6 h60 h61
    wtm_at "ixm"
    intro v hv hm
    clear hv
    obtain ⟨st, rfl, hst⟩ : ∃ n : Nat, v = .int (n : Int) ∧ n ∈ [1, 3, 5, 7, 9, 11, 15, 17, 19, 21, 23, 25] := by
      simp only [List.mem_cons, List.not_mem_nil, or_false] at hm
      rcases hm with rfl | rfl | rfl | rfl | rfl | rfl | rfl | rfl | rfl | rfl | rfl | rfl
      · exact ⟨1, rfl, by decide⟩
      · exact ⟨3, rfl, by decide⟩
      · exact ⟨5, rfl, by decide⟩
      · exact ⟨7, rfl, by decide⟩
      · exact ⟨9, rfl, by decide⟩
      · exact ⟨11, rfl, by decide⟩
      · exact ⟨15, rfl, by decide⟩
      · exact ⟨17, rfl, by decide⟩
      · exact ⟨19, rfl, by decide⟩
      · exact ⟨21, rfl, by decide⟩
      · exact ⟨23, rfl, by decide⟩
      · exact ⟨25, rfl, by decide⟩
    have ew6 : Ext (One p) w v6 := ew3.trans (e4.trans ((e5.more fun _ z => z.elim).trans e6))
    have s6 : v6.S D = some (.lst ((cs.map sgl).map V.str)) := st_go e6 (st_go e5 (st_go e4 s3))
    have hst25 : st ≤ 25 := by
      revert hst
      simp only [List.mem_cons, List.not_mem_nil, or_false]
      omega
    clear e4 e5 e6 n5 o5 ew3 s3 pu3 pu4 hm
    wtm_at "go"
    rename_i l7 v7 e7 n7 o7
    obtain ⟨f0, rfl⟩ := Int.eq_ofNat_of_zero_le h40
    obtain ⟨at1, rfl⟩ := Int.eq_ofNat_of_zero_le h20
    have hne : p ≠ l7 := stt_new' n7 pu6
    have pu7 : Stt v7 p := pu6.go e7 fun z => z
    have s7 : v7.S D = some (.lst ((cs.map sgl).map V.str)) := st_go e7 s6
    refine forW (ww_range (lo := 0) (m := m.toNat)) (fun i σ u => Ext (Two p l7) v7 u ∧ Stt u p ∧ ∃ (zs : List Str) (g5 g10 g11 : Option V), σ = [some (V.ref p), some (V.int m), some (V.str (Str.ofString "abcdefghijklmnopqrstuvwxyz")), some (V.int (1 + sz0)), some (V.int (at1 : Int)), g5, some (V.ref D), some (V.int (f0 : Int)), some (V.int (st : Int)), some (V.ref l7), g10, g11] ∧ Own u l7 (.lst (zs.map V.str)) ∧ zs.length = i ∧ NmInv (cs.take at1) f0 st zs)
      ⟨Ext.refl _ _, pu7, [], _, _, _, rfl, o7, rfl, .nil⟩ (fun _ _ _ _ _ => trivial) ?_ ?_
    · rintro i x σ _ u hi ⟨eu, puu, zs, g5, g10, g11, rfl, ou, hzl, inv⟩ ⟨rfl, rfl⟩
      have su : u.S D = some (.lst ((cs.map sgl).map V.str)) := st_go eu s7
      wtm_at "gs"
      rename_i v8 d8 e8 pu8 h80 h81 b8 v9 e9 n9 s9
      have o8 : Own v8 l7 _ := ou.ext e8 (fun z => hne z.symm)
      have o9 : Own v9 l7 _ := o8.ext e9 fun z => z
      have pu9 : Stt v9 p := pu8.go e9 fun z => z
      have hx : ((f0 : Int) + (st : Int) * (0 + (i : Int))) % 26 = (((f0 + st * i) % 26 : Nat) : Int) := by rw [Int.zero_add]; norm_cast
      rw [hx]
      have hlt : (f0 + st * i) % 26 < 26 := Nat.mod_lt _ (by decide)
      generalize hqq : (f0 + st * i) % 26 = qq at hlt
      refine s_ixZe (by rw [sizeLine_eq]; decide +kernel) (by omega) (by have h26 : (Str.ofString "abcdefghijklmnopqrstuvwxyz").length = 26 := (by decide +kernel); omega) fun c hc => ?_
      rw [Int.toNat_natCast] at hc
      obtain ⟨hc1, _⟩ := letter_at hc
      wtm_at "gs"
      rename_i p10 v10 e10 n10 s10
      rw [cut_mapT (f := V.str) (by omega), ← List.map_take, Int.toNat_natCast] at s10
      obtain ⟨kk, hkk⟩ := cut_mapF (f := V.str) (xs := cs.map sgl) (a := (at1 : Int) + 1) (b := (at1 : Int) + 1 + d8) (by omega)
      rw [hkk, show ((at1 : Int) + 1).toNat = at1 + 1 from by omega, ← List.map_drop, ← List.map_take] at s9
      have hcs1 : ∀ c ∈ cs.take at1, 97 ≤ c ∧ c ≤ 122 := fun c hc => hP c (List.mem_of_mem_take hc)
      have hcs2 : ∀ c ∈ (cs.drop (at1 + 1)).take kk, 97 ≤ c ∧ c ≤ 122 := fun c hc => hP c (List.mem_of_mem_drop (List.mem_of_mem_take hc))
      have hl1 : (cs.take at1).length = at1 := by rw [List.length_take]; omega
      have hl2 : ((cs.drop (at1 + 1)).take kk).length ≤ cs.length - (at1 + 1) := by rw [List.length_take, List.length_drop]; omega
      generalize (cs.drop (at1 + 1)).take kk = post at s9 hcs2 hl2
      generalize hpre : cs.take at1 = pre at s10 hcs1 hl1 inv
      refine ⟨_, _, pre.map sgl, rfl, rfl, .inl (SqL.of (v10.ok _ _ s10)), join_sz hcs1 (by omega), ?_⟩
      rw [TL.join_eq]
      obtain ⟨z1, hz1e, hz1⟩ : ∃ z, Str.join (Str.ofString "") (pre.map sgl) = z ∧ tl z = pre := ⟨_, rfl, join_sgl _⟩
      rw [hz1e]
      have hz1l : z1.length = at1 := by rw [← hl1, ← hz1]; exact (len_tl z1).symm
      have t1 : Tx 8 z1 := ⟨by omega, fun c hc => by have := hcs1 c (by rw [← hz1]; exact hc); omega⟩
      have tc : Tx 1 (⟨#[c]⟩ : Str) := Tx.one (by omega)
      wtm_at "gs"
      have s9' : v10.S b8 = some (.lst ((post.map sgl).map V.str)) := st_go e10 s9
      refine ⟨_, _, post.map sgl, rfl, rfl, .inl (SqL.of (v10.ok _ _ s9')), join_sz hcs2 (by omega), ?_⟩
      rw [TL.join_eq]
      obtain ⟨z2, hz2e, hz2⟩ : ∃ z, Str.join (Str.ofString "") (post.map sgl) = z ∧ tl z = post := ⟨_, rfl, join_sgl _⟩
      rw [hz2e]
      have hz2l : z2.length = post.length := by rw [← hz2]; exact (len_tl z2).symm
      have t2 : Tx 8 z2 := ⟨by omega, fun c hc => by have := hcs2 c (by rw [← hz2]; exact hc); omega⟩
      have t12 : Tx 9 (z1 ++ ⟨#[c]⟩) := Tx.app t1 tc
      have o10 : Own v10 l7 _ := o9.ext e10 fun z => z
      have pu10 : Stt v10 p := pu9.go e10 fun z => z
      have e710 : Ext (Two p l7) v7 v10 := (eu.trans (e8.more fun b hb => .inr (.inl hb))).trans ((e9.trans e10).more fun _ z => z.elim)
      have htl : tl (z1 ++ ⟨#[c]⟩ ++ z2) = pre ++ (97 + qq) :: post := by rw [tl_append, tl_append, hz1, hz2, hc1]; simp [tl_one]
      clear eu e8 e9 e10 o8 o9 ou puu pu8 pu9 s9 s9' s10
      wtm_at "gs"
      rename_i v11 e11 o11
      refine ⟨e710.trans (e11.more fun b hb => .inr (.inr hb)), pu10.go e11 (fun h => hne h), zs ++ [z1 ++ ⟨#[c]⟩ ++ z2], _, _, _, rfl, ?_, by rw [List.length_append, hzl]; rfl, inv.snoc ⟨?_, ?_, ?_⟩ ⟨post, by rw [hzl, hqq]; exact htl⟩⟩
      · rw [List.map_append]
        exact o11
      · rw [htl, List.length_append, List.length_cons]
        omega
      · rw [htl]
        simp
      · rw [htl]
        intro d hd
        rcases List.mem_append.mp hd with hd | hd
        · exact hcs1 d hd
        · rcases List.mem_cons.mp hd with rfl | hd
          · omega
          · exact hcs2 d hd
    · rintro σ u ⟨eu, puu, zs, g5, g10, g11, rfl, ou, hzl, inv⟩
      wtm_at "go"
      refine lay (R := fun H => Q (.ref l7) H) ou fun v e s => ?_
      have npl : w.H l7 = none := ew6.back n7
      refine k v l7 zs ?_ (puu.go e fun h => hne h) s ⟨hzl, fun z hz => ?_, fun h26 => inv.nodup hst (by omega)⟩
      · exact (((ew6.trans (e7.more fun _ z => z.elim)).step eu fun b hb => hb.elim .inr fun h => .inl (by rw [h]; exact npl))).step e fun b hb => .inl (by rw [show b = l7 from hb]; exact npl)
      · obtain ⟨i, hi, rfl⟩ := List.mem_iff_getElem.mp hz
        exact (inv i _ (List.getElem?_eq_getElem hi)).1
abbrev s_l_shift : Stmt := top 47
abbrev nm_l_shift : List Str := ["_law_state", "_law_way"]
theorem sc_l_shift : FnScope nm_l_shift ["_law_state"] (defScope s_l_shift) := ⟨rfl, rfl, rfl, by decide +kernel, rfl, by decide +kernel, by decide +kernel⟩
theorem st_l_shift (a : V) : start nm_l_shift [a] = [some a, none] := rfl
def p_l_shift (w : Wd) (a : V) (Q : VK) (_ : XK) : Prop := ∃ p, a = .ref p ∧ Stt w p ∧ ∀ v d, Ext (One p) w v → Stt v p → -2880 ≤ d → d ≤ 2880 → Q (.int d) v.H
theorem ok_l_shift {f : Addr} {fd : FuncData} {C_Entry C_Within C_At C_Between C_Table C_Read C_Joint C_Sifted C_LogError C_NoEntry C_NoMoment C_NoName C_NoPlace C_NoReading C_TooMany : Addr} (F : Fun K "_law_shift" "_law_shift" s_l_shift f fd) (T : Txt K mg C_Entry C_Within C_At C_Between C_Table C_Read C_Joint C_Sifted C_LogError C_NoEntry C_NoMoment C_NoName C_NoPlace C_NoReading C_TooMany) (c_l_pull : Fnc P ww K mg base CX0 2 "_law_pull" (pr2 (p_l_pull))) : FnOk P ww K mg base CX0 3 f fd ["_law_state"] (pr1 (p_l_shift)) := by
  refine F.ok sc_l_shift (fun vs H Q E h => len1 h) (fun cdv A outer s H vs Q E hr h => ?_)
  obtain ⟨w, x0,  rfl, rfl, h⟩ := h
  have ekT := ek_T T
  have oex_NoEntry := T.oex_NoEntry; have xf_NoEntry := T.xf_NoEntry; have ec_NoEntry := T.ec_NoEntry; have xn_NoEntry := T.xn_NoEntry
  have oex_NoMoment := T.oex_NoMoment; have xf_NoMoment := T.xf_NoMoment; have ec_NoMoment := T.ec_NoMoment; have xn_NoMoment := T.xn_NoMoment
  have oex_NoName := T.oex_NoName; have xf_NoName := T.xf_NoName; have ec_NoName := T.ec_NoName; have xn_NoName := T.xn_NoName
  have oex_NoPlace := T.oex_NoPlace; have xf_NoPlace := T.xf_NoPlace; have ec_NoPlace := T.ec_NoPlace; have xn_NoPlace := T.xn_NoPlace
  have oex_NoReading := T.oex_NoReading; have xf_NoReading := T.xf_NoReading; have ec_NoReading := T.ec_NoReading; have xn_NoReading := T.xn_NoReading
  have oex_TooMany := T.oex_TooMany; have xf_TooMany := T.xf_TooMany; have ec_TooMany := T.ec_TooMany; have xn_TooMany := T.xn_TooMany
  have rel_NoPlace_NoPlace := T.rel_NoPlace_NoPlace
  have rel_NoPlace_ValueError := T.rel_NoPlace_ValueError
  have rel_NoPlace_NoEntry := T.rel_NoPlace_NoEntry
  have rel_NoPlace_NoMoment := T.rel_NoPlace_NoMoment
  have rel_NoPlace_NoName := T.rel_NoPlace_NoName
  have rel_NoPlace_NoReading := T.rel_NoPlace_NoReading
  have rel_NoPlace_TooMany := T.rel_NoPlace_TooMany
  have exm_NoPlace_LogError := T.exm_NoPlace_LogError
  refine ⟨_, (pss_cons (ps_set (i := 1) sc_l_shift.nd rfl (Or.inl rfl) (pe_fn c_l_pull hr (by decide) pass0 (pa_cons (pv 0) (pa_cons pe_int pa_nil))))
      (pss_cons (ps_if (pt_cmpR (kEq K hr.units) (pv 1) pe_int (nomark _)) (pss_one (ps_ret (pe_op (kMul K) pe_int (pe_op g_sub (pe_fn c_l_pull hr (by decide) pass0 (pa_cons (pv 0) (pa_cons pe_int pa_nil))) pe_int)))) pss_nil)
      (pss_cons (ps_if (pt_cmpR (kEq K hr.units) (pv 1) pe_int (nomark _)) (pss_one (ps_ret (pe_op g_sub (pe_fn c_l_pull hr (by decide) pass0 (pa_cons (pv 0) (pa_cons pe_int pa_nil))) pe_int))) pss_nil)
      (pss_one (ps_ret (pe_op g_sub (pe_fn c_l_pull hr (by decide) pass0 (pa_cons (pv 0) (pa_cons pe_int pa_nil))) pe_int)))))), ?_⟩
  rw [st_l_shift]
  obtain ⟨p, rfl, pu, k⟩ := h
  wtm_at "go"
  refine ite_d (fun c => ?_) (fun c => ?_)
  · wtm_at "go"
    exact k _ _ (by wtm_at "ch") (by wtm_at "stt") (by omega) (by omega)
  · wtm_at "go"
    refine ite_d (fun c => ?_) (fun c => ?_)
    · wtm_at "go"
      exact k _ _ (by wtm_at "ch") (by wtm_at "stt") (by omega) (by omega)
    · wtm_at "go"
      exact k _ _ (by wtm_at "ch") (by wtm_at "stt") (by omega) (by omega)
theorem shift_s {w : Wd} {p : Addr} {Q : VK} {E : XK} (pu : Stt w p) (k : ∀ v d, Ext (One p) w v → Stt v p → -2880 ≤ d → d ≤ 2880 → Q (.int d) v.H) : p_l_shift w (.ref p) Q E := ⟨p, rfl, pu, k⟩
local macro_rules | `(tactic| wtm_at "go1") => `(tactic|
  (with_reducible refine' shift_s ?pu ?k; (case pu => wtm_at "stt"); (intro _v _d _e _pu _h0 _h1)))
abbrev s_l_rows : Stmt := top 48
abbrev nm_l_rows : List Str := ["_law_state", "_law_unit", "_law_rows_here", "_law_k"]
theorem sc_l_rows : FnScope nm_l_rows ["_law_state"] (defScope s_l_rows) := ⟨rfl, rfl, rfl, by decide +kernel, rfl, by decide +kernel, by decide +kernel⟩
theorem st_l_rows (a : V) : start nm_l_rows [a] = [some a, none, none, none] := rfl
def p_l_rows (w : Wd) (a : V) (Q : VK) (_ : XK) : Prop := ∃ p, a = .ref p ∧ Stt w p ∧ ∀ v r R, Ext (One p) w v → Stt v p → Rp v.S r (spD R) → TabOk R → Q r v.H
theorem ok_l_rows {f : Addr} {fd : FuncData} {C_Entry C_Within C_At C_Between C_Table C_Read C_Joint C_Sifted C_LogError C_NoEntry C_NoMoment C_NoName C_NoPlace C_NoReading C_TooMany : Addr} (F : Fun K "_law_rows" "_law_rows" s_l_rows f fd) (T : Txt K mg C_Entry C_Within C_At C_Between C_Table C_Read C_Joint C_Sifted C_LogError C_NoEntry C_NoMoment C_NoName C_NoPlace C_NoReading C_TooMany) (c_l_pull : Fnc P ww K mg base CX0 2 "_law_pull" (pr2 (p_l_pull))) (c_l_shift : Fnc P ww K mg base CX0 3 "_law_shift" (pr1 (p_l_shift))) : FnOk P ww K mg base CX0 4 f fd ["_law_state"] (pr1 (p_l_rows)) := by
  refine F.ok sc_l_rows (fun vs H Q E h => len1 h) (fun cdv A outer s H vs Q E hr h => ?_)
  obtain ⟨w, x0,  rfl, rfl, h⟩ := h
  have ekT := ek_T T
  have oex_NoEntry := T.oex_NoEntry; have xf_NoEntry := T.xf_NoEntry; have ec_NoEntry := T.ec_NoEntry; have xn_NoEntry := T.xn_NoEntry
  have oex_NoMoment := T.oex_NoMoment; have xf_NoMoment := T.xf_NoMoment; have ec_NoMoment := T.ec_NoMoment; have xn_NoMoment := T.xn_NoMoment
  have oex_NoName := T.oex_NoName; have xf_NoName := T.xf_NoName; have ec_NoName := T.ec_NoName; have xn_NoName := T.xn_NoName
  have oex_NoPlace := T.oex_NoPlace; have xf_NoPlace := T.xf_NoPlace; have ec_NoPlace := T.ec_NoPlace; have xn_NoPlace := T.xn_NoPlace
  have oex_NoReading := T.oex_NoReading; have xf_NoReading := T.xf_NoReading; have ec_NoReading := T.ec_NoReading; have xn_NoReading := T.xn_NoReading
  have oex_TooMany := T.oex_TooMany; have xf_TooMany := T.xf_TooMany; have ec_TooMany := T.ec_TooMany; have xn_TooMany := T.xn_TooMany
  have rel_NoPlace_NoPlace := T.rel_NoPlace_NoPlace
  have rel_NoPlace_ValueError := T.rel_NoPlace_ValueError
  have rel_NoPlace_NoEntry := T.rel_NoPlace_NoEntry
  have rel_NoPlace_NoMoment := T.rel_NoPlace_NoMoment
  have rel_NoPlace_NoName := T.rel_NoPlace_NoName
  have rel_NoPlace_NoReading := T.rel_NoPlace_NoReading
  have rel_NoPlace_TooMany := T.rel_NoPlace_TooMany
  have exm_NoPlace_LogError := T.exm_NoPlace_LogError
  refine ⟨_, (pss_cons (ps_set (i := 1) sc_l_rows.nd rfl (Or.inl rfl) (pe_ix (kIx K) (pe_lst (pa_cons pe_int (pa_cons pe_int (pa_cons pe_int (pa_cons pe_int (pa_cons (pe_op g_pow pe_int pe_int) pa_nil)))))) (pe_fn c_l_pull hr (by decide) pass0 (pa_cons (pv 0) (pa_cons pe_int pa_nil))) (fun _ _ => rfl)))
      (pss_cons (ps_set (i := 2) sc_l_rows.nd rfl (Or.inl rfl) (pe_lst (pa_cons (pe_tup (pa_cons pe_int (pa_cons (pe_fn c_l_shift hr (by decide) pass0 (pa_cons (pv 0) pa_nil)) pa_nil))) pa_nil)))
      (pss_cons (ps_for PassesOwn.never rfl (pi_range1 rfl T.n_range (pa_cons (pe_fn c_l_pull hr (by decide) pass0 (pa_cons (pv 0) (pa_cons (pe_ix (kIx K) (pe_lst (pa_cons pe_int (pa_cons pe_int (pa_cons pe_int (pa_cons pe_int pa_nil))))) (pe_fn c_l_pull hr (by decide) pass0 (pa_cons (pv 0) (pa_cons pe_int pa_nil))) (fun _ _ => rfl)) pa_nil))) pa_nil)) (pg_name (i := 3) sc_l_rows.nd rfl (Or.inl rfl)) (pss_one (ps_expr (pe_bm PySem.F.plainAttrs_list PySem.F.slot_list_append PySem.F.type_list_append mt_append (pv 2) (pa_cons (pe_tup (pa_cons (pe_op (kAdd K) (pe_op (kAdd K) (pe_ix (kIx K) (pe_ix (kIx K) (pv 2) (pe_un un_neg pe_int) (fun _ _ => rfl)) pe_int (fun _ _ => rfl)) pe_int) (pe_fn c_l_pull hr (by decide) pass0 (pa_cons (pv 0) (pa_cons (pe_op (kMul K) pe_int (pv 1)) pa_nil)))) (pa_cons (pe_fn c_l_shift hr (by decide) pass0 (pa_cons (pv 0) pa_nil)) pa_nil))) pa_nil)))))
      (pss_cons (ps_if (PW.pt (pw_and (pt_cmpR g_gt (pe_callB (kLen K) (by rfl) T.n_len (by decide +kernel) (pa_cons (pv 2) pa_nil)) pe_int (nomark _)) (pw_and1 (pt_cmpR (kEq K hr.units) (pe_fn c_l_pull hr (by decide) pass0 (pa_cons (pv 0) (pa_cons pe_int pa_nil))) pe_int (nomark _))))) (pss_one (ps_asg (pe_tup (pa_cons (pe_op g_pow pe_int pe_int) (pa_cons (pe_ix (kIx K) (pe_ix (kIx K) (pv 2) (pe_un un_neg pe_int) (fun _ _ => rfl)) pe_int (fun _ _ => rfl)) pa_nil))) (pg_sub (pv 2) (pe_un un_neg pe_int) set_list))) pss_nil)
      (pss_one (ps_ret (pv 2))))))), ?_⟩
  rw [st_l_rows]
  obtain ⟨p, rfl, pu, k⟩ := h
  wtm_at "go"
  wtm_at "ixm"
  intro v hv hm
  clear hv
  simp only [List.mem_cons, List.not_mem_nil, or_false] at hm
  obtain ⟨unit, rfl, hu0, hu1⟩ : ∃ n : Int, v = .int n ∧ 1 ≤ n ∧ n ≤ 10000000 := by rcases hm with rfl | rfl | rfl | rfl | rfl <;> exact ⟨_, rfl, by omega, by omega⟩
  clear hm
  wtm_at "go"
  wtm_at "ixm"
  intro v hv hm
  clear hv
  simp only [List.mem_cons, List.not_mem_nil, or_false] at hm
  obtain ⟨many, rfl, hu2, hu3⟩ : ∃ n : Int, v = .int n ∧ 1 ≤ n ∧ n ≤ 21 := by rcases hm with rfl | rfl | rfl | rfl <;> exact ⟨_, rfl, by omega, by omega⟩
  clear hm
  wtm_at "go"
  rename_i l1 v1 e1 n1 o1 v2 d2 e2 pu2 h20 h21 v5 d5 e5 pu5 h50 h51 t6 v6 e6 n6 s6 L v7 e7 n7 o7 l8 v8 e8 n8 o8 v9 d9 e9 pu9 h90 h91 v10 d10 e10 pu10 h100 h101
  have e57 : Ext (One p) w v7 := ((e1.more fun _ z => z.elim).trans (e2.trans e5)).trans ((e6.trans e7).more fun _ z => z.elim)
  have hpL : p ≠ L := stt_new' n7 (pu5.go e6 fun z => z)
  have nwL : w.H L = none := ((e1.more fun _ z => z.elim).trans (e2.trans (e5.trans (e6.more fun _ z => z.elim)))).back n7
  have e710 : Ext (One p) v7 v10 := (e8.more fun _ z => z.elim).trans (e9.trans e10)
  have o10 : Own v10 L (.lst [.ref t6]) := o7.ext e710 fun z => hpL z.symm
  have s10 : v10.S t6 = some (.tup [.int 0, .int d5]) := st_go e710 (st_go e7 s6)
  have ew10 : Ext (One p) w v10 := e57.trans e710
  clear e1 e2 e5 e6 e7 e8 e9 e10 o1 o7 o8 s6 pu pu2 pu5 pu9 e57 e710
  refine forW (ww_range (lo := 0) (m := d10.toNat)) (fun i σ u => Ext (Two p L) v10 u ∧ Stt u p ∧ ∃ (us : List V) (t : Addr) (R : List (Int × Int)) (mo sh : Int) (g : Option V), σ = [some (V.ref p), some (V.int unit), some (V.ref L), g] ∧ Own u L (.lst (us ++ [.ref t])) ∧ RpA u.S us (R.map prD) ∧ u.S t = some (.tup [.int mo, .int sh]) ∧ R.length = i ∧ Rising none (R ++ [(mo, sh)]) ∧ mo ≤ i * 30000000)
    ⟨Ext.refl _ _, pu10, [], t6, [], 0, d5, _, rfl, o10, .nil, s10, rfl, ⟨⟨(show (0 : Int) ≤ 0 by decide), (show (0 : Int) ≤ 1000000000 by decide), h50, h51⟩, rfl, trivial⟩, by omega⟩ (fun _ _ _ _ _ => trivial) ?_ ?_
  · rintro i x σ _ u hi ⟨eu, puu, us, t, R, mo, sh, g, rfl, ou, ru, st, hl, hr, hm⟩ ⟨rfl, rfl⟩
    have hlu := ru.length
    rw [List.length_map] at hlu
    obtain ⟨_, _, hb⟩ := rising_init hr
    wtm_at "go"
    rename_i v11 d11 e11 pu11 h110 h111 v12 d12 e12 pu12 h120 h121 t13 v13 e13 n13 s13 v14 e14 o14
    have e2 : Ext (One p) u v12 := e11.trans e12
    have et : Ext (Two p L) v10 v14 := (eu.trans (e2.more fun b hb => .inr (.inl hb))).trans ((e13.more fun _ z => z.elim).trans (e14.more fun b hb => .inr (.inr hb)))
    refine ⟨et, (pu12.go e13 fun z => z).go e14 (fun h => hpL h), us ++ [.ref t], t13, R ++ [(mo, sh)], mo + 1 + d11, d12, _, rfl, o14, ?_, st_go e14 s13, by rw [List.length_append, hl]; rfl, ?_, by omega⟩
    · rw [List.map_append]
      exact RpA.append ((((ru.go e11).go e12).go e13).go e14) (.one (.tup (st_go e14 (st_go e13 (st_go e12 (st_go e11 st)))) (.cons (.int _) (.cons (.int _) .nil))))
    · refine rising_snoc hr ⟨by show 0 ≤ mo + 1 + d11; omega, by show mo + 1 + d11 ≤ 1000000000; omega, h120, h121⟩ (fun h => by simp at h) fun q hq => ?_
      rw [List.getLast?_append] at hq
      cases hq
      show mo < mo + 1 + d11
      omega
  · rintro σ u ⟨eu, puu, us, t, R, mo, sh, g, rfl, ou, ru, st, hl, hr, hm⟩
    have hlu := ru.length
    rw [List.length_map] at hlu
    obtain ⟨_, _, hb⟩ := rising_init hr
    have hRl : R.length ≤ 20 := by omega
    wtm_at "goi"
    refine s_ifJ (fun σ u2 => Ext (Two p L) u u2 ∧ Stt u2 p ∧ σ = [some (V.ref p), some (V.int unit), some (V.ref L), g] ∧ ∃ (us : List V) (t : Addr) (R : List (Int × Int)) (mo sh : Int), Own u2 L (.lst (us ++ [.ref t])) ∧ RpA u2.S us (R.map prD) ∧ u2.S t = some (.tup [.int mo, .int sh]) ∧ R.length ≤ 20 ∧ Rising none (R ++ [(mo, sh)])) (fun Z hZ => ?_) ?_
    · wtm_at "go"
      refine ite_d (fun c1 => ?_) (fun c1 => ?_)
      · have hRn : R ≠ [] := fun e => by
          rw [e] at hlu
          rw [List.length_append, hlu] at c1
          simp at c1
        wtm_at "go"
        refine ite_d (fun c2 => ?_) (fun c2 => ?_)
        · wtm_at "go"
          rename_i v11 d11 e11 pu11 h110 h111 t13 v13 e13 n13 s13 v14 e14 o14
          have et : Ext (Two p L) u v14 := (e11.more fun b hb => .inr (.inl hb)).trans ((e13.more fun _ z => z.elim).trans (e14.more fun b hb => .inr (.inr hb)))
          exact hZ _ _ ⟨et, (pu11.go e13 fun z => z).go e14 (fun h => hpL h), rfl, us, t13, R, 1000000000, sh, o14, ((ru.go e11).go e13).go e14, st_go e14 s13, hRl, rising_last hr hRn⟩
        · wtm_at "go"
          rename_i v11 d11 e11 pu11 h110 h111
          exact hZ _ _ ⟨e11.more fun b hb => .inr (.inl hb), pu11, rfl, us, t, R, mo, sh, ou.ext e11 (fun h => hpL h.symm), ru.go e11, st_go e11 st, hRl, hr⟩
      · wtm_at "go"
        exact hZ _ _ ⟨Ext.refl _ _, puu, rfl, us, t, R, mo, sh, ou, ru, st, hRl, hr⟩
    · rintro σ u2 ⟨eu2, pu2, rfl, us, t, R, mo, sh, ou, ru, st, hl, hr⟩
      wtm_at "go"
      refine lay (R := fun H => Q (.ref L) H) ou fun v e s => ?_
      refine k v _ (R ++ [(mo, sh)]) ?_ (pu2.go e fun h => hpL h) (.lst s ?_) ⟨by simp, by rw [List.length_append, List.length_singleton]; omega, hr⟩
      · exact ((ew10.step (eu.trans eu2) fun b hb => hb.elim .inr fun h => .inl (by rw [h]; exact nwL))).step e fun b hb => .inl (by rw [show b = L from hb]; exact nwL)
      · rw [List.map_append]
        exact RpA.append (ru.go e) (.one (.tup (st_go e st) (.cons (.int _) (.cons (.int _) .nil))))
abbrev s_l_pieces : Stmt := top 49
abbrev nm_l_pieces : List Str := ["_law_rows_here", "_law_ends", "_law_row", "_law_end"]
theorem sc_l_pieces : FnScope nm_l_pieces ["_law_rows_here"] (defScope s_l_pieces) := ⟨rfl, rfl, rfl, by decide +kernel, rfl, by decide +kernel, by decide +kernel⟩
theorem st_l_pieces (a : V) : start nm_l_pieces [a] = [some a, none, none, none] := rfl
def p_l_pieces (w : Wd) (a : V) (Q : VK) (_ : XK) : Prop := ∃ R, Rp w.S a (spD R) ∧ TabOk R ∧ ∀ v r vs, Ext Non w v → w.H r = none → v.S r = some (.lst vs) → RpA v.S vs ((pcsI R).map trD3) → Q (.ref r) v.H
theorem ok_l_pieces {f : Addr} {fd : FuncData} {C_Entry C_Within C_At C_Between C_Table C_Read C_Joint C_Sifted C_LogError C_NoEntry C_NoMoment C_NoName C_NoPlace C_NoReading C_TooMany : Addr} (F : Fun K "_law_pieces" "_law_pieces" s_l_pieces f fd) (T : Txt K mg C_Entry C_Within C_At C_Between C_Table C_Read C_Joint C_Sifted C_LogError C_NoEntry C_NoMoment C_NoName C_NoPlace C_NoReading C_TooMany)  : FnOk P ww K mg base CX0 1 f fd ["_law_rows_here"] (pr1 (p_l_pieces)) := by
  refine F.ok sc_l_pieces (fun vs H Q E h => len1 h) (fun cdv A outer s H vs Q E hr h => ?_)
  obtain ⟨w, x0,  rfl, rfl, h⟩ := h
  have ekT := ek_T T
  have oex_NoEntry := T.oex_NoEntry; have xf_NoEntry := T.xf_NoEntry; have ec_NoEntry := T.ec_NoEntry; have xn_NoEntry := T.xn_NoEntry
  have oex_NoMoment := T.oex_NoMoment; have xf_NoMoment := T.xf_NoMoment; have ec_NoMoment := T.ec_NoMoment; have xn_NoMoment := T.xn_NoMoment
  have oex_NoName := T.oex_NoName; have xf_NoName := T.xf_NoName; have ec_NoName := T.ec_NoName; have xn_NoName := T.xn_NoName
  have oex_NoPlace := T.oex_NoPlace; have xf_NoPlace := T.xf_NoPlace; have ec_NoPlace := T.ec_NoPlace; have xn_NoPlace := T.xn_NoPlace
  have oex_NoReading := T.oex_NoReading; have xf_NoReading := T.xf_NoReading; have ec_NoReading := T.ec_NoReading; have xn_NoReading := T.xn_NoReading
  have oex_TooMany := T.oex_TooMany; have xf_TooMany := T.xf_TooMany; have ec_TooMany := T.ec_TooMany; have xn_TooMany := T.xn_TooMany
  have rel_NoPlace_NoPlace := T.rel_NoPlace_NoPlace
  have rel_NoPlace_ValueError := T.rel_NoPlace_ValueError
  have rel_NoPlace_NoEntry := T.rel_NoPlace_NoEntry
  have rel_NoPlace_NoMoment := T.rel_NoPlace_NoMoment
  have rel_NoPlace_NoName := T.rel_NoPlace_NoName
  have rel_NoPlace_NoReading := T.rel_NoPlace_NoReading
  have rel_NoPlace_TooMany := T.rel_NoPlace_TooMany
  have exm_NoPlace_LogError := T.exm_NoPlace_LogError
  refine ⟨_, (pss_cons (ps_set (i := 1) sc_l_pieces.nd rfl (Or.inl rfl) (pe_op (kAdd K) (pe_lc (own := [("_law_row", 2)]) (g := (gName 2)) (tt := tYes) (by rfl) sc_l_pieces.nd (kpList K (pe_slice (kSl K) (pv 0) (po_some pe_int) po_none)) (blkOk_by (own := [("_law_row", 2)]) (N := nm_l_pieces) (sc := defScope s_l_pieces) (by decide +kernel)) (fun _ _ _ _ _ => (pg_name (i := 2) sc_l_pieces.nd rfl (Or.inl rfl))) (fun _ _ _ _ _ => pts_nil) (fun _ _ _ _ _ => (pe_op g_sub (pe_ix (kIx K) (pv 2) pe_int (fun _ _ => rfl)) pe_int))) (pe_lst (pa_cons (pe_op g_pow pe_int pe_int) pa_nil))))
      (pss_one (ps_ret (pe_lc (own := [("_law_row", 2), ("_law_end", 3)]) (g := (gTup K 2 (gCons (gName 2) (gCons (gName 3) gNil)))) (tt := tYes) (by rfl) sc_l_pieces.nd (kpZip K (by rfl) T.n_zip (pa_cons (pv 0) (pa_cons (pv 1) pa_nil))) (blkOk_by (own := [("_law_row", 2), ("_law_end", 3)]) (N := nm_l_pieces) (sc := defScope s_l_pieces) (by decide +kernel)) (fun _ _ _ _ _ => (kgTup K (by rfl) (pgs_cons (pg_name (i := 2) sc_l_pieces.nd rfl (Or.inl rfl)) (pgs_cons (pg_name (i := 3) sc_l_pieces.nd rfl (Or.inl rfl)) pgs_nil)))) (fun _ _ _ _ _ => pts_nil) (fun _ _ _ _ _ => (pe_tup (pa_cons (pe_ix (kIx K) (pv 2) pe_int (fun _ _ => rfl)) (pa_cons (pv 3) (pa_cons (pe_ix (kIx K) (pv 2) pe_int (fun _ _ => rfl)) pa_nil))))))))), ?_⟩
  rw [st_l_pieces]
  obtain ⟨R, hR, hok, k⟩ := h
  obtain ⟨q, vs, rfl, sq, ra⟩ := hR.list_inv
  have la := ra.length
  rw [List.length_map] at la
  have hl := hok.l
  have hpos : 0 < R.length := List.length_pos_iff.mpr hok.n
  wtm_at "gs"
  rename_i p1 v1 e1 n1 s1
  rw [cut_from (by decide), show (1 : Int).toNat = 1 from rfl] at s1
  intro D hD
  have rd1 : RpA v1.S (vs.drop 1) ((R.drop 1).map prD) := by rw [List.map_drop]; exact (ra.go e1).drop 1
  refine lc_rows (ww_list (xs := vs.drop 1)) (fun _ => true) (fun q => .int (q.1 - 1)) hD rd1 rfl (by rw [sizeLine_eq, List.length_drop]; omega) (fun u e => sql_of (st_go e s1)) ?_ ?_
  · intro i x q u hi hx hq hr e R Z hR hZ
    obtain ⟨t, rfl, ht⟩ := pr_inv hr
    wtm_at "gs"
    refine ⟨rfl, s_yes (ite_tt ?_)⟩
    wtm_at "gs"
    exact hR _ _ (Ext.refl _ _) rfl (.int _)
  · intro u acc eu hD' o ha2
    rw [filter_all] at ha2
    have ha3 : RpA u.S acc (((R.drop 1).map fun q : Int × Int => q.1 - 1).map PyData.int) := by rw [List.map_map]; exact ha2
    obtain rfl := RpA.ints_inv ha3
    have hes : (R.drop 1).length < 30 := by rw [List.length_drop]; omega
    wtm_at "gs"
    rename_i p2 v2 e2 n2 s2 p3 v3 e3 n3 s3
    have ends : ((R.drop 1).map fun q : Int × Int => q.1 - 1).map V.int ++ [V.int 1000000000] = (((R.drop 1).map fun q : Int × Int => q.1 - 1) ++ [1000000000]).map V.int := by rw [List.map_append]; rfl
    rw [ends] at s3
    have hel : (((R.drop 1).map fun q : Int × Int => q.1 - 1) ++ [1000000000]).length = R.length := by rw [List.length_append, List.length_map, List.length_drop, List.length_singleton]; omega
    have hei : ∀ i, i < R.length → (((R.drop 1).map fun q : Int × Int => q.1 - 1) ++ [1000000000])[i]? = some (lastOf R i) := fun i hi => by
      unfold lastOf
      by_cases c : i < R.length - 1
      · have h1 : R[i + 1]? = some R[i + 1] := List.getElem?_eq_getElem (by omega)
        rw [h1, List.getElem?_append_left (by rw [List.length_map, List.length_drop]; omega), List.getElem?_map, List.getElem?_drop, Nat.add_comm 1 i, h1]
        rfl
      · rw [show R[i + 1]? = none from List.getElem?_eq_none (by omega), List.getElem?_append_right (by rw [List.length_map, List.length_drop]; omega), List.length_map, List.length_drop, show i - (R.length - 1) = 0 by omega]
        rfl
    generalize ((R.drop 1).map fun q : Int × Int => q.1 - 1) ++ [1000000000] = es at s3 hel hei
    have sq3 : v3.S q = some (.lst vs) := st_go e3 (st_go e2 (st_go eu (st_go e1 sq)))
    have ra3 : RpA v3.S vs (R.map prD) := (((ra.go e1).go eu).go e2).go e3
    have ew3 : Ext Non w v3 := ((e1.trans eu).trans e2).trans e3
    clear e1 e2 e3 eu rd1 s1 o s2 ha2 ha3
    refine ⟨q, p3, vs, es.map V.int, rfl, .inl ⟨sql_of sq3, sql_of s3, ?_⟩⟩
    intro D2 hD2
    have lp : (pcsI R).length = R.length := by unfold pcsI; rw [List.length_map, List.length_range]
    refine lc_any (rows := pcsI R) (ww_zipL (xs := vs) (ys := es.map V.int) (by rw [List.length_map]; omega)) (fun _ => true) trD3 hD2 (by omega) (by rw [sizeLine_eq]; omega) (fun i u x v hi y => by obtain ⟨_, _, _, _, e, _⟩ := y; exact e) (fun u e => ⟨sql_of (st_go e sq3), sql_of (st_go e s3)⟩) ?_ ?_
    · rintro i x t u v hi ⟨T, x1, y1, rfl, ev, hT, sT, hx, hy⟩ ht eu eu2 R' Z hR' hZ
      obtain ⟨p, tt, hp, rfl, st⟩ := rpa_pr ra3 hx
      have st2 : v.S tt = some (.tup [.int p.1, .int p.2]) := st_go eu2 st
      rw [List.getElem?_map, hei i (by omega)] at hy
      cases hy
      have htp : t = (p.1, lastOf R i, p.2) := by
        unfold pcsI at ht
        rw [List.getElem?_map, List.getElem?_range (by omega)] at ht
        have := pc_low hp
        rw [← this]
        exact (Option.some.inj ht).symm
      wtm_at "gs"
      refine ⟨rfl, s_yes (ite_tt ?_)⟩
      wtm_at "gs"
      rw [htp] at hR'
      exact hR' _ _ (by assumption) rfl (.tup (by assumption) (.cons (.int _) (.cons (.int _) (.cons (.int _) .nil))))
    · intro u acc eu hD' o ha2
      rw [filter_all] at ha2
      wtm_at "gs"
      refine lay (R := fun H => Q (.ref D2) H) o fun v e s => ?_
      exact k v D2 acc (ew3.trans (eu.step e fun b hb => .inl (by rw [show b = D2 from hb]; exact hD2))) (ew3.back hD2) s (ha2.go e)
theorem jinv_skip {S fs : List (Int × Int)} {i : Nat} {q : Int × Int} (h : JInv S i fs) (hi : S[i]? = some q) (hw : ¬ q.1 ≤ q.2) : JInv S (i + 1) fs := by
  refine ⟨h.sp, by have := h.len; omega, fun n => ?_, fun f hf j s hj hjs => h.low f hf j s (by omega) hjs⟩
  rw [ins_take hi, h.mem]
  constructor
  · exact .inl
  · rintro (z | z)
    · exact z
    · exfalso; omega
theorem ins_ne2 {rows : List (Int × Int)} {n : Int} : ins rows n ↔ ins (rows.filter ne2) n := by
  unfold ins ne2
  constructor
  · rintro ⟨q, hq, h1, h2⟩
    exact ⟨q, List.mem_filter.mpr ⟨hq, decide_eq_true (by omega)⟩, h1, h2⟩
  · rintro ⟨q, hq, h⟩
    exact ⟨q, (List.mem_filter.mp hq).1, h⟩
abbrev s_l_joined : Stmt := top 50
abbrev nm_l_joined : List Str := ["_law_stretches", "_law_found", "_law_low", "_law_high"]
theorem sc_l_joined : FnScope nm_l_joined ["_law_stretches"] (defScope s_l_joined) := ⟨rfl, rfl, rfl, by decide +kernel, rfl, by decide +kernel, by decide +kernel⟩
theorem st_l_joined (a : V) : start nm_l_joined [a] = [some a, none, none, none] := rfl
def p_l_joined (w : Wd) (a : V) (Q : VK) (_ : XK) : Prop := ∃ rows, Ls w a rows ∧ rows.length < 2 ^ 20 ∧ Tells w Q fun out => Sp none out ∧ ∀ n, ins out n ↔ ins rows n
theorem ok_l_joined {f : Addr} {fd : FuncData} {C_Entry C_Within C_At C_Between C_Table C_Read C_Joint C_Sifted C_LogError C_NoEntry C_NoMoment C_NoName C_NoPlace C_NoReading C_TooMany : Addr} (F : Fun K "_law_joined" "_law_joined" s_l_joined f fd) (T : Txt K mg C_Entry C_Within C_At C_Between C_Table C_Read C_Joint C_Sifted C_LogError C_NoEntry C_NoMoment C_NoName C_NoPlace C_NoReading C_TooMany)  : FnOk P ww K mg base CX0 1 f fd ["_law_stretches"] (pr1 (p_l_joined)) := by
  refine F.ok sc_l_joined (fun vs H Q E h => len1 h) (fun cdv A outer s H vs Q E hr h => ?_)
  obtain ⟨w, x0,  rfl, rfl, h⟩ := h
  have ekT := ek_T T
  have oex_NoEntry := T.oex_NoEntry; have xf_NoEntry := T.xf_NoEntry; have ec_NoEntry := T.ec_NoEntry; have xn_NoEntry := T.xn_NoEntry
  have oex_NoMoment := T.oex_NoMoment; have xf_NoMoment := T.xf_NoMoment; have ec_NoMoment := T.ec_NoMoment; have xn_NoMoment := T.xn_NoMoment
  have oex_NoName := T.oex_NoName; have xf_NoName := T.xf_NoName; have ec_NoName := T.ec_NoName; have xn_NoName := T.xn_NoName
  have oex_NoPlace := T.oex_NoPlace; have xf_NoPlace := T.xf_NoPlace; have ec_NoPlace := T.ec_NoPlace; have xn_NoPlace := T.xn_NoPlace
  have oex_NoReading := T.oex_NoReading; have xf_NoReading := T.xf_NoReading; have ec_NoReading := T.ec_NoReading; have xn_NoReading := T.xn_NoReading
  have oex_TooMany := T.oex_TooMany; have xf_TooMany := T.xf_TooMany; have ec_TooMany := T.ec_TooMany; have xn_TooMany := T.xn_TooMany
  have rel_NoPlace_NoPlace := T.rel_NoPlace_NoPlace
  have rel_NoPlace_ValueError := T.rel_NoPlace_ValueError
  have rel_NoPlace_NoEntry := T.rel_NoPlace_NoEntry
  have rel_NoPlace_NoMoment := T.rel_NoPlace_NoMoment
  have rel_NoPlace_NoName := T.rel_NoPlace_NoName
  have rel_NoPlace_NoReading := T.rel_NoPlace_NoReading
  have rel_NoPlace_TooMany := T.rel_NoPlace_TooMany
  have exm_NoPlace_LogError := T.exm_NoPlace_LogError
  refine ⟨_, (pss_cons (ps_set (i := 1) sc_l_joined.nd rfl (Or.inl rfl) (pe_lst pa_nil))
      (pss_cons (ps_for PassesOwn.never rfl (kpList K (pe_callB (kSortedP K) (by rfl) T.n_sorted (by decide +kernel) (pa_cons (pv 0) pa_nil))) (kgTup K (by rfl) (pgs_cons (pg_name (i := 2) sc_l_joined.nd rfl (Or.inl rfl)) (pgs_cons (pg_name (i := 3) sc_l_joined.nd rfl (Or.inl rfl)) pgs_nil))) (pss_one (ps_if (PW.pt (pw_and (pt_cmpR g_le (pv 2) (pv 3) (nomark _)) (pw_and (pt_cmpR (kNe K hr.units) (pv 1) (pe_lst pa_nil) (nomark _)) (pw_and1 (pt_cmpR g_le (pv 2) (pe_op (kAdd K) (pe_ix (kIx K) (pe_ix (kIx K) (pv 1) (pe_un un_neg pe_int) (fun _ _ => rfl)) pe_int (fun _ _ => rfl)) pe_int) (nomark _)))))) (pss_one (ps_asg (pe_tup (pa_cons (pe_ix (kIx K) (pe_ix (kIx K) (pv 1) (pe_un un_neg pe_int) (fun _ _ => rfl)) pe_int (fun _ _ => rfl)) (pa_cons (pe_callB (kMax K rfl) (by rfl) T.n_max (by decide +kernel) (pa_cons (pe_ix (kIx K) (pe_ix (kIx K) (pv 1) (pe_un un_neg pe_int) (fun _ _ => rfl)) pe_int (fun _ _ => rfl)) (pa_cons (pv 3) pa_nil))) pa_nil))) (pg_sub (pv 1) (pe_un un_neg pe_int) set_list))) (pss_one (ps_if (pt_cmpR g_le (pv 2) (pv 3) (nomark _)) (pss_one (ps_expr (pe_bm PySem.F.plainAttrs_list PySem.F.slot_list_append PySem.F.type_list_append mt_append (pv 1) (pa_cons (pe_tup (pa_cons (pv 2) (pa_cons (pv 3) pa_nil))) pa_nil)))) pss_nil)))))
      (pss_one (ps_ret (pv 1))))), ?_⟩
  rw [st_l_joined]
  obtain ⟨rows, ⟨a, vs, rfl, ra, ha⟩, hl, k⟩ := h
  wtm_at "go"
  rename_i f wf ef nf of
  refine s_sortP (by wtm_at "sq") (by wtm_at "rpa") fun p v S vs' e n s hS hp hs => ?_
  wtm_at "go"
  have hlS : S.length = rows.length := hp.length_eq
  have hvl := hS.length
  rw [List.length_map] at hvl
  refine forW (ww_list (xs := vs')) (fun i σ u => Ext (One f) v u ∧ ∃ l h fs us, σ = [some (.ref a), some (.ref f), l, h] ∧ Own u f (.lst us) ∧ RpA u.S us (fs.map prD) ∧ JInv S i fs) ⟨Ext.refl _ _, _, _, [], [], rfl, by wtm_at "own", .nil, .nil⟩ (fun i σ u _ p => by have := p.1; exact sql_of (st_go this s)) ?_ ?_
  · rintro i x σ _ u hi ⟨eu, l, h, fs, us, rfl, ou, hus, J⟩ ⟨rfl, hx⟩
    obtain ⟨d, h3, h4⟩ := hS.get hx
    have hi' : i < S.length := by omega
    have h3' : d = prD S[i] := by rw [List.getElem?_map, List.getElem?_eq_getElem hi'] at h3; exact (Option.some.inj h3).symm
    subst h3'
    have hq : S[i]? = some S[i] := List.getElem?_eq_getElem hi'
    generalize S[i] = q at hq h4
    obtain ⟨lo, hh⟩ := q
    obtain ⟨t, rfl, ht⟩ := pr_inv (h4.go eu)
    have hul : us.length < 2 ^ 20 := by
      have h5 := hus.length
      rw [List.length_map] at h5
      have := J.len
      omega
    wtm_at "gs"
    refine ite_d (fun c1 => ?_) (fun c1 => ?_)
    · have hww : (lo, hh).1 ≤ (lo, hh).2 := c1
      wtm_at "gs"
      refine s_neN (by wtm_at "rd") (by wtm_at "rpa") (by wtm_at "stb") ?_
      rcases nil_or_snoc fs with rfl | ⟨fs, ⟨a, b⟩, rfl⟩
      · rw [show (!([] : List (Int × Int)).isEmpty) = false from rfl]
        wtm_at "gs"
        refine ite_d (fun c2 => ?_) (fun c2 => absurd c1 c2)
        wtm_at "gs"
        refine ⟨by wtm_at "ch", _, _, _, _, rfl, by wtm_at "own", ?_, J.app hs hq hww fun x z => by cases z⟩
        rw [List.map_append]
        exact RpA.append (by wtm_at "rpa") (.one (pr_rp (by wtm_at "stb")))
      · rw [show (!(fs ++ [(a, b)]).isEmpty) = true by simp]
        rw [List.map_append] at hus
        obtain ⟨us, y, rfl, hu1, hu2⟩ := RpA.snoc_inv hus
        obtain ⟨t2, rfl, ht2⟩ := pr_inv hu2
        have hul : us.length + 1 < 2 ^ 20 := by simpa using hul
        wtm_at "gs"
        refine ite_d (fun hc => ?_) (fun hc => ?_)
        · wtm_at "gs"
          refine ⟨by wtm_at "ch", _, _, _, _, rfl, by wtm_at "own", ?_, J.mrg hq hww hc⟩
          rw [List.map_append]
          exact RpA.append (by wtm_at "rpa") (.one (pr_rp (by wtm_at "stb")))
        · wtm_at "gs"
          refine ite_d (fun c2 => ?_) (fun c2 => absurd c1 c2)
          wtm_at "gs"
          refine ⟨by wtm_at "ch", _, _, _, _, rfl, by wtm_at "own", ?_, J.app hs hq hww fun x hx => ?_⟩
          · rw [List.map_append, List.map_append]
            exact RpA.append (RpA.append (by wtm_at "rpa") (.one (by wtm_at "rp"))) (.one (pr_rp (by wtm_at "stb")))
          · rw [G.lastHi_snoc] at hx
            cases hx
            show _ ≤ lo
            omega
    · wtm_at "gs"
      refine ite_d (fun c2 => absurd c2 c1) (fun c2 => ?_)
      wtm_at "gs"
      exact ⟨by wtm_at "ch", _, _, _, _, rfl, by wtm_at "own", by wtm_at "rpa", jinv_skip J hq c1⟩
  · rintro σ u ⟨eu, l, h, fs, us, rfl, ou, hus, J⟩
    wtm_at "go"
    refine k u f us fs (by wtm_at "ch") (by assumption) ou hus ⟨J.sp, fun n => ?_⟩
    rw [J.mem, hvl, List.take_length, ins_perm hp]
abbrev s_l_shown : Stmt := top 51
abbrev nm_l_shown : List Str := ["_law_rows_here", "_law_low", "_law_high", "_law_a", "_law_b", "_law_shift_here"]
theorem sc_l_shown : FnScope nm_l_shown ["_law_rows_here", "_law_low", "_law_high"] (defScope s_l_shown) := ⟨rfl, rfl, rfl, by decide +kernel, rfl, by decide +kernel, by decide +kernel⟩
theorem st_l_shown (a b c : V) : start nm_l_shown [a, b, c] = [some a, some b, some c, none, none, none] := rfl
def p_l_shown (w : Wd) (a b c : V) (Q : VK) (_ : XK) : Prop := ∃ R, ∃ lo hi : Int, Rp w.S a (spD R) ∧ TabOk R ∧ b = .int lo ∧ c = .int hi ∧ Tells w Q fun out => Sp none out ∧ ∀ n, ins out n ↔ ins ((strsR R lo hi R.length).filter ne2) n
theorem ok_l_shown {f : Addr} {fd : FuncData} {C_Entry C_Within C_At C_Between C_Table C_Read C_Joint C_Sifted C_LogError C_NoEntry C_NoMoment C_NoName C_NoPlace C_NoReading C_TooMany : Addr} (F : Fun K "_law_shown" "_law_shown" s_l_shown f fd) (T : Txt K mg C_Entry C_Within C_At C_Between C_Table C_Read C_Joint C_Sifted C_LogError C_NoEntry C_NoMoment C_NoName C_NoPlace C_NoReading C_TooMany) (c_l_joined : Fnc P ww K mg base CX0 1 "_law_joined" (pr1 (p_l_joined))) (c_l_pieces : Fnc P ww K mg base CX0 1 "_law_pieces" (pr1 (p_l_pieces))) : FnOk P ww K mg base CX0 2 f fd ["_law_rows_here", "_law_low", "_law_high"] (pr3 (p_l_shown)) := by
  refine F.ok sc_l_shown (fun vs H Q E h => len3 h) (fun cdv A outer s H vs Q E hr h => ?_)
  obtain ⟨w, x0, x1, x2,  rfl, rfl, h⟩ := h
  have ekT := ek_T T
  have oex_NoEntry := T.oex_NoEntry; have xf_NoEntry := T.xf_NoEntry; have ec_NoEntry := T.ec_NoEntry; have xn_NoEntry := T.xn_NoEntry
  have oex_NoMoment := T.oex_NoMoment; have xf_NoMoment := T.xf_NoMoment; have ec_NoMoment := T.ec_NoMoment; have xn_NoMoment := T.xn_NoMoment
  have oex_NoName := T.oex_NoName; have xf_NoName := T.xf_NoName; have ec_NoName := T.ec_NoName; have xn_NoName := T.xn_NoName
  have oex_NoPlace := T.oex_NoPlace; have xf_NoPlace := T.xf_NoPlace; have ec_NoPlace := T.ec_NoPlace; have xn_NoPlace := T.xn_NoPlace
  have oex_NoReading := T.oex_NoReading; have xf_NoReading := T.xf_NoReading; have ec_NoReading := T.ec_NoReading; have xn_NoReading := T.xn_NoReading
  have oex_TooMany := T.oex_TooMany; have xf_TooMany := T.xf_TooMany; have ec_TooMany := T.ec_TooMany; have xn_TooMany := T.xn_TooMany
  have rel_NoPlace_NoPlace := T.rel_NoPlace_NoPlace
  have rel_NoPlace_ValueError := T.rel_NoPlace_ValueError
  have rel_NoPlace_NoEntry := T.rel_NoPlace_NoEntry
  have rel_NoPlace_NoMoment := T.rel_NoPlace_NoMoment
  have rel_NoPlace_NoName := T.rel_NoPlace_NoName
  have rel_NoPlace_NoReading := T.rel_NoPlace_NoReading
  have rel_NoPlace_TooMany := T.rel_NoPlace_TooMany
  have exm_NoPlace_LogError := T.exm_NoPlace_LogError
  refine ⟨_, (pss_one (ps_ret (pe_fn c_l_joined hr (by decide) pass0 (pa_cons (pe_lc (own := [("_law_a", 3), ("_law_b", 4), ("_law_shift_here", 5)]) (g := (gTup K 3 (gCons (gName 3) (gCons (gName 4) (gCons (gName 5) gNil))))) (tt := tYes) (by rfl) sc_l_shown.nd (kpList K (pe_fn c_l_pieces hr (by decide) pass0 (pa_cons (pv 0) pa_nil))) (blkOk_by (own := [("_law_a", 3), ("_law_b", 4), ("_law_shift_here", 5)]) (N := nm_l_shown) (sc := defScope s_l_shown) (by decide +kernel)) (fun _ _ _ _ _ => (kgTup K (by rfl) (pgs_cons (pg_name (i := 3) sc_l_shown.nd rfl (Or.inl rfl)) (pgs_cons (pg_name (i := 4) sc_l_shown.nd rfl (Or.inl rfl)) (pgs_cons (pg_name (i := 5) sc_l_shown.nd rfl (Or.inl rfl)) pgs_nil))))) (fun _ _ _ _ _ => pts_nil) (fun _ _ _ _ _ => (pe_tup (pa_cons (pe_callB (kMax K rfl) (by rfl) T.n_max (by decide +kernel) (pa_cons (pv 3) (pa_cons (pe_op g_sub (pv 1) (pv 5)) pa_nil))) (pa_cons (pe_callB (kMin K rfl) (by rfl) T.n_min (by decide +kernel) (pa_cons (pv 4) (pa_cons (pe_op g_sub (pv 2) (pv 5)) pa_nil))) pa_nil))))) pa_nil)))), ?_⟩
  rw [st_l_shown]
  obtain ⟨R, lo, hi, hR, hok, rfl, rfl, k⟩ := h
  have hl := hok.l
  wtm_at "gs"
  refine ⟨R, hR, hok, fun v1 r vs e1 n1 s1 ra => ?_⟩
  have la := ra.length
  have lp : (pcsI R).length = R.length := by unfold pcsI; rw [List.length_map, List.length_range]
  rw [List.length_map] at la
  wtm_at "gs"
  intro D hD
  refine lc_any (rows := pcsI R) (ww_list (xs := vs)) (fun _ => true) (fun t => prD (max t.1 (lo - t.2.2), min t.2.1 (hi - t.2.2))) hD (by omega) (by rw [sizeLine_eq]; omega) (fun i u x v hi y => by obtain ⟨rfl, _⟩ := y; exact Ext.refl _ _) (fun u e => sql_of (st_go e s1)) ?_ ?_
  · rintro i x t _ v hi ⟨rfl, hx⟩ ht eu eu2 R' Z hR' hZ
    obtain ⟨d, h3, h4⟩ := ra.get hx
    rw [List.getElem?_map, ht] at h3
    cases h3
    obtain ⟨tt, vt, rfl, st, rt⟩ := h4.tuple_inv
    obtain rfl : vt = [.int t.1, .int t.2.1, .int t.2.2] := by
      cases rt with
      | cons a1 r1 => cases r1 with
        | cons a2 r2 => cases r2 with
          | cons a3 r3 =>
            cases r3
            rw [a1.int_inv, a2.int_inv, a3.int_inv]
    have st2 : v.S tt = some (.tup [.int t.1, .int t.2.1, .int t.2.2]) := st_go eu2 st
    wtm_at "gs"
    refine ⟨rfl, s_yes (ite_tt ?_)⟩
    wtm_at "gs"
    exact hR' _ _ (by assumption) rfl (.tup (by assumption) (.cons (.int _) (.cons (.int _) .nil)))
  · intro u acc eu hD' o ha2
    rw [filter_all] at ha2
    have ha3 : RpA u.S acc ((strsR R lo hi R.length).map prD) := by
      have e : (pcsI R).map (fun t => prD (max t.1 (lo - t.2.2), min t.2.1 (hi - t.2.2))) = (strsR R lo hi R.length).map prD := by
        unfold pcsI strsR
        rw [List.map_map, List.map_map]
        rfl
      rw [← e]
      exact ha2
    wtm_at "gs"
    refine ⟨strsR R lo hi R.length, ⟨D, acc, rfl, .inr o, ha3⟩, by unfold strsR; rw [List.length_map, List.length_range]; omega, fun v r vs out e n o h ⟨p1, p2⟩ => ?_⟩
    exact k v r vs out ((e1.trans eu).trans e) ((e1.trans eu).back n) o h ⟨p1, fun n => (p2 n).trans ins_ne2⟩
theorem pcs_bd {R : List (Int × Int)} (h : TabOk R) {t : Int × Int × Int} (ht : t ∈ pcsI R) : 0 ≤ t.1 ∧ t.1 ≤ 1000000000 ∧ 0 ≤ t.2.1 ∧ t.2.1 ≤ 1000000000 ∧ -2880 ≤ t.2.2 ∧ t.2.2 ≤ 2880 := by
  unfold pcsI at ht
  obtain ⟨i, hi, rfl⟩ := List.mem_map.mp ht
  rw [List.mem_range] at hi
  have hp : R[i]? = some R[i] := List.getElem?_eq_getElem hi
  rw [pc_low hp]
  obtain ⟨b1, b2, b3, b4⟩ := h.r.mem _ (List.mem_of_getElem? hp)
  refine ⟨b1, b2, ?_, ?_, b3, b4⟩
  · show 0 ≤ lastOf R i
    unfold lastOf
    cases e : R[i + 1]? with
    | none => decide
    | some q =>
      have := rising_next h.r hp e
      show 0 ≤ q.1 - 1
      omega
  · show lastOf R i ≤ 1000000000
    unfold lastOf
    cases e : R[i + 1]? with
    | none => decide
    | some q =>
      have := (h.r.mem _ (List.mem_of_getElem? e)).2.1
      show q.1 - 1 ≤ 1000000000
      omega
theorem rpa_mem {S : Hp} {vs : List V} {ds : List PyData} {v : V} (r : RpA S vs ds) (h : v ∈ vs) : ∃ d ∈ ds, Rp S v d := by
  obtain ⟨i, hi⟩ := List.mem_iff_getElem?.mp h
  obtain ⟨d, h1, h2⟩ := r.get hi
  exact ⟨d, List.mem_of_getElem? h1, h2⟩
abbrev s_l_near : Stmt := top 54
abbrev nm_l_near : List Str := ["_law_state", "_law_rows_here", "_law_low", "_law_high", "_law_shift_here", "_law_ends"]
theorem sc_l_near : FnScope nm_l_near ["_law_state", "_law_rows_here"] (defScope s_l_near) := ⟨rfl, rfl, rfl, by decide +kernel, rfl, by decide +kernel, by decide +kernel⟩
theorem st_l_near (a b : V) : start nm_l_near [a, b] = [some a, some b, none, none, none, none] := rfl
def p_l_near (w : Wd) (a b : V) (Q : VK) (_ : XK) : Prop := ∃ p R, a = .ref p ∧ Stt w p ∧ Rp w.S b (spD R) ∧ TabOk R ∧ ∀ v d, Ext (One p) w v → Stt v p → -10000 ≤ d → d ≤ 1000010000 → Q (.int d) v.H
theorem ok_l_near {f : Addr} {fd : FuncData} {C_Entry C_Within C_At C_Between C_Table C_Read C_Joint C_Sifted C_LogError C_NoEntry C_NoMoment C_NoName C_NoPlace C_NoReading C_TooMany : Addr} (F : Fun K "_law_near" "_law_near" s_l_near f fd) (T : Txt K mg C_Entry C_Within C_At C_Between C_Table C_Read C_Joint C_Sifted C_LogError C_NoEntry C_NoMoment C_NoName C_NoPlace C_NoReading C_TooMany) (c_l_pieces : Fnc P ww K mg base CX0 1 "_law_pieces" (pr1 (p_l_pieces))) (c_l_pull : Fnc P ww K mg base CX0 2 "_law_pull" (pr2 (p_l_pull))) : FnOk P ww K mg base CX0 3 f fd ["_law_state", "_law_rows_here"] (pr2 (p_l_near)) := by
  refine F.ok sc_l_near (fun vs H Q E h => len2 h) (fun cdv A outer s H vs Q E hr h => ?_)
  obtain ⟨w, x0, x1,  rfl, rfl, h⟩ := h
  have ekT := ek_T T
  have oex_NoEntry := T.oex_NoEntry; have xf_NoEntry := T.xf_NoEntry; have ec_NoEntry := T.ec_NoEntry; have xn_NoEntry := T.xn_NoEntry
  have oex_NoMoment := T.oex_NoMoment; have xf_NoMoment := T.xf_NoMoment; have ec_NoMoment := T.ec_NoMoment; have xn_NoMoment := T.xn_NoMoment
  have oex_NoName := T.oex_NoName; have xf_NoName := T.xf_NoName; have ec_NoName := T.ec_NoName; have xn_NoName := T.xn_NoName
  have oex_NoPlace := T.oex_NoPlace; have xf_NoPlace := T.xf_NoPlace; have ec_NoPlace := T.ec_NoPlace; have xn_NoPlace := T.xn_NoPlace
  have oex_NoReading := T.oex_NoReading; have xf_NoReading := T.xf_NoReading; have ec_NoReading := T.ec_NoReading; have xn_NoReading := T.xn_NoReading
  have oex_TooMany := T.oex_TooMany; have xf_TooMany := T.xf_TooMany; have ec_TooMany := T.ec_TooMany; have xn_TooMany := T.xn_TooMany
  have rel_NoPlace_NoPlace := T.rel_NoPlace_NoPlace
  have rel_NoPlace_ValueError := T.rel_NoPlace_ValueError
  have rel_NoPlace_NoEntry := T.rel_NoPlace_NoEntry
  have rel_NoPlace_NoMoment := T.rel_NoPlace_NoMoment
  have rel_NoPlace_NoName := T.rel_NoPlace_NoName
  have rel_NoPlace_NoReading := T.rel_NoPlace_NoReading
  have rel_NoPlace_TooMany := T.rel_NoPlace_TooMany
  have exm_NoPlace_LogError := T.exm_NoPlace_LogError
  refine ⟨_, (pss_cons (ps_asg (pe_ix (kIx K) (pe_fn c_l_pieces hr (by decide) pass0 (pa_cons (pv 1) pa_nil)) (pe_fn c_l_pull hr (by decide) pass0 (pa_cons (pv 0) (pa_cons (pe_callB (kLen K) (by rfl) T.n_len (by decide +kernel) (pa_cons (pv 1) pa_nil)) pa_nil))) (fun _ _ => rfl)) (kgTup K (by rfl) (pgs_cons (pg_name (i := 2) sc_l_near.nd rfl (Or.inl rfl)) (pgs_cons (pg_name (i := 3) sc_l_near.nd rfl (Or.inl rfl)) (pgs_cons (pg_name (i := 4) sc_l_near.nd rfl (Or.inl rfl)) pgs_nil)))))
      (pss_cons (ps_set (i := 5) sc_l_near.nd rfl (Or.inl rfl) (pe_lst (pa_cons (pv 2) (pa_cons (pv 3) (pa_cons (pv 2) (pa_cons (pv 3) (pa_cons (pe_op (kAdd K) (pv 2) (pe_op g_div (pe_op g_sub (pv 3) (pv 2)) pe_int)) pa_nil)))))))
      (pss_one (ps_ret (pe_op (kAdd K) (pe_op (kAdd K) (pe_ix (kIx K) (pv 5) (pe_fn c_l_pull hr (by decide) pass0 (pa_cons (pv 0) (pa_cons pe_int pa_nil))) (fun _ _ => rfl)) (pv 4)) (pe_ix (kIx K) (pe_lst (pa_cons pe_int (pa_cons pe_int (pa_cons pe_int (pa_cons (pe_un un_neg pe_int) (pa_cons (pe_op g_sub (pe_fn c_l_pull hr (by decide) pass0 (pa_cons (pv 0) (pa_cons pe_int pa_nil))) pe_int) pa_nil)))))) (pe_fn c_l_pull hr (by decide) pass0 (pa_cons (pv 0) (pa_cons pe_int pa_nil))) (fun _ _ => rfl))))))), ?_⟩
  rw [st_l_near]
  obtain ⟨p, R, rfl, pu, hR, hok, k⟩ := h
  have hR0 := hR
  obtain ⟨q, vs, rfl, sq, ra⟩ := hR.list_inv
  have la := ra.length
  rw [List.length_map] at la
  have hpos : 0 < R.length := List.length_pos_iff.mpr hok.n
  have hl := hok.l
  wtm_at "gs"
  refine ⟨R, hR0, hok, fun v1 r us e1 n1 s1 ra1 => ?_⟩
  have lu := ra1.length
  have lp : (pcsI R).length = R.length := by unfold pcsI; rw [List.length_map, List.length_range]
  rw [List.length_map] at lu
  wtm_at "gs"
  wtm_at "ixm"
  intro v hv hm
  clear hv
  rename_i v2 d2 e2 pu2 h20 h21
  obtain ⟨d, hd, hr⟩ := rpa_mem (ra1.go e2) hm
  obtain ⟨t, ht, rfl⟩ := List.mem_map.mp hd
  obtain ⟨b1, b2, b3, b4, b5, b6⟩ := pcs_bd hok ht
  obtain ⟨tt, vt, rfl, st, rt⟩ := hr.tuple_inv
  obtain rfl : vt = [.int t.1, .int t.2.1, .int t.2.2] := by
    cases rt with
    | cons a1 r1 => cases r1 with
      | cons a2 r2 => cases r2 with
        | cons a3 r3 =>
          cases r3
          rw [a1.int_inv, a2.int_inv, a3.int_inv]
  obtain ⟨x, y, z⟩ := t
  dsimp only at b1 b2 b3 b4 b5 b6 st
  have ew2 : Ext (One p) w v2 := (e1.more fun _ z => z.elim).trans e2
  clear e1 e2 pu rt hr hm hd s1 ra1
  wtm_at "gs"
  wtm_at "ixm"
  intro v hv hm
  clear hv
  simp only [List.mem_cons, List.not_mem_nil, or_false] at hm
  obtain ⟨n, rfl, hn0, hn1⟩ : ∃ n : Int, v = .int n ∧ 0 ≤ n ∧ n ≤ 1000000000 := by
    rcases hm with rfl | rfl | rfl | rfl | rfl
    · exact ⟨_, rfl, by omega, by omega⟩
    · exact ⟨_, rfl, by omega, by omega⟩
    · exact ⟨_, rfl, by omega, by omega⟩
    · exact ⟨_, rfl, by omega, by omega⟩
    · exact ⟨_, rfl, by omega, by omega⟩
  clear hm
  wtm_at "gs"
  wtm_at "ixm"
  intro v hv hm
  clear hv
  simp only [List.mem_cons, List.not_mem_nil, or_false] at hm
  obtain ⟨m, rfl, hm0, hm1⟩ : ∃ n : Int, v = .int n ∧ -200 ≤ n ∧ n ≤ 200 := by rcases hm with rfl | rfl | rfl | rfl | rfl <;> exact ⟨_, rfl, by omega, by omega⟩
  clear hm
  wtm_at "gs"
  exact k _ _ (by wtm_at "ch") (by wtm_at "stt") (by omega) (by omega)
abbrev s_l_spec : Stmt := top 55
abbrev nm_l_spec : List Str := ["_law_state", "_law_name", "_law_places", "_law_tables", "_law_word", "_law_place", "_law_rows_here", "_law_low", "_law_high"]
theorem sc_l_spec : FnScope nm_l_spec ["_law_state", "_law_name", "_law_places", "_law_tables"] (defScope s_l_spec) := ⟨rfl, rfl, rfl, by decide +kernel, rfl, by decide +kernel, by decide +kernel⟩
theorem st_l_spec (a b c d : V) : start nm_l_spec [a, b, c, d] = [some a, some b, some c, some d, none, none, none, none, none] := rfl
def p_l_spec (w : Wd) (a b c d : V) (Q : VK) (_ : XK) : Prop := ∃ p z q T, a = .ref p ∧ Stt w p ∧ b = .str z ∧ NmOk z ∧ c = .ref q ∧ w.S q = some (.lst ((T.map (·.1)).map V.str)) ∧ TabsL w d T ∧ T ≠ [] ∧ T.length < 1000 ∧ (∀ y ∈ T, NmOk y.1) ∧
  ∀ v r e, Ext (One p) w v → Stt v p → Rp v.S r (specD e) → SpecOk e T → e.n = z → Q r v.H
theorem ok_l_spec {f : Addr} {fd : FuncData} {C_Entry C_Within C_At C_Between C_Table C_Read C_Joint C_Sifted C_LogError C_NoEntry C_NoMoment C_NoName C_NoPlace C_NoReading C_TooMany : Addr} (F : Fun K "_law_spec" "_law_spec" s_l_spec f fd) (T : Txt K mg C_Entry C_Within C_At C_Between C_Table C_Read C_Joint C_Sifted C_LogError C_NoEntry C_NoMoment C_NoName C_NoPlace C_NoReading C_TooMany) (c_l_near : Fnc P ww K mg base CX0 3 "_law_near" (pr2 (p_l_near))) (c_l_pull : Fnc P ww K mg base CX0 2 "_law_pull" (pr2 (p_l_pull))) : FnOk P ww K mg base CX0 4 f fd ["_law_state", "_law_name", "_law_places", "_law_tables"] (pr4 (p_l_spec)) := by
  refine F.ok sc_l_spec (fun vs H Q E h => len4 h) (fun cdv A outer s H vs Q E hr h => ?_)
  obtain ⟨w, x0, x1, x2, x3,  rfl, rfl, h⟩ := h
  have ekT := ek_T T
  have oex_NoEntry := T.oex_NoEntry; have xf_NoEntry := T.xf_NoEntry; have ec_NoEntry := T.ec_NoEntry; have xn_NoEntry := T.xn_NoEntry
  have oex_NoMoment := T.oex_NoMoment; have xf_NoMoment := T.xf_NoMoment; have ec_NoMoment := T.ec_NoMoment; have xn_NoMoment := T.xn_NoMoment
  have oex_NoName := T.oex_NoName; have xf_NoName := T.xf_NoName; have ec_NoName := T.ec_NoName; have xn_NoName := T.xn_NoName
  have oex_NoPlace := T.oex_NoPlace; have xf_NoPlace := T.xf_NoPlace; have ec_NoPlace := T.ec_NoPlace; have xn_NoPlace := T.xn_NoPlace
  have oex_NoReading := T.oex_NoReading; have xf_NoReading := T.xf_NoReading; have ec_NoReading := T.ec_NoReading; have xn_NoReading := T.xn_NoReading
  have oex_TooMany := T.oex_TooMany; have xf_TooMany := T.xf_TooMany; have ec_TooMany := T.ec_TooMany; have xn_TooMany := T.xn_TooMany
  have rel_NoPlace_NoPlace := T.rel_NoPlace_NoPlace
  have rel_NoPlace_ValueError := T.rel_NoPlace_ValueError
  have rel_NoPlace_NoEntry := T.rel_NoPlace_NoEntry
  have rel_NoPlace_NoMoment := T.rel_NoPlace_NoMoment
  have rel_NoPlace_NoName := T.rel_NoPlace_NoName
  have rel_NoPlace_NoReading := T.rel_NoPlace_NoReading
  have rel_NoPlace_TooMany := T.rel_NoPlace_TooMany
  have exm_NoPlace_LogError := T.exm_NoPlace_LogError
  refine ⟨_, (pss_cons (ps_set (i := 4) sc_l_spec.nd rfl (Or.inl rfl) (pe_ix (kIx K) (pe_lst (pa_cons pe_str (pa_cons pe_str (pa_cons pe_str (pa_cons pe_str (pa_cons pe_str (pa_cons pe_str (pa_cons pe_str (pa_cons pe_str pa_nil))))))))) (pe_fn c_l_pull hr (by decide) pass0 (pa_cons (pv 0) (pa_cons pe_int pa_nil))) (fun _ _ => rfl)))
      (pss_cons (ps_set (i := 5) sc_l_spec.nd rfl (Or.inl rfl) (pe_ix (kIx K) (pv 2) (pe_fn c_l_pull hr (by decide) pass0 (pa_cons (pv 0) (pa_cons (pe_callB (kLen K) (by rfl) T.n_len (by decide +kernel) (pa_cons (pv 2) pa_nil)) pa_nil))) (fun _ _ => rfl)))
      (pss_cons (ps_set (i := 6) sc_l_spec.nd rfl (Or.inl rfl) (pe_dget (hu_of hr) (pv 3) (pv 5) (fun _ _ => rfl)))
      (pss_cons (ps_if (pt_cmpR (kIn K) (pv 4) (pe_tup (pa_cons pe_str (pa_cons pe_str pa_nil))) (by rfl)) (pss_cons (ps_set (i := 7) sc_l_spec.nd rfl (Or.inl rfl) (pe_fn c_l_near hr (by decide) pass0 (pa_cons (pv 0) (pa_cons (pv 6) pa_nil))))
      (pss_cons (ps_if (pt_cmpR (kEq K hr.units) (pe_fn c_l_pull hr (by decide) pass0 (pa_cons (pv 0) (pa_cons pe_int pa_nil))) pe_int (nomark _)) (pss_one (ps_set (i := 7) sc_l_spec.nd rfl (Or.inl rfl) (pe_ix (kIx K) (pe_lst (pa_cons (pe_op g_pow pe_int pe_int) (pa_cons (pe_op g_sub pe_int (pe_op g_pow pe_int pe_int)) (pa_cons (pe_fn c_l_pull hr (by decide) pass0 (pa_cons (pv 0) (pa_cons (pe_op g_pow pe_int pe_int) pa_nil))) pa_nil)))) (pe_fn c_l_pull hr (by decide) pass0 (pa_cons (pv 0) (pa_cons pe_int pa_nil))) (fun _ _ => rfl)))) pss_nil)
      (pss_cons (ps_set (i := 8) sc_l_spec.nd rfl (Or.inl rfl) (pe_callB (kMin K rfl) (by rfl) T.n_min (by decide +kernel) (pa_cons (pe_op g_pow pe_int pe_int) (pa_cons (pe_op (kAdd K) (pv 7) (pe_ix (kIx K) (pe_lst (pa_cons pe_int (pa_cons pe_int (pa_cons pe_int (pa_cons pe_int (pa_cons (pe_op g_pow pe_int pe_int) (pa_cons (pe_un un_neg pe_int) pa_nil))))))) (pe_fn c_l_pull hr (by decide) pass0 (pa_cons (pv 0) (pa_cons pe_int pa_nil))) (fun _ _ => rfl))) pa_nil))))
      (pss_one (ps_ret (pe_tup (pa_cons (pv 4) (pa_cons (pv 1) (pa_cons (pv 5) (pa_cons (pv 7) (pa_cons (pe_ix (kIx K) (pe_lst (pa_cons (pe_callB (kMax K rfl) (by rfl) T.n_max (by decide +kernel) (pa_cons (pv 8) (pa_cons (pe_op g_sub pe_int (pe_op g_pow pe_int pe_int)) pa_nil))) (pa_cons (pv 7) pa_nil))) (pe_callTy g_int (by rfl) T.n_int (by decide +kernel) (pa_cons (pe_cmpR (kEq K hr.units) (pv 4) pe_str (nomark _)) pa_nil)) (fun _ _ => rfl)) pa_nil))))))))))) pss_nil)
      (pss_cons (ps_set (i := 7) sc_l_spec.nd rfl (Or.inl rfl) (pe_callB (kMin K rfl) (by rfl) T.n_min (by decide +kernel) (pa_cons (pe_op g_pow pe_int pe_int) (pa_cons (pe_callB (kMax K rfl) (by rfl) T.n_max (by decide +kernel) (pa_cons pe_int (pa_cons (pe_op g_sub (pe_op (kAdd K) (pe_ix (kIx K) (pe_ix (kIx K) (pv 6) (pe_fn c_l_pull hr (by decide) pass0 (pa_cons (pv 0) (pa_cons (pe_callB (kLen K) (by rfl) T.n_len (by decide +kernel) (pa_cons (pv 6) pa_nil)) pa_nil))) (fun _ _ => rfl)) pe_int (fun _ _ => rfl)) (pe_fn c_l_pull hr (by decide) pass0 (pa_cons (pv 0) (pa_cons pe_int pa_nil)))) pe_int) pa_nil))) pa_nil))))
      (pss_cons (ps_if (pt_cmpR (kEq K hr.units) (pe_fn c_l_pull hr (by decide) pass0 (pa_cons (pv 0) (pa_cons pe_int pa_nil))) pe_int (nomark _)) (pss_one (ps_set (i := 7) sc_l_spec.nd rfl (Or.inl rfl) (pe_ix (kIx K) (pe_lst (pa_cons pe_int (pa_cons (pe_op g_pow pe_int pe_int) (pa_cons (pe_fn c_l_pull hr (by decide) pass0 (pa_cons (pv 0) (pa_cons (pe_op (kAdd K) (pe_op g_pow pe_int pe_int) pe_int) pa_nil))) pa_nil)))) (pe_fn c_l_pull hr (by decide) pass0 (pa_cons (pv 0) (pa_cons pe_int pa_nil))) (fun _ _ => rfl)))) pss_nil)
      (pss_cons (ps_set (i := 8) sc_l_spec.nd rfl (Or.inl rfl) (pe_callB (kMin K rfl) (by rfl) T.n_min (by decide +kernel) (pa_cons (pe_op g_pow pe_int pe_int) (pa_cons (pe_callB (kMax K rfl) (by rfl) T.n_max (by decide +kernel) (pa_cons pe_int (pa_cons (pe_op (kAdd K) (pv 7) (pe_ix (kIx K) (pe_lst (pa_cons pe_int (pa_cons pe_int (pa_cons pe_int (pa_cons pe_int (pa_cons (pe_op g_pow pe_int pe_int) (pa_cons (pe_un un_neg pe_int) pa_nil))))))) (pe_fn c_l_pull hr (by decide) pass0 (pa_cons (pv 0) (pa_cons pe_int pa_nil))) (fun _ _ => rfl))) pa_nil))) pa_nil))))
      (pss_cons (ps_if (pt_cmpR (kEq K hr.units) (pv 4) pe_str (nomark _)) (pss_one (ps_ret (pe_tup (pa_cons (pv 4) (pa_cons (pv 1) (pa_cons pe_str (pa_cons pe_int (pa_cons (pe_op g_pow pe_int pe_int) pa_nil)))))))) pss_nil)
      (pss_one (ps_ret (pe_tup (pa_cons (pv 4) (pa_cons (pv 1) (pa_cons pe_str (pa_cons (pv 7) (pa_cons (pe_ix (kIx K) (pe_lst (pa_cons (pv 8) (pa_cons (pv 7) pa_nil))) (pe_callTy g_int (by rfl) T.n_int (by decide +kernel) (pa_cons (pe_cmpR (kEq K hr.units) (pv 4) pe_str (nomark _)) pa_nil)) (fun _ _ => rfl)) pa_nil)))))))))))))))), ?_⟩
  rw [st_l_spec]
  obtain ⟨p, z, q, T, rfl, pu, rfl, hz, rfl, sq, ⟨td, kvs, rfl, std, htd⟩, hT, hTl, hTn, k⟩ := h
  have hne : td ≠ p := by
    rcases std with h | h
    · exact fun e => by rw [e, pu.none] at h; cases h
    · obtain ⟨_, _, _, _, op⟩ := pu; exact own_ne h op (fun z => by cases z)
  have hpos : 0 < T.length := List.length_pos_iff.mpr hT
  have hlk : ((T.map (·.1)).map V.str).length = T.length := by rw [List.length_map, List.length_map]
  wtm_at "gs"
  rename_i l1 v1 e1 n1 s1 v2 d2 e2 pu2 h20 h21
  wtm_at "ixm"
  intro v hv hm
  clear hv
  simp only [List.mem_cons, List.not_mem_nil, or_false] at hm
  obtain ⟨kd, rfl, hk⟩ : ∃ k, v = .str (wordK k) ∧ simple k := by
    rcases hm with rfl | rfl | rfl | rfl | rfl | rfl | rfl | rfl
    · exact ⟨.any, rfl, trivial⟩
    · exact ⟨.within, rfl, trivial⟩
    · exact ⟨.att, rfl, trivial⟩
    · exact ⟨.between, rfl, trivial⟩
    · exact ⟨.read, rfl, trivial⟩
    · exact ⟨.between, rfl, trivial⟩
    · exact ⟨.read, rfl, trivial⟩
    · exact ⟨.read, rfl, trivial⟩
  clear hm
  have ew2 : Ext (One p) w v2 := (e1.more fun _ z => z.elim).trans e2
  have sq2 : v2.S q = some (.lst ((T.map (·.1)).map V.str)) := st_go ew2 sq
  have std2 : Rd v2 td (.dK kvs) := std.go ew2 hne
  have htd2 : TbL v2.S kvs T := htd.go ew2
  clear e1 e2 s1 n1 pu sq std htd
  wtm_at "gs"
  rename_i v3 d3 e3 pu3 h30 h31
  refine s_ixSm (st_go e3 sq2) h30 (by omega) ?_
  intro v hv hm
  clear hv
  obtain ⟨y, hy, rfl⟩ := List.mem_map.mp hm
  clear hm
  obtain ⟨R, hR⟩ := getT_mem hy
  obtain ⟨py, hpy, rfl⟩ := List.mem_map.mp hy
  have hyn : NmOk py.1 := hTn py hpy
  generalize py.1 = y at hR hyn hy
  clear hpy hy
  have ew3 : Ext (One p) w v3 := ew2.trans e3
  obtain ⟨vr, hvr, hrp, hok⟩ := DicR.hit (htd2.go e3) hR
  have hdg : DGet v3.H td (.str y) (some vr) := by
    have := dgetR (.inl (Rd.h (std2.go e3 hne))) (.inr y)
    rw [hvr] at this
    exact this
  clear ew2 e3 sq2 std2 htd2
  wtm_at "gs"
  refine ⟨td, _, rfl, hdg, ?_⟩
  wtm_at "gs"
  refine s_inT (by wtm_at "stb") (by rfl) ?_
  rw [word_pl]
  rename_i tt v4 e4 n4 s4
  have ew4 : Ext (One p) w v4 := ew3.trans (e4.more fun _ z => z.elim)
  have pu4 : Stt v4 p := pu3.go e4 fun z => z
  have hrp4 : Rp v4.S vr (spD R) := hrp.go e4
  clear e4 n4 s4 ew3 pu3 hrp hdg hvr
  have hb1 : (0 : Int) ≤ 1000000000 := by decide
  by_cases hpl : placed kd
  · rw [decide_eq_true hpl]
    wtm_at "gs"
    refine ⟨p, R, rfl, pu4, hrp4, hok, fun v5 n e5 pu5 hn0 hn1 => ?_⟩
    wtm_at "gsi"
    refine s_ifJ (fun σ u => Ext (One p) v5 u ∧ Stt u p ∧ ∃ low : Int, -10000000000 ≤ low ∧ low ≤ 10000000000 ∧ σ = [some (.ref p), some (.str z), some (.ref q), some (.ref td), some (.str (wordK kd)), some (.str y), some vr, some (.int low), none]) (fun Z hZ => ?_) ?_
    · wtm_at "gs"
      refine ite_d (fun c => ?_) (fun c => ?_)
      · wtm_at "gs"
        wtm_at "ixm"
        intro v hv hm
        clear hv
        simp only [List.mem_cons, List.not_mem_nil, or_false] at hm
        obtain ⟨lo, rfl, hlo0, hlo1⟩ : ∃ n : Int, v = .int n ∧ -10000000000 ≤ n ∧ n ≤ 10000000000 := by
          rcases hm with rfl | rfl | rfl <;> exact ⟨_, rfl, by omega, by omega⟩
        clear hm
        wtm_at "gs"
        exact hZ _ _ ⟨by wtm_at "ch", by wtm_at "stt", lo, hlo0, hlo1, rfl⟩
      · wtm_at "gs"
        exact hZ _ _ ⟨by wtm_at "ch", by wtm_at "stt", n, by omega, by omega, rfl⟩
    · rintro σ u ⟨eu, puu, low, hl0, hl1, rfl⟩
      wtm_at "gs"
      wtm_at "ixm"
      intro v hv hm
      clear hv
      simp only [List.mem_cons, List.not_mem_nil, or_false] at hm
      obtain ⟨ad, rfl, had0, had1⟩ : ∃ n : Int, v = .int n ∧ -1 ≤ n ∧ n ≤ 1000000 := by rcases hm with rfl | rfl | rfl | rfl | rfl | rfl <;> exact ⟨_, rfl, by omega, by omega⟩
      clear hm
      wtm_at "gs"
      have hw : (decide (wordK kd = Str.ofString "read")) = decide (kd = .read) := word_eq kd .read
      rw [hw]
      by_cases hrd : kd = .read
      · rw [decide_eq_true hrd, if_pos rfl]
        wtm_at "gs"
        rename_i tp vp ep np sp
        exact k _ _ ⟨kd, z, y, low, low⟩ (by wtm_at "ch") (by wtm_at "stt") (.tup sp (.cons (.str _) (.cons (.str _) (.cons (.str _) (.cons (.int _) (.cons (.int _) .nil)))))) ⟨hk, hz, fun _ => ⟨hyn, ⟨R, hR⟩, hl0, hl1, hl0, hl1⟩, fun h => absurd hpl h, (fun h => by have h : kd = .any := h; rw [h] at hpl; exact hpl.elim), fun _ => rfl⟩ rfl
      · rw [decide_eq_false hrd, if_neg (by decide)]
        wtm_at "gs"
        rename_i tp vp ep np sp
        exact k _ _ ⟨kd, z, y, low, max (min 10000000000 (low + ad)) (0 - 10000000000)⟩ (by wtm_at "ch") (by wtm_at "stt") (.tup sp (.cons (.str _) (.cons (.str _) (.cons (.str _) (.cons (.int _) (.cons (.int _) .nil)))))) ⟨hk, hz, fun _ => ⟨hyn, ⟨R, hR⟩, hl0, hl1, (show -10000000000 ≤ max (min 10000000000 (low + ad)) (0 - 10000000000) by omega), (show max (min 10000000000 (low + ad)) (0 - 10000000000) ≤ 10000000000 by omega)⟩, fun h => absurd hpl h, (fun h => by have h : kd = .any := h; rw [h] at hpl; exact hpl.elim), (fun h => by
          have h : kd = .att ∨ kd = .read := h
          rcases h with h | h
          · rw [h] at hpl; exact hpl.elim
          · exact absurd h hrd)⟩ rfl
  · rw [decide_eq_false hpl]
    obtain ⟨q2, vs2, rfl, sq2, ra2⟩ := hrp4.list_inv
    have la := ra2.length
    rw [List.length_map] at la
    have hpos2 : 0 < R.length := List.length_pos_iff.mpr hok.n
    have hlR := hok.l
    wtm_at "gs"
    wtm_at "ixm"
    intro v hv hm
    clear hv
    rename_i v5 d5 e5 pu5 h50 h51
    obtain ⟨d, hd, hr⟩ := rpa_mem (ra2.go e5) hm
    obtain ⟨t, ht, rfl⟩ := List.mem_map.mp hd
    obtain ⟨b1, b2, b3, b4⟩ := hok.r.mem t ht
    obtain ⟨t2, rfl, st2⟩ := pr_inv hr
    clear hm hd hr ht
    have ew5 : Ext (One p) w v5 := ew4.trans e5
    clear e5 ew4 pu4 sq2 ra2 hrp4
    wtm_at "gsi"
    refine s_ifJ (fun σ u => Ext (One p) v5 u ∧ Stt u p ∧ ∃ low : Int, 0 ≤ low ∧ low ≤ 1000000000 ∧ σ = [some (.ref p), some (.str z), some (.ref q), some (.ref td), some (.str (wordK kd)), some (.str y), some (.ref q2), some (.int low), none]) (fun Z hZ => ?_) ?_
    · wtm_at "gs"
      refine ite_d (fun c => ?_) (fun c => ?_)
      · wtm_at "gs"
        wtm_at "ixm"
        intro v hv hm
        clear hv
        simp only [List.mem_cons, List.not_mem_nil, or_false] at hm
        obtain ⟨lo, rfl, hlo0, hlo1⟩ : ∃ n : Int, v = .int n ∧ 0 ≤ n ∧ n ≤ 1000000000 := by
          rcases hm with rfl | rfl | rfl <;> exact ⟨_, rfl, by omega, by omega⟩
        clear hm
        wtm_at "gs"
        exact hZ _ _ ⟨by wtm_at "ch", by wtm_at "stt", lo, hlo0, hlo1, rfl⟩
      · wtm_at "gs"
        exact hZ _ _ ⟨by wtm_at "ch", by wtm_at "stt", _, by omega, by omega, rfl⟩
    · rintro σ u ⟨eu, puu, low, hl0, hl1, rfl⟩
      wtm_at "gs"
      wtm_at "ixm"
      intro v hv hm
      clear hv
      simp only [List.mem_cons, List.not_mem_nil, or_false] at hm
      obtain ⟨ad, rfl, had0, had1⟩ : ∃ n : Int, v = .int n ∧ -1 ≤ n ∧ n ≤ 100000000 := by rcases hm with rfl | rfl | rfl | rfl | rfl | rfl <;> exact ⟨_, rfl, by omega, by omega⟩
      clear hm
      wtm_at "gs"
      have hw : (decide (wordK kd = Str.ofString "any")) = decide (kd = .any) := word_eq kd .any
      rw [hw]
      by_cases han : kd = .any
      · subst han
        rw [decide_eq_true rfl]
        wtm_at "gs"
        rename_i tp vp ep np sp
        exact k _ _ ⟨.any, z, Str.ofString "", 0, 1000000000⟩ (by wtm_at "ch") (by wtm_at "stt") (.tup sp (.cons (.str _) (.cons (.str _) (.cons (.str _) (.cons (.int _) (.cons (.int _) .nil)))))) ⟨hk, hz, fun h => h.elim, fun _ => ⟨rfl, (show (0 : Int) ≤ 0 by decide), (show (0 : Int) ≤ 1000000000 by decide), (show (0 : Int) ≤ 1000000000 by decide), (show (1000000000 : Int) ≤ 1000000000 by decide)⟩, fun _ => ⟨rfl, rfl⟩, (fun h => by rcases h with h | h <;> cases h)⟩ rfl
      · rw [decide_eq_false han]
        wtm_at "gs"
        have hw : (decide (wordK kd = Str.ofString "at")) = decide (kd = .att) := word_eq kd .att
        rw [hw]
        have hnr : kd ≠ .read := fun h => hpl (by rw [h]; trivial)
        by_cases hat : kd = .att
        · rw [decide_eq_true hat, if_pos rfl]
          wtm_at "gs"
          rename_i tp vp ep np sp
          exact k _ _ ⟨kd, z, Str.ofString "", low, low⟩ (by wtm_at "ch") (by wtm_at "stt") (.tup sp (.cons (.str _) (.cons (.str _) (.cons (.str _) (.cons (.int _) (.cons (.int _) .nil)))))) ⟨hk, hz, fun h => absurd h hpl, fun _ => ⟨rfl, hl0, hl1, hl0, hl1⟩, fun h => absurd h han, fun _ => rfl⟩ rfl
        · rw [decide_eq_false hat, if_neg (by decide)]
          wtm_at "gs"
          rename_i tp vp ep np sp
          exact k _ _ ⟨kd, z, Str.ofString "", low, min 1000000000 (max 0 (low + ad))⟩ (by wtm_at "ch") (by wtm_at "stt") (.tup sp (.cons (.str _) (.cons (.str _) (.cons (.str _) (.cons (.int _) (.cons (.int _) .nil)))))) ⟨hk, hz, fun h => absurd h hpl, fun _ => ⟨rfl, hl0, hl1, (show 0 ≤ min 1000000000 (max 0 (low + ad)) by omega), (show min 1000000000 (max 0 (low + ad)) ≤ 1000000000 by omega)⟩, fun h => absurd h han, fun h => absurd h (by rintro (h | h); exact hat h; exact hnr h)⟩ rfl
theorem s_eqK {K : PySem.W.Frag} {a : Kd} (b : Kd) {H : Hp} {Q : VK} {bv : Bool} (e : decide (a = b) = bv) (k : Q (.bl bv) H) : gEq K (.str (wordK a)) (.str (wordK b)) H Q := s_eqS (by rw [word_eq, e]; exact k)
theorem s_eqK_any {K : PySem.W.Frag} {a : Kd} {H : Hp} {Q : VK} {bv : Bool} (e : decide (a = .any) = bv) (k : Q (.bl bv) H) : gEq K (.str (wordK a)) (.str (Str.ofString "any")) H Q := s_eqK .any e k
theorem s_eqK_within {K : PySem.W.Frag} {a : Kd} {H : Hp} {Q : VK} {bv : Bool} (e : decide (a = .within) = bv) (k : Q (.bl bv) H) : gEq K (.str (wordK a)) (.str (Str.ofString "within")) H Q := s_eqK .within e k
theorem s_eqK_att {K : PySem.W.Frag} {a : Kd} {H : Hp} {Q : VK} {bv : Bool} (e : decide (a = .att) = bv) (k : Q (.bl bv) H) : gEq K (.str (wordK a)) (.str (Str.ofString "at")) H Q := s_eqK .att e k
theorem s_eqK_between {K : PySem.W.Frag} {a : Kd} {H : Hp} {Q : VK} {bv : Bool} (e : decide (a = .between) = bv) (k : Q (.bl bv) H) : gEq K (.str (wordK a)) (.str (Str.ofString "between")) H Q := s_eqK .between e k
theorem s_eqK_read {K : PySem.W.Frag} {a : Kd} {H : Hp} {Q : VK} {bv : Bool} (e : decide (a = .read) = bv) (k : Q (.bl bv) H) : gEq K (.str (wordK a)) (.str (Str.ofString "read")) H Q := s_eqK .read e k
theorem spec_inv {S : Hp} {a : V} {e : Sim} (h : Rp S a (specD e)) : ∃ t, a = .ref t ∧ S t = some (.tup [.str (wordK e.k), .str e.n, .str e.p, .int e.lo, .int e.hi]) := by
  obtain ⟨t, vs, rfl, st, r⟩ := h.tuple_inv
  refine ⟨t, rfl, ?_⟩
  cases r with
  | cons a1 r1 => cases r1 with
    | cons a2 r2 => cases r2 with
      | cons a3 r3 => cases r3 with
        | cons a4 r4 => cases r4 with
          | cons a5 r5 =>
            cases r5
            rw [a1.str_inv, a2.str_inv, a3.str_inv, a4.int_inv, a5.int_inv] at st
            exact st
local macro_rules | `(tactic| wtm_at "eqk") => `(tactic| first | exact decide_eq_false (by decide) | exact decide_eq_true (by decide))
local macro_rules | `(tactic| wtm_at "go1") => `(tactic| first
  | ((with_reducible refine' s_eqK_any ?e ?k); (case e => wtm_at "eqk"))
  | ((with_reducible refine' s_eqK_within ?e ?k); (case e => wtm_at "eqk"))
  | ((with_reducible refine' s_eqK_att ?e ?k); (case e => wtm_at "eqk"))
  | ((with_reducible refine' s_eqK_between ?e ?k); (case e => wtm_at "eqk"))
  | ((with_reducible refine' s_eqK_read ?e ?k); (case e => wtm_at "eqk"))
  | fail "go1k")
abbrev s_l_made : Stmt := top 56
abbrev nm_l_made : List Str := ["_law_spec_here", "_law_word", "_law_name", "_law_place", "_law_low", "_law_high"]
theorem sc_l_made : FnScope nm_l_made ["_law_spec_here"] (defScope s_l_made) := ⟨rfl, rfl, rfl, by decide +kernel, rfl, by decide +kernel, by decide +kernel⟩
theorem st_l_made (a : V) : start nm_l_made [a] = [some a, none, none, none, none, none] := rfl
def p_l_made (K : PySem.W.Frag) (ec : EC) (w : Wd) (a : V) (Q : VK) (_ : XK) : Prop := ∃ e T, Rp w.S a (specD e) ∧ SpecOk e T ∧ ∀ v r, Ext Non w v → SimS K ec v.S r e → Q r v.H
theorem ok_l_made {f : Addr} {fd : FuncData} {C_Entry C_Within C_At C_Between C_Table C_Read C_Joint C_Sifted C_LogError C_NoEntry C_NoMoment C_NoName C_NoPlace C_NoReading C_TooMany : Addr} (F : Fun K "_law_made" "_law_made" s_l_made f fd) (T : Txt K mg C_Entry C_Within C_At C_Between C_Table C_Read C_Joint C_Sifted C_LogError C_NoEntry C_NoMoment C_NoName C_NoPlace C_NoReading C_TooMany) (c_At_init : Mkr P ww K mg base (L2.CX P ww) C_At 5 (pr3 (p_At_init K C_NoName C_NoMoment))) (c_Between_init : Mkr P ww K mg base (L2.CX P ww) C_Between 4 (pr5 (p_Between_init K C_NoName C_NoReading))) (c_Entry_init : Mkr P ww K mg base (L2.CX P ww) C_Entry 3 (pr2 (p_Entry_init K C_NoName))) (c_Read_init : Mkr P ww K mg base (L2.CX P ww) C_Read 5 (pr4 (p_Read_init K C_NoName C_NoReading))) (c_Within_init : Mkr P ww K mg base (L2.CX P ww) C_Within 4 (pr4 (p_Within_init K C_NoName C_NoMoment))) : FnOk P ww K mg base CX0 7 f fd ["_law_spec_here"] (pr1 (p_l_made K (EC.mk C_Entry C_Within C_At C_Between C_Read C_Joint C_Sifted))) := by
  refine F.ok sc_l_made (fun vs H Q E h => len1 h) (fun cdv A outer s H vs Q E hr h => ?_)
  obtain ⟨w, x0,  rfl, rfl, h⟩ := h
  have ekT := ek_T T
  have cl_Table := T.cl_Table
  have na_Table_kept_rows := T.na_Table_kept_rows
  have oex_NoEntry := T.oex_NoEntry; have xf_NoEntry := T.xf_NoEntry; have ec_NoEntry := T.ec_NoEntry; have xn_NoEntry := T.xn_NoEntry
  have oex_NoMoment := T.oex_NoMoment; have xf_NoMoment := T.xf_NoMoment; have ec_NoMoment := T.ec_NoMoment; have xn_NoMoment := T.xn_NoMoment
  have oex_NoName := T.oex_NoName; have xf_NoName := T.xf_NoName; have ec_NoName := T.ec_NoName; have xn_NoName := T.xn_NoName
  have oex_NoPlace := T.oex_NoPlace; have xf_NoPlace := T.xf_NoPlace; have ec_NoPlace := T.ec_NoPlace; have xn_NoPlace := T.xn_NoPlace
  have oex_NoReading := T.oex_NoReading; have xf_NoReading := T.xf_NoReading; have ec_NoReading := T.ec_NoReading; have xn_NoReading := T.xn_NoReading
  have oex_TooMany := T.oex_TooMany; have xf_TooMany := T.xf_TooMany; have ec_TooMany := T.ec_TooMany; have xn_TooMany := T.xn_TooMany
  have rel_NoPlace_NoPlace := T.rel_NoPlace_NoPlace
  have rel_NoPlace_ValueError := T.rel_NoPlace_ValueError
  have rel_NoPlace_NoEntry := T.rel_NoPlace_NoEntry
  have rel_NoPlace_NoMoment := T.rel_NoPlace_NoMoment
  have rel_NoPlace_NoName := T.rel_NoPlace_NoName
  have rel_NoPlace_NoReading := T.rel_NoPlace_NoReading
  have rel_NoPlace_TooMany := T.rel_NoPlace_TooMany
  have exm_NoPlace_LogError := T.exm_NoPlace_LogError
  refine ⟨_, (pss_cons (ps_asg (pv 0) (kgTup K (by rfl) (pgs_cons (pg_name (i := 1) sc_l_made.nd rfl (Or.inl rfl)) (pgs_cons (pg_name (i := 2) sc_l_made.nd rfl (Or.inl rfl)) (pgs_cons (pg_name (i := 3) sc_l_made.nd rfl (Or.inl rfl)) (pgs_cons (pg_name (i := 4) sc_l_made.nd rfl (Or.inl rfl)) (pgs_cons (pg_name (i := 5) sc_l_made.nd rfl (Or.inl rfl)) pgs_nil)))))))
      (pss_cons (ps_if (pt_cmpR (kEq K hr.units) (pv 1) pe_str (nomark _)) (pss_one (ps_ret (pe_mkX takes0 c_Entry_init hr (by decide) T.g_Entry (pa_cons (pv 2) pa_nil)))) pss_nil)
      (pss_cons (ps_if (pt_cmpR (kEq K hr.units) (pv 1) pe_str (nomark _)) (pss_one (ps_ret (pe_mkX takes0 c_Within_init hr (by decide) T.g_Within (pa_cons (pv 2) (pa_cons (pv 4) (pa_cons (pv 5) pa_nil)))))) pss_nil)
      (pss_cons (ps_if (pt_cmpR (kEq K hr.units) (pv 1) pe_str (nomark _)) (pss_one (ps_ret (pe_mkX takes0 c_At_init hr (by decide) T.g_At (pa_cons (pv 2) (pa_cons (pv 4) pa_nil))))) pss_nil)
      (pss_cons (ps_if (pt_cmpR (kEq K hr.units) (pv 1) pe_str (nomark _)) (pss_one (ps_ret (pe_mkX takes0 c_Between_init hr (by decide) T.g_Between (pa_cons (pv 2) (pa_cons (pv 3) (pa_cons (pv 4) (pa_cons (pv 5) pa_nil))))))) pss_nil)
      (pss_one (ps_ret (pe_mkX takes0 c_Read_init hr (by decide) T.g_Read (pa_cons (pv 2) (pa_cons (pv 3) (pa_cons (pv 4) pa_nil))))))))))), ?_⟩
  rw [st_l_made]
  obtain ⟨e, T, hr, ok, k⟩ := h
  obtain ⟨t, rfl, st⟩ := spec_inv hr
  clear hr
  obtain ⟨kd, n, p, lo, hi⟩ := e
  have hk := ok.s
  have hn := ok.n
  have hnb := nameB_ok hn
  have htx := txd_ok hn
  have fin : ∀ (u v : Wd) (x dx : Addr) (m : Addr → Prop), Ext Non w u → w.H x = none → Ext (One x) u v → Own v x (.ins ((EC.mk C_Entry C_Within C_At C_Between C_Read C_Joint C_Sifted).of kd) dx (fldS ⟨kd, n, p, lo, hi⟩)) → Q (.ref x) v.H := fun u v x dx _ e1 nx e2 o => by
    refine lay (R := fun H => Q (.ref x) H) o fun v2 e3 s3 => ?_
    exact k v2 (.ref x) ((e1.step e2 fun b hb => .inl (by rw [show b = x from hb]; exact nx)).step e3 fun b hb => .inl (by rw [show b = x from hb]; exact nx)) ⟨ekT, x, dx, rfl, s3⟩
  have st : w.S t = some (.tup [.str (wordK kd), .str n, .str p, .int lo, .int hi]) := st
  have hno : ∀ {b : Bool} {z : Str} {X : Prop}, nameB (.str n) = false → X := fun h => by have : nameB (.str n) = true := hnb; rw [this] at h; cases h
  cases kd
  case joint => exact hk.elim
  case sifted => exact hk.elim
  case any =>
    obtain ⟨h1, h2⟩ := ok.an rfl
    wtm_at "gs"
    refine s_rmake fun x dx v1 e1 n1 o1 => s_pm2 ⟨x, _, dx, _, rfl, o1, (ekT.cl .any trivial), .str n, htx, fun z hz _ v2 e2 o2 => ⟨rfl, ?_⟩, fun h => hno (b := true) (z := n) h⟩
    cases hz
    exact fin v1 v2 x dx Non e1 n1 e2 o2
  case within =>
    obtain ⟨_, b1, b2, b3, b4⟩ := ok.np (fun h => h.elim)
    have w1 : wholeB (.int lo) 0 1000000000 = true := by unfold wholeB; simp; exact ⟨b1, b2⟩
    have w2 : wholeB (.int hi) 0 1000000000 = true := by unfold wholeB; simp; exact ⟨b3, b4⟩
    wtm_at "gs"
    refine s_rmake fun x dx v1 e1 n1 o1 => s_pm4 ⟨x, _, dx, _, _, _, rfl, o1, (ekT.cl .within trivial), .str n, htx, .int lo, .int hi, fun z a b hz _ ha hb _ _ _ _ v2 e2 o2 => ⟨rfl, ?_⟩, fun h => hno (b := true) (z := n) h, fun _ h => (by rw [w1] at h; cases h), fun _ _ h => (by rw [w2] at h; cases h)⟩
    cases hz; cases ha; cases hb
    exact fin v1 v2 x dx Non e1 n1 e2 o2
  case att =>
    obtain ⟨_, b1, b2, b3, b4⟩ := ok.np (fun h => h.elim)
    have he : lo = hi := ok.at' (.inl rfl)
    subst he
    have w1 : wholeB (.int lo) 0 1000000000 = true := by unfold wholeB; simp; exact ⟨b1, b2⟩
    wtm_at "gs"
    refine s_rmake fun x dx v1 e1 n1 o1 => s_pm3 ⟨x, _, dx, _, _, rfl, o1, (ekT.cl .att trivial), .str n, htx, .int lo, fun z a hz _ ha _ _ v2 e2 o2 => ⟨rfl, ?_⟩, fun h => hno (b := true) (z := n) h, fun _ h => (by rw [w1] at h; cases h)⟩
    cases hz; cases ha
    exact fin v1 v2 x dx Non e1 n1 e2 o2
  case between =>
    obtain ⟨hp, _, b1, b2, b3, b4⟩ := ok.pl trivial
    have hpb := nameB_ok hp
    have w1 : wholeB (.int lo) (0 - 10000000000) 10000000000 = true := by unfold wholeB; simp; exact ⟨b1, b2⟩
    have w2 : wholeB (.int hi) (0 - 10000000000) 10000000000 = true := by unfold wholeB; simp; exact ⟨b3, b4⟩
    wtm_at "gs"
    refine s_rmake fun x dx v1 e1 n1 o1 => s_pm5 ⟨x, _, dx, _, _, _, _, rfl, o1, (ekT.cl .between trivial), .str n, htx, .str p, txd_ok hp, .int lo, .int hi, fun z y a b hz _ hy _ ha hb _ _ _ _ v2 e2 o2 => ⟨rfl, ?_⟩, fun h => hno (b := true) (z := n) h, fun _ h => (by have : nameB (.str p) = true := hpb; rw [this] at h; cases h), fun _ _ h => (by rw [w1] at h; cases h), fun _ _ _ h => (by rw [w2] at h; cases h)⟩
    cases hz; cases hy; cases ha; cases hb
    exact fin v1 v2 x dx Non e1 n1 e2 o2
  case read =>
    obtain ⟨hp, _, b1, b2, b3, b4⟩ := ok.pl trivial
    have hpb := nameB_ok hp
    have he : lo = hi := ok.at' (.inr rfl)
    subst he
    have w1 : wholeB (.int lo) (0 - 10000000000) 10000000000 = true := by unfold wholeB; simp; exact ⟨b1, b2⟩
    wtm_at "gs"
    refine s_rmake fun x dx v1 e1 n1 o1 => s_pm4 ⟨x, _, dx, _, _, _, rfl, o1, (ekT.cl .read trivial), .str n, htx, .str p, txd_ok hp, .int lo, fun z y a hz _ hy _ ha _ _ v2 e2 o2 => ⟨rfl, ?_⟩, fun h => hno (b := true) (z := n) h, fun _ h => (by have : nameB (.str p) = true := hpb; rw [this] at h; cases h), fun _ _ h => (by rw [w1] at h; cases h)⟩
    cases hz; cases hy; cases ha
    exact fin v1 v2 x dx Non e1 n1 e2 o2
abbrev s_l_spans : Stmt := top 57
abbrev nm_l_spans : List Str := ["_law_spec_here", "_law_tables", "_law_word", "_law_name", "_law_place", "_law_low", "_law_high"]
theorem sc_l_spans : FnScope nm_l_spans ["_law_spec_here", "_law_tables"] (defScope s_l_spans) := ⟨rfl, rfl, rfl, by decide +kernel, rfl, by decide +kernel, by decide +kernel⟩
theorem st_l_spans (a b : V) : start nm_l_spans [a, b] = [some a, some b, none, none, none, none, none] := rfl
def p_l_spans (w : Wd) (a b : V) (Q : VK) (_ : XK) : Prop := ∃ e T, Rp w.S a (specD e) ∧ SpecOk e T ∧ TabsL w b T ∧ Tells w Q fun out => Sp none out ∧ ∀ n, ins out n ↔ inE e T n
theorem ok_l_spans {f : Addr} {fd : FuncData} {C_Entry C_Within C_At C_Between C_Table C_Read C_Joint C_Sifted C_LogError C_NoEntry C_NoMoment C_NoName C_NoPlace C_NoReading C_TooMany : Addr} (F : Fun K "_law_spans" "_law_spans" s_l_spans f fd) (T : Txt K mg C_Entry C_Within C_At C_Between C_Table C_Read C_Joint C_Sifted C_LogError C_NoEntry C_NoMoment C_NoName C_NoPlace C_NoReading C_TooMany) (c_l_joined : Fnc P ww K mg base CX0 1 "_law_joined" (pr1 (p_l_joined))) (c_l_shown : Fnc P ww K mg base CX0 2 "_law_shown" (pr3 (p_l_shown))) : FnOk P ww K mg base CX0 3 f fd ["_law_spec_here", "_law_tables"] (pr2 (p_l_spans)) := by
  refine F.ok sc_l_spans (fun vs H Q E h => len2 h) (fun cdv A outer s H vs Q E hr h => ?_)
  obtain ⟨w, x0, x1,  rfl, rfl, h⟩ := h
  have ekT := ek_T T
  have oex_NoEntry := T.oex_NoEntry; have xf_NoEntry := T.xf_NoEntry; have ec_NoEntry := T.ec_NoEntry; have xn_NoEntry := T.xn_NoEntry
  have oex_NoMoment := T.oex_NoMoment; have xf_NoMoment := T.xf_NoMoment; have ec_NoMoment := T.ec_NoMoment; have xn_NoMoment := T.xn_NoMoment
  have oex_NoName := T.oex_NoName; have xf_NoName := T.xf_NoName; have ec_NoName := T.ec_NoName; have xn_NoName := T.xn_NoName
  have oex_NoPlace := T.oex_NoPlace; have xf_NoPlace := T.xf_NoPlace; have ec_NoPlace := T.ec_NoPlace; have xn_NoPlace := T.xn_NoPlace
  have oex_NoReading := T.oex_NoReading; have xf_NoReading := T.xf_NoReading; have ec_NoReading := T.ec_NoReading; have xn_NoReading := T.xn_NoReading
  have oex_TooMany := T.oex_TooMany; have xf_TooMany := T.xf_TooMany; have ec_TooMany := T.ec_TooMany; have xn_TooMany := T.xn_TooMany
  have rel_NoPlace_NoPlace := T.rel_NoPlace_NoPlace
  have rel_NoPlace_ValueError := T.rel_NoPlace_ValueError
  have rel_NoPlace_NoEntry := T.rel_NoPlace_NoEntry
  have rel_NoPlace_NoMoment := T.rel_NoPlace_NoMoment
  have rel_NoPlace_NoName := T.rel_NoPlace_NoName
  have rel_NoPlace_NoReading := T.rel_NoPlace_NoReading
  have rel_NoPlace_TooMany := T.rel_NoPlace_TooMany
  have exm_NoPlace_LogError := T.exm_NoPlace_LogError
  refine ⟨_, (pss_cons (ps_asg (pv 0) (kgTup K (by rfl) (pgs_cons (pg_name (i := 2) sc_l_spans.nd rfl (Or.inl rfl)) (pgs_cons (pg_name (i := 3) sc_l_spans.nd rfl (Or.inl rfl)) (pgs_cons (pg_name (i := 4) sc_l_spans.nd rfl (Or.inl rfl)) (pgs_cons (pg_name (i := 5) sc_l_spans.nd rfl (Or.inl rfl)) (pgs_cons (pg_name (i := 6) sc_l_spans.nd rfl (Or.inl rfl)) pgs_nil)))))))
      (pss_cons (ps_if (pt_cmpR (kIn K) (pv 2) (pe_tup (pa_cons pe_str (pa_cons pe_str pa_nil))) (by rfl)) (pss_one (ps_ret (pe_fn c_l_shown hr (by decide) pass0 (pa_cons (pe_dget (hu_of hr) (pv 1) (pv 4) (fun _ _ => rfl)) (pa_cons (pv 5) (pa_cons (pv 6) pa_nil)))))) pss_nil)
      (pss_one (ps_ret (pe_fn c_l_joined hr (by decide) pass0 (pa_cons (pe_lst (pa_cons (pe_tup (pa_cons (pv 5) (pa_cons (pv 6) pa_nil))) pa_nil)) pa_nil)))))), ?_⟩
  rw [st_l_spans]
  obtain ⟨e, T, hr, ok, ⟨td, kvs, rfl, std, htd⟩, k⟩ := h
  obtain ⟨t, rfl, st⟩ := spec_inv hr
  clear hr
  wtm_at "gs"
  rename_i tt v4 e4 n4 s4
  refine s_inT s4 (by rfl) ?_
  rw [word_pl]
  obtain ⟨kd, n, p, lo, hi⟩ := e
  have st4 : v4.S t = some (.tup [.str (wordK kd), .str n, .str p, .int lo, .int hi]) := st_go e4 st
  have std4 : Rd v4 td (.dK kvs) := std.go e4 fun z => z
  clear n4 s4 st std
  by_cases hpl : placed kd
  · rw [decide_eq_true hpl]
    obtain ⟨hp, ⟨R, hR⟩, b1, b2, b3, b4⟩ := ok.pl hpl
    obtain ⟨vr, hvr, hrp, hok⟩ := DicR.hit (htd.go e4) hR
    have hdg : DGet v4.H td (.str p) (some vr) := by
      have := dgetR (.inl (Rd.h std4)) (.inr p)
      rw [hvr] at this
      exact this
    wtm_at "gs"
    refine ⟨td, _, rfl, hdg, ?_⟩
    wtm_at "gs"
    refine ⟨R, lo, hi, hrp, hok, rfl, rfl, fun v r vs out e1 n1 o1 r1 ⟨h1, h2⟩ => k v r vs out (e4.trans e1) (e4.back n1) o1 r1 ⟨h1, fun m => (h2 m).trans ?_⟩⟩
    have hi' : inE ⟨kd, n, p, lo, hi⟩ T m ↔ ∃ R, getT T p = some R ∧ ins ((strsR R lo hi R.length).filter ne2) m := by
      unfold inE
      cases kd <;> first | exact hpl.elim | exact Iff.rfl
    rw [hi']
    exact ⟨fun z => ⟨R, hR, z⟩, fun ⟨R', h1, h2⟩ => by have h1 : getT T p = some R' := h1; rw [show getT T p = some R from hR] at h1; cases h1; exact h2⟩
  · rw [decide_eq_false hpl]
    obtain ⟨_, b1, b2, b3, b4⟩ := ok.np hpl
    wtm_at "gs"
    rename_i t5 v5 e5 n5 s5 t6 v6 e6 n6 s6
    have ew : Ext Non w v6 := e4.trans (e5.trans e6)
    refine ⟨[(lo, hi)], ⟨t6, _, rfl, .inl s6, .cons (.tup (st_go e6 s5) (.cons (.int _) (.cons (.int _) .nil))) .nil⟩, by simp, fun v r vs out e1 n1 o1 r1 ⟨h1, h2⟩ => k v r vs out (ew.trans e1) (ew.back n1) o1 r1 ⟨h1, fun m => (h2 m).trans ?_⟩⟩
    have hm : ins [(lo, hi)] m ↔ lo ≤ m ∧ m ≤ hi := by unfold ins; simp
    rw [hm]
    unfold inE
    have hs := ok.s
    cases kd
    case joint => exact hs.elim
    case sifted => exact hs.elim
    case between => exact absurd trivial hpl
    case read => exact absurd trivial hpl
    case any =>
      obtain ⟨h1, h2⟩ := ok.an rfl
      have h1 : lo = 0 := h1
      have h2 : hi = 1000000000 := h2
      subst h1; subst h2
      exact Iff.rfl
    case within => exact Iff.rfl
    case att => exact Iff.rfl
abbrev s_l_is_number : Stmt := top 52
abbrev nm_l_is_number : List Str := ["_law_found", "_law_due"]
theorem sc_l_is_number : FnScope nm_l_is_number ["_law_found", "_law_due"] (defScope s_l_is_number) := ⟨rfl, rfl, rfl, by decide +kernel, rfl, by decide +kernel, by decide +kernel⟩
theorem st_l_is_number (a b : V) : start nm_l_is_number [a, b] = [some a, some b] := rfl
def p_l_is_number (w : Wd) (a b : V) (Q : VK) (_ : XK) : Prop := ∃ n : Int, a = .int n ∧ b = .int n ∧ ∀ v, Ext Non w v → Q (.bl true) v.H
theorem ok_l_is_number {f : Addr} {fd : FuncData} {C_Entry C_Within C_At C_Between C_Table C_Read C_Joint C_Sifted C_LogError C_NoEntry C_NoMoment C_NoName C_NoPlace C_NoReading C_TooMany : Addr} (F : Fun K "_law_is_number" "_law_is_number" s_l_is_number f fd) (T : Txt K mg C_Entry C_Within C_At C_Between C_Table C_Read C_Joint C_Sifted C_LogError C_NoEntry C_NoMoment C_NoName C_NoPlace C_NoReading C_TooMany)  : FnOk P ww K mg base CX0 1 f fd ["_law_found", "_law_due"] (pr2 (p_l_is_number)) := by
  refine F.ok sc_l_is_number (fun vs H Q E h => len2 h) (fun cdv A outer s H vs Q E hr h => ?_)
  obtain ⟨w, x0, x1,  rfl, rfl, h⟩ := h
  have ekT := ek_T T
  have oex_NoEntry := T.oex_NoEntry; have xf_NoEntry := T.xf_NoEntry; have ec_NoEntry := T.ec_NoEntry; have xn_NoEntry := T.xn_NoEntry
  have oex_NoMoment := T.oex_NoMoment; have xf_NoMoment := T.xf_NoMoment; have ec_NoMoment := T.ec_NoMoment; have xn_NoMoment := T.xn_NoMoment
  have oex_NoName := T.oex_NoName; have xf_NoName := T.xf_NoName; have ec_NoName := T.ec_NoName; have xn_NoName := T.xn_NoName
  have oex_NoPlace := T.oex_NoPlace; have xf_NoPlace := T.xf_NoPlace; have ec_NoPlace := T.ec_NoPlace; have xn_NoPlace := T.xn_NoPlace
  have oex_NoReading := T.oex_NoReading; have xf_NoReading := T.xf_NoReading; have ec_NoReading := T.ec_NoReading; have xn_NoReading := T.xn_NoReading
  have oex_TooMany := T.oex_TooMany; have xf_TooMany := T.xf_TooMany; have ec_TooMany := T.ec_TooMany; have xn_TooMany := T.xn_TooMany
  have rel_NoPlace_NoPlace := T.rel_NoPlace_NoPlace
  have rel_NoPlace_ValueError := T.rel_NoPlace_ValueError
  have rel_NoPlace_NoEntry := T.rel_NoPlace_NoEntry
  have rel_NoPlace_NoMoment := T.rel_NoPlace_NoMoment
  have rel_NoPlace_NoName := T.rel_NoPlace_NoName
  have rel_NoPlace_NoReading := T.rel_NoPlace_NoReading
  have rel_NoPlace_TooMany := T.rel_NoPlace_TooMany
  have exm_NoPlace_LogError := T.exm_NoPlace_LogError
  refine ⟨_, (pss_one (ps_ret (pe_and (pe_callB (kIsi K) (by rfl) T.n_isinstance (by decide +kernel) (pa_cons (pv 0) (pa_cons (pe_bltn (v := .ty "int") (u := .type "int") rfl T.n_int (by decide +kernel) rfl) pa_nil))) (pe_and (pe_not (pe_callB (kIsi K) (by rfl) T.n_isinstance (by decide +kernel) (pa_cons (pv 0) (pa_cons (pe_bltn (v := .ty "bool") (u := .type "bool") rfl T.n_bool (by decide +kernel) rfl) pa_nil)))) (pe_one (pe_cmpR (kEq K hr.units) (pv 0) (pv 1) (nomark _))))))), ?_⟩
  rw [st_l_is_number]
  obtain ⟨n, rfl, rfl, k⟩ := h
  wtm_at "gs"
  rw [decide_eq_true rfl]
  exact k _ (Ext.refl _ _)
abbrev s_l_same : Stmt := top 53
abbrev nm_l_same : List Str := ["_law_found", "_law_due", "_law_part", "_law_one"]
theorem sc_l_same : FnScope nm_l_same ["_law_found", "_law_due"] (defScope s_l_same) := ⟨rfl, rfl, rfl, by decide +kernel, rfl, by decide +kernel, by decide +kernel⟩
theorem st_l_same (a b : V) : start nm_l_same [a, b] = [some a, some b, none, none] := rfl
def p_l_same (w : Wd) (a b : V) (Q : VK) (_ : XK) : Prop := ∃ R, Ls w a R ∧ Ls w b R ∧ ∀ v, Ext Non w v → Q (.bl true) v.H
theorem ok_l_same {f : Addr} {fd : FuncData} {C_Entry C_Within C_At C_Between C_Table C_Read C_Joint C_Sifted C_LogError C_NoEntry C_NoMoment C_NoName C_NoPlace C_NoReading C_TooMany : Addr} (F : Fun K "_law_same" "_law_same" s_l_same f fd) (T : Txt K mg C_Entry C_Within C_At C_Between C_Table C_Read C_Joint C_Sifted C_LogError C_NoEntry C_NoMoment C_NoName C_NoPlace C_NoReading C_TooMany)  : FnOk P ww K mg base CX0 1 f fd ["_law_found", "_law_due"] (pr2 (p_l_same)) := by
  refine F.ok sc_l_same (fun vs H Q E h => len2 h) (fun cdv A outer s H vs Q E hr h => ?_)
  obtain ⟨w, x0, x1,  rfl, rfl, h⟩ := h
  have ekT := ek_T T
  have oex_NoEntry := T.oex_NoEntry; have xf_NoEntry := T.xf_NoEntry; have ec_NoEntry := T.ec_NoEntry; have xn_NoEntry := T.xn_NoEntry
  have oex_NoMoment := T.oex_NoMoment; have xf_NoMoment := T.xf_NoMoment; have ec_NoMoment := T.ec_NoMoment; have xn_NoMoment := T.xn_NoMoment
  have oex_NoName := T.oex_NoName; have xf_NoName := T.xf_NoName; have ec_NoName := T.ec_NoName; have xn_NoName := T.xn_NoName
  have oex_NoPlace := T.oex_NoPlace; have xf_NoPlace := T.xf_NoPlace; have ec_NoPlace := T.ec_NoPlace; have xn_NoPlace := T.xn_NoPlace
  have oex_NoReading := T.oex_NoReading; have xf_NoReading := T.xf_NoReading; have ec_NoReading := T.ec_NoReading; have xn_NoReading := T.xn_NoReading
  have oex_TooMany := T.oex_TooMany; have xf_TooMany := T.xf_TooMany; have ec_TooMany := T.ec_TooMany; have xn_TooMany := T.xn_TooMany
  have rel_NoPlace_NoPlace := T.rel_NoPlace_NoPlace
  have rel_NoPlace_ValueError := T.rel_NoPlace_ValueError
  have rel_NoPlace_NoEntry := T.rel_NoPlace_NoEntry
  have rel_NoPlace_NoMoment := T.rel_NoPlace_NoMoment
  have rel_NoPlace_NoName := T.rel_NoPlace_NoName
  have rel_NoPlace_NoReading := T.rel_NoPlace_NoReading
  have rel_NoPlace_TooMany := T.rel_NoPlace_TooMany
  have exm_NoPlace_LogError := T.exm_NoPlace_LogError
  refine ⟨_, (pss_cons (ps_if (PW.pt (pw_or (pt_not (pt_val (pe_callB (kIsi K) (by rfl) T.n_isinstance (by decide +kernel) (pa_cons (pv 0) (pa_cons (pe_bltn (v := .ty "list") (u := .type "list") rfl T.n_list (by decide +kernel) rfl) pa_nil))))) (pw_or1 (pt_cmpR (kNe K hr.units) (pv 0) (pv 1) (nomark _))))) (pss_one (ps_ret pe_bl)) pss_nil)
      (pss_cons (ps_for PassesOwn.never rfl (kpList K (pv 0)) (pg_name (i := 2) sc_l_same.nd rfl (Or.inl rfl)) (pss_one (ps_if (PW.pt (pw_or (pt_not (pt_val (pe_callB (kIsi K) (by rfl) T.n_isinstance (by decide +kernel) (pa_cons (pv 2) (pa_cons (pe_bltn (v := .ty "tuple") (u := .type "tuple") rfl T.n_tuple (by decide +kernel) rfl) pa_nil))))) (pw_or1 (pt_cmpR (kNe K hr.units) (pe_lc (own := [("_law_one", 3)]) (g := (gName 3)) (tt := _) (by rfl) sc_l_same.nd (kpTup K (pv 2)) (blkOk_by (own := [("_law_one", 3)]) (N := nm_l_same) (sc := defScope s_l_same) (by decide +kernel)) (fun _ _ _ _ _ => (pg_name (i := 3) sc_l_same.nd rfl (Or.inl rfl))) (fun _ _ _ _ _ => (pts_one (pt_val (pe_callB (kIsi K) (by rfl) T.n_isinstance (by decide +kernel) (pa_cons (pv 3) (pa_cons (pe_bltn (v := .ty "bool") (u := .type "bool") rfl T.n_bool (by decide +kernel) rfl) pa_nil)))))) (fun _ _ _ _ _ => (pv 3))) (pe_lst pa_nil) (nomark _))))) (pss_one (ps_ret pe_bl)) pss_nil)))
      (pss_one (ps_ret pe_bl)))), ?_⟩
  rw [st_l_same]
  obtain ⟨R, ⟨p, vs, rfl, rp, ra⟩, ⟨q, us, rfl, rq, rb⟩, k⟩ := h
  have la := ra.length
  rw [List.length_map] at la
  wtm_at "gs"
  refine s_neLs (shaped_spD R) rp ra rq rb ?_
  wtm_at "gs"
  refine forW (ww_list (xs := vs)) (fun i σ u => Ext Non w u ∧ ∃ g, σ = [some (.ref p), some (.ref q), g, none]) ⟨Ext.refl _ _, _, rfl⟩ (fun i σ u _ h => SqL.of (Rd.h (rp.go h.1 fun z => z))) ?_ ?_
  · rintro i x σ _ u hi ⟨eu, g, rfl⟩ ⟨rfl, hx⟩
    obtain ⟨r, t, hr, rfl, st⟩ := rpa_pr ra hx
    have st2 : u.S t = some (.tup [.int r.1, .int r.2]) := st_go eu st
    wtm_at "gs"
    rw [show (!isTup (PyData.tuple [PyData.int r.1, PyData.int r.2])) = false from rfl]
    wtm_at "gs"
    intro D hD
    refine lc_any (rows := [r.1, r.2]) (ww_tup (xs := [.int r.1, .int r.2])) (fun _ => false) PyData.int hD rfl (by rw [sizeLine_eq]; simp) (fun i u x v hi y => by obtain ⟨rfl, _⟩ := y; exact Ext.refl _ _) (fun v e => sqt_of (st_go e st2)) ?_ ?_
    · rintro j y n _ v hj ⟨rfl, hy⟩ hn ev ev2 R' Z hR' hZ
      have hy2 : ∃ n : Int, y = .int n := by
        have := List.mem_of_getElem? hy
        simp only [List.mem_cons, List.not_mem_nil, or_false] at this
        rcases this with h | h <;> exact ⟨_, h⟩
      obtain ⟨n, rfl⟩ := hy2
      wtm_at "gs"
      refine ⟨rfl, ?_⟩
      wtm_at "gs"
      exact hZ _ (Ext.refl _ _) rfl
    · intro v acc ev hD' o ha2
      have hac : acc = [] := by
        rw [List.filter_eq_nil_iff.mpr (by simp)] at ha2
        cases ha2
        rfl
      subst hac
      wtm_at "gs"
      rename_i p3 v3 e3 n3 s3
      refine s_neLs shaped_nil (.inr (o.ext e3 fun z => z)) .nil (.inl s3) .nil ?_
      wtm_at "gs"
      exact ⟨(eu.trans ev).trans e3, _, rfl⟩
  · rintro σ u ⟨eu, g, rfl⟩
    wtm_at "gs"
    exact k u eu
theorem new_at {w : Wd} {o : HO} {R : Hp → Prop} {a : Addr} (n : w.H a = none) (k : ∀ v, Ext Non w v → v.S a = some o → R v.H) : R (upd w.H a o) :=
  (newS (w := w) (o := o) (Q := fun r H => r = V.ref a → R H) (fun p v e _ s hp => by cases hp; exact k v e s) a n) rfl
local macro_rules | `(tactic| wtm_at "kl") => `(tactic| first
  | exact KitL.nil
  | (refine' KitL.cons ?a ?b; (case a => assumption); (case b => wtm_at "kl"))
  | fail "kl")
local macro_rules | `(tactic| wtm_at "go1") => `(tactic| first
  | with_reducible refine s_xk ?_
  | with_reducible refine s_methD ?_
  | ((with_reducible refine' s_isiCC ?h ?c ?i ?e ?k); (case h => wtm_at "hh"); (case c => assumption); (case i => assumption); (case e => assumption))
  | ((with_reducible refine' s_isKc ?c ?e ?h1 ?h2 ?k); (case h1 => wtm_at "hh"); (case c => assumption); (case e => assumption); (case h2 => wtm_at "hh"))
  | ((with_reducible refine' s_isKt ?c ?e ?h1 ?h2 ?k); (case h1 => wtm_at "hh"); (case c => assumption); (case e => assumption); (case h2 => wtm_at "hh"))
  | ((with_reducible refine' s_isKT ?c ?s ?e ?h1 ?h2 ?k); (case h1 => wtm_at "hh"); (case c => assumption); (case s => wtm_at "stb"); (case e => wtm_at "kl"); (case h2 => wtm_at "hh"))
  | ((with_reducible refine' s_xkv ?c ?e ?h1 ?h2 ?k); (case h1 => wtm_at "hh"); (case c => assumption); (case e => assumption); (case h2 => wtm_at "hh"))
  | fail "go1k")
theorem ite_nx {α : Type} {x : α} [Decidable (x ≠ x)] {A B : Prop} (k : B) : if decide (x ≠ x) = true then A else B := by rw [decide_eq_false (fun z => z rfl), if_neg (by decide)]; exact k
theorem s_inTv {K : PySem.W.Frag} {w : Wd} {z : Str} {p : Addr} {vs : List V} {bv : Bool} {Q : VK} (h : w.S p = some (.tup vs)) (f : vs.all flatV = true) (e : inV (.str z) vs = bv) (k : Q (.bl bv) w.H) : gIn K (.str z) (.ref p) w.H Q := s_inT h f (by rw [e]; exact k)
local macro_rules | `(tactic| wtm_at "inv") => `(tactic| first | exact (show inV _ _ = false by decide +kernel) | exact (show inV _ _ = true by decide +kernel))
local macro_rules | `(tactic| wtm_at "go1") => `(tactic| first
  | with_reducible refine ite_nx ?_
  | ((with_reducible refine' s_inTv ?h ?f ?e ?k); (case h => wtm_at "stb"); (case f => exact rfl); (case e => wtm_at "inv"))
  | fail "go1f")
abbrev s_l_no_place : Stmt := top 58
abbrev nm_l_no_place : List Str := ["_law_entry", "_law_tables", "_law_error", "e"]
theorem sc_l_no_place : FnScope nm_l_no_place ["_law_entry", "_law_tables"] (defScope s_l_no_place) := ⟨rfl, rfl, rfl, by decide +kernel, rfl, by decide +kernel, by decide +kernel⟩
theorem st_l_no_place (a b : V) : start nm_l_no_place [a, b] = [some a, some b, none, none] := rfl
def p_l_no_place (K : PySem.W.Frag) (ec : EC) (C : Addr) (w : Wd) (a b : V) (Q : VK) (_ : XK) : Prop := ∃ e T, SimS K ec w.S a e ∧ e.ok ∧ placed e.k ∧ TabsD C w b T ∧ getT T e.p = none ∧ ∀ v, Ext Non w v → Q (.str e.p) v.H
theorem ok_l_no_place {f : Addr} {fd : FuncData} {C_Entry C_Within C_At C_Between C_Table C_Read C_Joint C_Sifted C_LogError C_NoEntry C_NoMoment C_NoName C_NoPlace C_NoReading C_TooMany : Addr} (F : Fun K "_law_no_place" "_law_no_place" s_l_no_place f fd) (T : Txt K mg C_Entry C_Within C_At C_Between C_Table C_Read C_Joint C_Sifted C_LogError C_NoEntry C_NoMoment C_NoName C_NoPlace C_NoReading C_TooMany)  (d_spans : MthD P ww K mg base (L2.CX P ww) simple (EC.of (EC.mk C_Entry C_Within C_At C_Between C_Read C_Joint C_Sifted)) 4 "spans" (fun k => pr2 (pE_spans K (EC.mk C_Entry C_Within C_At C_Between C_Read C_Joint C_Sifted) C_Table C_NoPlace k))) : FnOk P ww K mg base CX0 5 f fd ["_law_entry", "_law_tables"] (pr2 (p_l_no_place K (EC.mk C_Entry C_Within C_At C_Between C_Read C_Joint C_Sifted) C_Table)) := by
  refine F.ok sc_l_no_place (fun vs H Q E h => len2 h) (fun cdv A outer s H vs Q E hr h => ?_)
  obtain ⟨w, x0, x1,  rfl, rfl, h⟩ := h
  have ekT := ek_T T
  have oex_NoEntry := T.oex_NoEntry; have xf_NoEntry := T.xf_NoEntry; have ec_NoEntry := T.ec_NoEntry; have xn_NoEntry := T.xn_NoEntry
  have oex_NoMoment := T.oex_NoMoment; have xf_NoMoment := T.xf_NoMoment; have ec_NoMoment := T.ec_NoMoment; have xn_NoMoment := T.xn_NoMoment
  have oex_NoName := T.oex_NoName; have xf_NoName := T.xf_NoName; have ec_NoName := T.ec_NoName; have xn_NoName := T.xn_NoName
  have oex_NoPlace := T.oex_NoPlace; have xf_NoPlace := T.xf_NoPlace; have ec_NoPlace := T.ec_NoPlace; have xn_NoPlace := T.xn_NoPlace
  have oex_NoReading := T.oex_NoReading; have xf_NoReading := T.xf_NoReading; have ec_NoReading := T.ec_NoReading; have xn_NoReading := T.xn_NoReading
  have oex_TooMany := T.oex_TooMany; have xf_TooMany := T.xf_TooMany; have ec_TooMany := T.ec_TooMany; have xn_TooMany := T.xn_TooMany
  have rel_NoPlace_NoPlace := T.rel_NoPlace_NoPlace
  have rel_NoPlace_ValueError := T.rel_NoPlace_ValueError
  have rel_NoPlace_NoEntry := T.rel_NoPlace_NoEntry
  have rel_NoPlace_NoMoment := T.rel_NoPlace_NoMoment
  have rel_NoPlace_NoName := T.rel_NoPlace_NoName
  have rel_NoPlace_NoReading := T.rel_NoPlace_NoReading
  have rel_NoPlace_TooMany := T.rel_NoPlace_TooMany
  have exm_NoPlace_LogError := T.exm_NoPlace_LogError
  refine ⟨_, (pss_cons (ps_set (i := 2) sc_l_no_place.nd rfl (Or.inl rfl) pe_non)
      (pss_cons (ps_try_keep (i := 3) rfl rfl sc_l_no_place.nd rfl rfl ⟨rfl, by decide, .inl T.g_LogError⟩ takes0 (fun W pn xe tk po => (pss_one (ps_expr (pe_mthD tk d_spans hr (by decide) (pv 0) (pa_cons (pv 1) pa_nil))))) (fun xa xo xc xd pn hz hf => (pss_one (ps_set (i := 2) sc_l_no_place.nd rfl (Or.inl rfl) (pv 3)))))
      (pss_cons (ps_if (PW.pt (pw_or (pt_not (pt_val (pe_callB (kIsiK K) (by rfl) T.n_isinstance (by decide +kernel) (pa_cons (pv 2) (pa_cons (pe_glob (v := .ref C_NoPlace) (u := .ref C_NoPlace) rfl T.g_NoPlace rfl) pa_nil))))) (pw_or1 (pt_not (pt_val (pe_callB (kIsiK K) (by rfl) T.n_isinstance (by decide +kernel) (pa_cons (pv 2) (pa_cons (pe_bltn (v := .ty "ValueError") (u := .type "ValueError") rfl T.n_ValueError (by decide +kernel) rfl) pa_nil)))))))) (pss_one (ps_ret pe_non)) pss_nil)
      (pss_cons (ps_if (pt_val (pe_callB (kIsiKT K) (by rfl) T.n_isinstance (by decide +kernel) (pa_cons (pv 2) (pa_cons (pe_tup (pa_cons (pe_glob (v := .ref C_NoEntry) (u := .ref C_NoEntry) rfl T.g_NoEntry rfl) (pa_cons (pe_glob (v := .ref C_NoMoment) (u := .ref C_NoMoment) rfl T.g_NoMoment rfl) (pa_cons (pe_glob (v := .ref C_NoName) (u := .ref C_NoName) rfl T.g_NoName rfl) (pa_cons (pe_glob (v := .ref C_NoReading) (u := .ref C_NoReading) rfl T.g_NoReading rfl) (pa_cons (pe_glob (v := .ref C_TooMany) (u := .ref C_TooMany) rfl T.g_TooMany rfl) pa_nil)))))) pa_nil)))) (pss_one (ps_ret pe_non)) pss_nil)
      (pss_one (ps_ret (pe_xk (pv 2)))))))), ?_⟩
  rw [st_l_no_place]
  obtain ⟨e, T, hS, ok, hpl, hT, hg, k⟩ := h
  obtain ⟨_, x, dx, rfl, sx⟩ := id hS
  obtain ⟨t, kvs, rfl, rt, ta⟩ := id hT
  wtm_at "gs"
  refine s_rmethD e.k ok.1 (w.ok _ _ sx) (fld_spans e).1 ?_
  wtm_at "gs"
  refine ⟨e, T, rfl, hS, ok, fun _ => hT, fun h => absurd (h hpl) (by rw [hg]; rintro ⟨R, h⟩; cases h), fun _ _ v ex ev n o => ?_⟩
  refine s_wAsK exm_NoPlace_LogError fun xa hxa => ?_
  refine s_asg ?_
  refine s_var rfl ?_
  refine' s_gname ?e ?k
  case e => (simp only [List.set_cons_succ, List.set_cons_zero]; exact rfl)
  simp only [List.set_cons_succ, List.set_cons_zero]
  refine new_at hxa fun v2 e2 s2 => ?_
  have o2 : Own v2 ex _ := o.ext e2 fun z => z
  wtm_at "gs"
  rw [show (false || (false || (false || (false || (false || false))))) = false from rfl]
  wtm_at "gs"
  exact k _ (by wtm_at "ch")
abbrev s_l_fields : Stmt := top 59
abbrev nm_l_fields : List Str := ["_law_entry", "_law_spec_here", "_law_word", "_law_name", "_law_place", "_law_low", "_law_high", "_law_kinds", "_law_due"]
theorem sc_l_fields : FnScope nm_l_fields ["_law_entry", "_law_spec_here"] (defScope s_l_fields) := ⟨rfl, rfl, rfl, by decide +kernel, rfl, by decide +kernel, by decide +kernel⟩
theorem st_l_fields (a b : V) : start nm_l_fields [a, b] = [some a, some b, none, none, none, none, none, none, none] := rfl
def p_l_fields (K : PySem.W.Frag) (ec : EC) (w : Wd) (a b : V) (Q : VK) (_ : XK) : Prop := ∃ e T, SimS K ec w.S a e ∧ Rp w.S b (specD e) ∧ SpecOk e T ∧ ∀ v, Ext Non w v → Q (.bl true) v.H
theorem ok_l_fields {f : Addr} {fd : FuncData} {C_Entry C_Within C_At C_Between C_Table C_Read C_Joint C_Sifted C_LogError C_NoEntry C_NoMoment C_NoName C_NoPlace C_NoReading C_TooMany : Addr} (F : Fun K "_law_fields" "_law_fields" s_l_fields f fd) (T : Txt K mg C_Entry C_Within C_At C_Between C_Table C_Read C_Joint C_Sifted C_LogError C_NoEntry C_NoMoment C_NoName C_NoPlace C_NoReading C_TooMany) (c_l_is_number : Fnc P ww K mg base CX0 1 "_law_is_number" (pr2 (p_l_is_number))) (d_word : MthD P ww K mg base (L2.CX P ww) simple (EC.of (EC.mk C_Entry C_Within C_At C_Between C_Read C_Joint C_Sifted)) 1 "word" (fun k => pr1 (pE_word K (EC.mk C_Entry C_Within C_At C_Between C_Read C_Joint C_Sifted) k))) : FnOk P ww K mg base CX0 2 f fd ["_law_entry", "_law_spec_here"] (pr2 (p_l_fields K (EC.mk C_Entry C_Within C_At C_Between C_Read C_Joint C_Sifted))) := by
  refine F.ok sc_l_fields (fun vs H Q E h => len2 h) (fun cdv A outer s H vs Q E hr h => ?_)
  obtain ⟨w, x0, x1,  rfl, rfl, h⟩ := h
  have ekT := ek_T T
  have oex_NoEntry := T.oex_NoEntry; have xf_NoEntry := T.xf_NoEntry; have ec_NoEntry := T.ec_NoEntry; have xn_NoEntry := T.xn_NoEntry
  have oex_NoMoment := T.oex_NoMoment; have xf_NoMoment := T.xf_NoMoment; have ec_NoMoment := T.ec_NoMoment; have xn_NoMoment := T.xn_NoMoment
  have oex_NoName := T.oex_NoName; have xf_NoName := T.xf_NoName; have ec_NoName := T.ec_NoName; have xn_NoName := T.xn_NoName
  have oex_NoPlace := T.oex_NoPlace; have xf_NoPlace := T.xf_NoPlace; have ec_NoPlace := T.ec_NoPlace; have xn_NoPlace := T.xn_NoPlace
  have oex_NoReading := T.oex_NoReading; have xf_NoReading := T.xf_NoReading; have ec_NoReading := T.ec_NoReading; have xn_NoReading := T.xn_NoReading
  have oex_TooMany := T.oex_TooMany; have xf_TooMany := T.xf_TooMany; have ec_TooMany := T.ec_TooMany; have xn_TooMany := T.xn_TooMany
  have rel_NoPlace_NoPlace := T.rel_NoPlace_NoPlace
  have rel_NoPlace_ValueError := T.rel_NoPlace_ValueError
  have rel_NoPlace_NoEntry := T.rel_NoPlace_NoEntry
  have rel_NoPlace_NoMoment := T.rel_NoPlace_NoMoment
  have rel_NoPlace_NoName := T.rel_NoPlace_NoName
  have rel_NoPlace_NoReading := T.rel_NoPlace_NoReading
  have rel_NoPlace_TooMany := T.rel_NoPlace_TooMany
  have exm_NoPlace_LogError := T.exm_NoPlace_LogError
  refine ⟨_, (pss_cons (ps_asg (pv 1) (kgTup K (by rfl) (pgs_cons (pg_name (i := 2) sc_l_fields.nd rfl (Or.inl rfl)) (pgs_cons (pg_name (i := 3) sc_l_fields.nd rfl (Or.inl rfl)) (pgs_cons (pg_name (i := 4) sc_l_fields.nd rfl (Or.inl rfl)) (pgs_cons (pg_name (i := 5) sc_l_fields.nd rfl (Or.inl rfl)) (pgs_cons (pg_name (i := 6) sc_l_fields.nd rfl (Or.inl rfl)) pgs_nil)))))))
      (pss_cons (ps_if (PW.pt (pw_or (pt_cmpR (kNe K hr.units) (pe_mthD0 takes0 d_word hr (by decide) (pv 0)) (pv 2) (nomark _)) (pw_or1 (pt_cmpR (kNe K hr.units) (pe_fld (pv 0) rfl) (pv 3) (nomark _))))) (pss_one (ps_ret pe_bl)) pss_nil)
      (pss_cons (ps_set (i := 7) sc_l_fields.nd rfl (Or.inl rfl) (pe_lst (pa_cons (pe_callB (kIsi K) (by rfl) T.n_isinstance (by decide +kernel) (pa_cons (pv 0) (pa_cons (pe_glob (v := .ref C_Entry) (u := .ref C_Entry) rfl T.g_Entry rfl) pa_nil))) (pa_cons (pe_callB (kIsi K) (by rfl) T.n_isinstance (by decide +kernel) (pa_cons (pv 0) (pa_cons (pe_glob (v := .ref C_Within) (u := .ref C_Within) rfl T.g_Within rfl) pa_nil))) (pa_cons (pe_callB (kIsi K) (by rfl) T.n_isinstance (by decide +kernel) (pa_cons (pv 0) (pa_cons (pe_glob (v := .ref C_At) (u := .ref C_At) rfl T.g_At rfl) pa_nil))) (pa_cons (pe_callB (kIsi K) (by rfl) T.n_isinstance (by decide +kernel) (pa_cons (pv 0) (pa_cons (pe_glob (v := .ref C_Between) (u := .ref C_Between) rfl T.g_Between rfl) pa_nil))) pa_nil))))))
      (pss_cons (ps_set (i := 7) sc_l_fields.nd rfl (Or.inl rfl) (pe_op (kAdd K) (pv 7) (pe_lst (pa_cons (pe_callB (kIsi K) (by rfl) T.n_isinstance (by decide +kernel) (pa_cons (pv 0) (pa_cons (pe_glob (v := .ref C_Read) (u := .ref C_Read) rfl T.g_Read rfl) pa_nil))) (pa_cons (pe_callB (kIsi K) (by rfl) T.n_isinstance (by decide +kernel) (pa_cons (pv 0) (pa_cons (pe_glob (v := .ref C_Joint) (u := .ref C_Joint) rfl T.g_Joint rfl) pa_nil))) (pa_cons (pe_callB (kIsi K) (by rfl) T.n_isinstance (by decide +kernel) (pa_cons (pv 0) (pa_cons (pe_glob (v := .ref C_Sifted) (u := .ref C_Sifted) rfl T.g_Sifted rfl) pa_nil))) pa_nil))))))
      (pss_cons (ps_set (i := 8) sc_l_fields.nd rfl (Or.inl rfl) (pe_lst (pa_cons pe_bl (pa_cons (pe_cmpR (kIn K) (pv 2) (pe_tup (pa_cons pe_str (pa_cons pe_str pa_nil))) (by rfl)) (pa_cons (pe_cmpR (kEq K hr.units) (pv 2) pe_str (nomark _)) (pa_cons (pe_cmpR (kIn K) (pv 2) (pe_tup (pa_cons pe_str (pa_cons pe_str pa_nil))) (by rfl)) (pa_cons (pe_cmpR (kEq K hr.units) (pv 2) pe_str (nomark _)) (pa_cons pe_bl (pa_cons pe_bl pa_nil)))))))))
      (pss_cons (ps_if (pt_cmpR (kNe K hr.units) (pv 7) (pv 8) (nomark _)) (pss_one (ps_ret pe_bl)) pss_nil)
      (pss_cons (ps_if (PW.pt (pw_and (pt_cmpR (kIn K) (pv 2) (pe_tup (pa_cons pe_str (pa_cons pe_str pa_nil))) (by rfl)) (pw_and1 (pt_cmpR (kNe K hr.units) (pe_fld (pv 0) rfl) (pv 4) (nomark _))))) (pss_one (ps_ret pe_bl)) pss_nil)
      (pss_one (ps_ret (pe_or (pe_cmpR (kEq K hr.units) (pv 2) pe_str (nomark _)) (pe_one (pe_and (pe_fn c_l_is_number hr (by decide) pass0 (pa_cons (pe_fld (pv 0) rfl) (pa_cons (pv 5) pa_nil))) (pe_one (pe_fn c_l_is_number hr (by decide) pass0 (pa_cons (pe_fld (pv 0) rfl) (pa_cons (pv 6) pa_nil)))))))))))))))), ?_⟩
  rw [st_l_fields]
  obtain ⟨e, TT, hS, hr, ok, k⟩ := h
  obtain ⟨_, x, dx, rfl, sx⟩ := id hS
  obtain ⟨t, rfl, st⟩ := spec_inv hr
  clear hr
  obtain ⟨kd, n, p, lo, hi⟩ := e
  have hs : simple kd := ok.s
  have st : w.S t = some (.tup [.str (wordK kd), .str n, .str p, .int lo, .int hi]) := st
  have sx : w.S x = some (.ins ((EC.mk C_Entry C_Within C_At C_Between C_Read C_Joint C_Sifted).of kd) dx (fldS ⟨kd, n, p, lo, hi⟩)) := sx
  have hxe := w.ok _ _ sx
  have ecl := ekT.cl kd hs
  have hnm : (fldS ⟨kd, n, p, lo, hi⟩).lookup ("name" : Str) = some (.str n) := by
    cases kd <;> first | exact hs.elim | exact (by wtm_at "lkp")
  have kt0 := ekT.kit kd .any hs trivial
  have kt1 := ekT.kit kd .within hs trivial
  have kt2 := ekT.kit kd .att hs trivial
  have kt3 := ekT.kit kd .between hs trivial
  have kt4 := ekT.kit kd .read hs trivial
  have kt5 : PySem.W.kitOne K (.ref ((EC.mk C_Entry C_Within C_At C_Between C_Read C_Joint C_Sifted).of kd)) (.ref C_Joint) = some false := by
    cases kd <;> first | exact hs.elim | exact T.kk_Entry_Joint | exact T.kk_Within_Joint | exact T.kk_At_Joint | exact T.kk_Between_Joint | exact T.kk_Read_Joint
  have kt6 : PySem.W.kitOne K (.ref ((EC.mk C_Entry C_Within C_At C_Between C_Read C_Joint C_Sifted).of kd)) (.ref C_Sifted) = some false := by
    cases kd <;> first | exact hs.elim | exact T.kk_Entry_Sifted | exact T.kk_Within_Sifted | exact T.kk_At_Sifted | exact T.kk_Between_Sifted | exact T.kk_Read_Sifted
  wtm_at "gs"
  refine s_rmethD kd hs hxe (fld_spans ⟨kd, n, p, lo, hi⟩).2.1 ?_
  wtm_at "gs"
  refine ⟨_, rfl, hS, fun v1 e1 => ?_⟩
  have sx1 := st_go e1 sx
  have hx1 := v1.ok _ _ sx1
  wtm_at "gs"
  refine s_rfld hx1 ecl.cl ecl.name hnm ?_
  wtm_at "gs"
  refine s_isiCC hx1 ecl.cl ecl.ci kt0 ?_
  wtm_at "gs"
  refine s_isiCC hx1 ecl.cl ecl.ci kt1 ?_
  wtm_at "gs"
  refine s_isiCC hx1 ecl.cl ecl.ci kt2 ?_
  wtm_at "gs"
  refine s_isiCC hx1 ecl.cl ecl.ci kt3 ?_
  wtm_at "gs"
  rename_i p4 v2 e2 n2 s2
  have sx2 := st_go e2 sx1
  have hx2 := v2.ok _ _ sx2
  refine s_isiCC hx2 ecl.cl ecl.ci kt4 ?_
  wtm_at "gs"
  refine s_isiCC hx2 ecl.cl ecl.ci kt5 ?_
  wtm_at "gs"
  refine s_isiCC hx2 ecl.cl ecl.ci kt6 ?_
  wtm_at "gs"
  rename_i q2 v3 e3 n3 s3 q3 v4 e4 n4 s4 q4 v5 e5 n5 s5
  refine s_inTv s5 rfl rfl ?_
  wtm_at "gs"
  rename_i q5 v6 e6 n6 s6
  refine s_inTv s6 rfl rfl ?_
  wtm_at "gs"
  rename_i q6 v7 e7 n7 s7
  have ew : Ext Non v1 v7 := e2.trans (e3.trans (e4.trans (e5.trans (e6.trans e7))))
  have sx7 : v7.S x = some (.ins ((EC.mk C_Entry C_Within C_At C_Between C_Read C_Joint C_Sifted).of kd) dx (fldS ⟨kd, n, p, lo, hi⟩)) := st_go ew sx1
  have s8 : v7.S q6 = some (.lst [.bl (subK kd .any), .bl (subK kd .within), .bl (subK kd .att), .bl (subK kd .between), .bl (subK kd .read), .bl false, .bl false]) := by
    rw [s7]
    cases kd <;> first | exact hs.elim | rfl
  have s9 : v7.S q3 = some (.lst [.bl (subK kd .any), .bl (subK kd .within), .bl (subK kd .att), .bl (subK kd .between), .bl (subK kd .read), .bl false, .bl false]) := st_go (e5.trans (e6.trans e7)) s4
  refine s_neRs (d := .list [.bool (subK kd .any), .bool (subK kd .within), .bool (subK kd .att), .bool (subK kd .between), .bool (subK kd .read), .bool false, .bool false]) (by cases kd <;> first | exact hs.elim | decide) (.lst s9 (.cons (.bl _) (.cons (.bl _) (.cons (.bl _) (.cons (.bl _) (.cons (.bl _) (.cons (.bl _) (.cons (.bl _) .nil)))))))) (.lst s8 (.cons (.bl _) (.cons (.bl _) (.cons (.bl _) (.cons (.bl _) (.cons (.bl _) (.cons (.bl _) (.cons (.bl _) .nil)))))))) ?_
  have ew7 : Ext Non w v7 := e1.trans ew
  clear s9 s8 s7 s6 s5 s4 s3 s2 e7 e6 e5 e4 e3 e2 n7 n6 n5 n4 n3 n2 hx2 hx1 sx2 sx1 sx hxe kt0 kt1 kt2 kt3 kt4 kt5 kt6 hnm ew
  cases kd
  case joint => exact hs.elim
  case sifted => exact hs.elim
  case any =>
    have sx : v7.S x = some (.ins C_Entry dx [("name", V.str n)]) := sx7
    obtain ⟨cl, ci, nn, np, nl, nh, _, _, _⟩ := ecl
    change Cls K C_Entry at cl; change NoAttr K C_Entry _ at nn; change NoAttr K C_Entry _ at np; change NoAttr K C_Entry _ at nl; change NoAttr K C_Entry _ at nh
    clear sx7 hS ok st
    wtm_at "gs"
    exact k _ (by wtm_at "ch")
  case within =>
    have sx : v7.S x = some (.ins C_Within dx [("name", V.str n), ("low", V.int lo), ("high", V.int hi)]) := sx7
    obtain ⟨cl, ci, nn, np, nl, nh, _, _, _⟩ := ecl
    change Cls K C_Within at cl; change NoAttr K C_Within _ at nn; change NoAttr K C_Within _ at np; change NoAttr K C_Within _ at nl; change NoAttr K C_Within _ at nh
    clear sx7 hS ok st
    wtm_at "gs"
    refine ⟨lo, rfl, rfl, fun v8 e8 => ?_⟩
    wtm_at "gs"
    refine ⟨hi, rfl, rfl, fun v9 e9 => ?_⟩
    exact k _ (by wtm_at "ch")
  case att =>
    have sx : v7.S x = some (.ins C_At dx [("name", V.str n), ("low", V.int lo), ("high", V.int hi)]) := sx7
    obtain ⟨cl, ci, nn, np, nl, nh, _, _, _⟩ := ecl
    change Cls K C_At at cl; change NoAttr K C_At _ at nn; change NoAttr K C_At _ at np; change NoAttr K C_At _ at nl; change NoAttr K C_At _ at nh
    clear sx7 hS ok st
    wtm_at "gs"
    refine ⟨lo, rfl, rfl, fun v8 e8 => ?_⟩
    wtm_at "gs"
    refine ⟨hi, rfl, rfl, fun v9 e9 => ?_⟩
    exact k _ (by wtm_at "ch")
  case between =>
    have sx : v7.S x = some (.ins C_Between dx [("name", V.str n), ("place", V.str p), ("low", V.int lo), ("high", V.int hi)]) := sx7
    obtain ⟨cl, ci, nn, np, nl, nh, _, _, _⟩ := ecl
    change Cls K C_Between at cl; change NoAttr K C_Between _ at nn; change NoAttr K C_Between _ at np; change NoAttr K C_Between _ at nl; change NoAttr K C_Between _ at nh
    clear sx7 hS ok st
    wtm_at "gs"
    refine ⟨lo, rfl, rfl, fun v8 e8 => ?_⟩
    wtm_at "gs"
    refine ⟨hi, rfl, rfl, fun v9 e9 => ?_⟩
    exact k _ (by wtm_at "ch")
  case read =>
    have sx : v7.S x = some (.ins C_Read dx [("name", V.str n), ("place", V.str p), ("low", V.int lo), ("high", V.int hi)]) := sx7
    obtain ⟨cl, ci, nn, np, nl, nh, _, _, _⟩ := ecl
    change Cls K C_Read at cl; change NoAttr K C_Read _ at nn; change NoAttr K C_Read _ at np; change NoAttr K C_Read _ at nl; change NoAttr K C_Read _ at nh
    clear sx7 hS ok st
    wtm_at "gs"
    refine ⟨lo, rfl, rfl, fun v8 e8 => ?_⟩
    wtm_at "gs"
    refine ⟨hi, rfl, rfl, fun v9 e9 => ?_⟩
    exact k _ (by wtm_at "ch")
abbrev s_l_right : Stmt := top 60
abbrev nm_l_right : List Str := ["_law_spec_here", "_law_tables", "_law_others", "_law_entry", "_law_tabled", "_law_due", "_law_turn", "_law_found", "_law_places", "_law_place"]
theorem sc_l_right : FnScope nm_l_right ["_law_spec_here", "_law_tables", "_law_others"] (defScope s_l_right) := ⟨rfl, rfl, rfl, by decide +kernel, rfl, by decide +kernel, by decide +kernel⟩
theorem st_l_right (a b c : V) : start nm_l_right [a, b, c] = [some a, some b, some c, none, none, none, none, none, none, none] := rfl
def p_l_right (K : PySem.W.Frag) (ec : EC) (C : Addr) (w : Wd) (a b c : V) (Q : VK) (_ : XK) : Prop := ∃ e T td kvs z, Rp w.S a (specD e) ∧ SpecOk e T ∧ b = .ref td ∧ Own w td (.dK kvs) ∧ TbL w.S kvs T ∧ (T.map (·.1)).Nodup ∧ T.length < 60 ∧ (∀ y ∈ T, NmOk y.1) ∧ c = .str z ∧ z ∉ T.map (·.1) ∧
  ∀ v, Ext (One td) w v → Own v td (.dK kvs) → Q (.bl true) v.H
theorem ok_l_right {f : Addr} {fd : FuncData} {C_Entry C_Within C_At C_Between C_Table C_Read C_Joint C_Sifted C_LogError C_NoEntry C_NoMoment C_NoName C_NoPlace C_NoReading C_TooMany : Addr} (F : Fun K "_law_right" "_law_right" s_l_right f fd) (T : Txt K mg C_Entry C_Within C_At C_Between C_Table C_Read C_Joint C_Sifted C_LogError C_NoEntry C_NoMoment C_NoName C_NoPlace C_NoReading C_TooMany) (c_Table_init : Mkr P ww K mg base CX0 C_Table 5 (pr2 (p_Table_init C_Table))) (c_l_fields : Fnc P ww K mg base CX0 2 "_law_fields" (pr2 (p_l_fields K (EC.mk C_Entry C_Within C_At C_Between C_Read C_Joint C_Sifted)))) (c_l_made : Fnc P ww K mg base CX0 7 "_law_made" (pr1 (p_l_made K (EC.mk C_Entry C_Within C_At C_Between C_Read C_Joint C_Sifted)))) (c_l_no_place : Fnc P ww K mg base CX0 5 "_law_no_place" (pr2 (p_l_no_place K (EC.mk C_Entry C_Within C_At C_Between C_Read C_Joint C_Sifted) C_Table))) (c_l_same : Fnc P ww K mg base CX0 1 "_law_same" (pr2 (p_l_same))) (c_l_spans : Fnc P ww K mg base CX0 3 "_law_spans" (pr2 (p_l_spans))) (d_places : MthD P ww K mg base (L2.CX P ww) simple (EC.of (EC.mk C_Entry C_Within C_At C_Between C_Read C_Joint C_Sifted)) 1 "places" (fun k => pr1 (pE_places K (EC.mk C_Entry C_Within C_At C_Between C_Read C_Joint C_Sifted) k))) (d_spans : MthD P ww K mg base (L2.CX P ww) simple (EC.of (EC.mk C_Entry C_Within C_At C_Between C_Read C_Joint C_Sifted)) 4 "spans" (fun k => pr2 (pE_spans K (EC.mk C_Entry C_Within C_At C_Between C_Read C_Joint C_Sifted) C_Table C_NoPlace k))) : FnOk P ww K mg base CX0 8 f fd ["_law_spec_here", "_law_tables", "_law_others"] (pr3 (p_l_right K (EC.mk C_Entry C_Within C_At C_Between C_Read C_Joint C_Sifted) C_Table)) := by
  refine F.ok sc_l_right (fun vs H Q E h => len3 h) (fun cdv A outer s H vs Q E hr h => ?_)
  obtain ⟨w, x0, x1, x2,  rfl, rfl, h⟩ := h
  have ekT := ek_T T
  have cl_Table := T.cl_Table
  have na_Table_kept_rows := T.na_Table_kept_rows
  have oex_NoEntry := T.oex_NoEntry; have xf_NoEntry := T.xf_NoEntry; have ec_NoEntry := T.ec_NoEntry; have xn_NoEntry := T.xn_NoEntry
  have oex_NoMoment := T.oex_NoMoment; have xf_NoMoment := T.xf_NoMoment; have ec_NoMoment := T.ec_NoMoment; have xn_NoMoment := T.xn_NoMoment
  have oex_NoName := T.oex_NoName; have xf_NoName := T.xf_NoName; have ec_NoName := T.ec_NoName; have xn_NoName := T.xn_NoName
  have oex_NoPlace := T.oex_NoPlace; have xf_NoPlace := T.xf_NoPlace; have ec_NoPlace := T.ec_NoPlace; have xn_NoPlace := T.xn_NoPlace
  have oex_NoReading := T.oex_NoReading; have xf_NoReading := T.xf_NoReading; have ec_NoReading := T.ec_NoReading; have xn_NoReading := T.xn_NoReading
  have oex_TooMany := T.oex_TooMany; have xf_TooMany := T.xf_TooMany; have ec_TooMany := T.ec_TooMany; have xn_TooMany := T.xn_TooMany
  have rel_NoPlace_NoPlace := T.rel_NoPlace_NoPlace
  have rel_NoPlace_ValueError := T.rel_NoPlace_ValueError
  have rel_NoPlace_NoEntry := T.rel_NoPlace_NoEntry
  have rel_NoPlace_NoMoment := T.rel_NoPlace_NoMoment
  have rel_NoPlace_NoName := T.rel_NoPlace_NoName
  have rel_NoPlace_NoReading := T.rel_NoPlace_NoReading
  have rel_NoPlace_TooMany := T.rel_NoPlace_TooMany
  have exm_NoPlace_LogError := T.exm_NoPlace_LogError
  refine ⟨_, (pss_cons (ps_set (i := 3) sc_l_right.nd rfl (Or.inl rfl) (pe_fn c_l_made hr (by decide) pass0 (pa_cons (pv 0) pa_nil)))
      (pss_cons (ps_set (i := 4) sc_l_right.nd rfl (Or.inl rfl) (pe_callTy (kDictP K rfl) (by rfl) T.n_dict (by decide +kernel) (pa_cons (pe_lock (pe_lc (own := [("_law_place", 9)]) (g := (gName 9)) (tt := tYes) (by rfl) sc_l_right.nd (pi_keys (pv 1)) (blkOk_by (own := [("_law_place", 9)]) (N := nm_l_right) (sc := defScope s_l_right) (by decide +kernel)) (fun _ _ _ _ _ => (pg_name (i := 9) sc_l_right.nd rfl (Or.inl rfl))) (fun _ _ _ _ _ => pts_nil) (fun _ _ _ _ _ => (pe_tup (pa_cons (pv 9) (pa_cons (pe_mk c_Table_init hr (by decide) T.g_Table pass0 (pa_cons (pe_callTy (kList K) (by rfl) T.n_list (by decide +kernel) (pa_cons (pe_dget (hu_of hr) (pv 1) (pv 9) (fun _ _ => rfl)) pa_nil)) pa_nil)) pa_nil)))))) pa_nil)))
      (pss_cons (ps_set (i := 5) sc_l_right.nd rfl (Or.inl rfl) (pe_fn c_l_spans hr (by decide) pass0 (pa_cons (pv 0) (pa_cons (pv 1) pa_nil))))
      (pss_cons (ps_for PassesOwn.never rfl (pi_range1 rfl T.n_range (pa_cons pe_int pa_nil)) (pg_name (i := 6) sc_l_right.nd rfl (Or.inl rfl)) (pss_cons (ps_set (i := 7) sc_l_right.nd rfl (Or.inl rfl) (pe_mthD takes0 d_spans hr (by decide) (pv 3) (pa_cons (pv 4) pa_nil)))
      (pss_cons (ps_if (pt_not (pt_val (pe_fn c_l_same hr (by decide) pass0 (pa_cons (pv 7) (pa_cons (pv 5) pa_nil))))) (pss_one (ps_ret pe_bl)) pss_nil)
      (pss_one (ps_expr (pe_bm PySem.F.plainAttrs_list PySem.F.slot_list_append PySem.F.type_list_append mt_append (pv 7) (pa_cons (pe_tup (pa_cons pe_int (pa_cons pe_int pa_nil))) pa_nil)))))))
      (pss_cons (ps_set (i := 8) sc_l_right.nd rfl (Or.inl rfl) (pe_ix (kIx K) (pe_lst (pa_cons (pe_lst pa_nil) (pa_cons (pe_lst (pa_cons (pe_ix (kIx K) (pv 0) pe_int (fun _ _ => rfl)) pa_nil)) pa_nil))) (pe_callTy g_int (by rfl) T.n_int (by decide +kernel) (pa_cons (pe_cmpR (kNe K hr.units) (pe_ix (kIx K) (pv 0) pe_int (fun _ _ => rfl)) pe_str (nomark _)) pa_nil)) (fun _ _ => rfl)))
      (pss_cons (ps_set (i := 7) sc_l_right.nd rfl (Or.inl rfl) (pe_mthD0 takes0 d_places hr (by decide) (pv 3)))
      (pss_cons (ps_if (PW.pt (pw_or (pt_not (pt_val (pe_callB (kIsi K) (by rfl) T.n_isinstance (by decide +kernel) (pa_cons (pv 7) (pa_cons (pe_bltn (v := .ty "list") (u := .type "list") rfl T.n_list (by decide +kernel) rfl) pa_nil))))) (pw_or1 (pt_cmpR (kNe K hr.units) (pv 7) (pv 8) (nomark _))))) (pss_one (ps_ret pe_bl)) pss_nil)
      (pss_cons (ps_expr (pe_bm PySem.F.plainAttrs_list PySem.F.slot_list_append PySem.F.type_list_append mt_append (pv 7) (pa_cons pe_str pa_nil)))
      (pss_cons (ps_if (PW.pt (pw_or (pt_cmpR (kNe K hr.units) (pe_mthD0 takes0 d_places hr (by decide) (pv 3)) (pv 8) (nomark _)) (pw_or (pt_cmpR (kNe K hr.units) (pe_callB (kSortDT rfl) (by rfl) T.n_sorted (by decide +kernel) (pa_cons (pv 4) pa_nil)) (pe_callB (kSortDT rfl) (by rfl) T.n_sorted (by decide +kernel) (pa_cons (pv 1) pa_nil)) (nomark _)) (pw_or1 (pt_not (pt_val (pe_fn c_l_fields hr (by decide) pass0 (pa_cons (pv 3) (pa_cons (pv 0) pa_nil))))))))) (pss_one (ps_ret pe_bl)) pss_nil)
      (pss_cons (ps_if (pt_cmpR (kEq K hr.units) (pe_ix (kIx K) (pv 0) pe_int (fun _ _ => rfl)) pe_str (nomark _)) (pss_one (ps_ret (pe_fn c_l_same hr (by decide) pass0 (pa_cons (pe_mthD takes0 d_spans hr (by decide) (pv 3) (pa_cons pe_dnewK pa_nil)) (pa_cons (pv 5) pa_nil))))) pss_nil)
      (pss_cons (ps_expr (pe_dpop1 (pv 4) (pe_ix (kIx K) (pv 0) pe_int (fun _ _ => rfl)) ⟨rfl, by rfl, rfl, rfl⟩))
      (pss_cons (ps_dput (hu_of hr) (pv 4) (pv 2) (pe_mk c_Table_init hr (by decide) T.g_Table pass0 (pa_cons (pe_lst (pa_cons (pe_tup (pa_cons pe_int (pa_cons pe_int pa_nil))) pa_nil)) pa_nil)) rfl)
      (pss_one (ps_ret (pe_and (pe_cmpR (kEq K hr.units) (pe_fn c_l_no_place hr (by decide) pass0 (pa_cons (pv 3) (pa_cons (pv 4) pa_nil))) (pe_ix (kIx K) (pv 0) pe_int (fun _ _ => rfl)) (nomark _)) (pe_one (pe_cmpR (kEq K hr.units) (pe_fn c_l_no_place hr (by decide) pass0 (pa_cons (pv 3) (pa_cons pe_dnewK pa_nil))) (pe_ix (kIx K) (pv 0) pe_int (fun _ _ => rfl)) (nomark _)))))))))))))))))), ?_⟩
  rw [st_l_right]
  obtain ⟨e, T, td, kvs, z, hr, ok, rfl, o, htl, hnd, hTl, hTn, rfl, hz, k⟩ := h
  have hlen := DicR.len htl
  wtm_at "gs"
  refine ⟨e, T, hr, ok, fun v1 r1 e1 hS => ?_⟩
  wtm_at "gs"
  refine s_lockE (show Own v1 td (.dK kvs) from o.ext e1 fun z => z) fun od v2 e2 o2 => ?_
  have o1 : Own v1 td (.dK kvs) := o.ext e1 fun z => z
  have tl2 : TbL v2.S kvs T := (htl.go e1).go e2
  refine s_Lc ?_
  unfold iKeys
  wtm_at "gs"
  refine ⟨td, od, rfl, .inl ⟨kvs, o2.h, ?_⟩⟩
  intro D hD
  have hDt : td ≠ D := o2.ne hD
  refine lc_rel (rows := T) ww_keys (PairT C_Table) PairT.go T Non (fun _ => True) hD (fun z => z) (by omega) (by rw [sizeLine_eq]; omega) (fun _ _ => trivial) (fun _ _ _ _ => trivial) (fun i u x v _ _ y => by obtain ⟨rfl, _⟩ := y; exact ⟨Ext.refl _ _, trivial⟩) (fun u e _ => (o2.ext e (by rintro (h | h); exact h; exact hDt h)).h) ?_ ?_
  · rintro i x b _ v hi ⟨rfl, kk, y, hk, rfl⟩ hb ev ev2 _ R Z hR
    have o3 : Own v td _ := o2.ext ev (by rintro (h | h); exact h; exact hDt h)
    obtain ⟨y0, R0, rfl, hT0, hRp, hok0⟩ := DicR.at (tl2.go ev) hk
    rw [hb] at hT0
    cases hT0
    obtain ⟨q, vs, rfl, sq, ra⟩ := hRp.list_inv
    dsimp only [kV]
    have hdg : DGet v.H td (.str y0) (some (.ref q)) := by
      have := dgetR (.inr ⟨od, o3.h⟩) (.inr y0)
      rw [valV_at (DicR.nodup tl2 hnd) hk] at this
      exact this
    wtm_at "gs"
    refine ⟨rfl, s_yes (ite_tt ?_)⟩
    wtm_at "gs"
    refine ⟨td, _, rfl, hdg, ?_⟩
    wtm_at "gs"
    rename_i q4 v4 e4 n4 s4
    refine s_rmake fun x dx v5 e5 n5 o5 => s_pm2 ⟨x, dx, R0, rfl, o5, .lst (st_go e5 s4) ((ra.go e4).go e5), hok0, fun v6 e6 ht => ⟨rfl, ?_⟩⟩
    have e46 : Ext Non v v6 := (e4.trans e5).step e6 fun b hb => .inl (by rw [show b = x from hb]; exact e4.back n5)
    clear e4 e5 e6 n4 n5 o5
    wtm_at "gs"
    rename_i t7 v7 e7 n7 s7
    exact hR _ _ (e46.trans e7) trivial ⟨t7, _, rfl, s7, TbS.go e7 ht, hok0⟩
  · intro u acc eu _ hD' oD hall
    have o2u : Own u td _ := o2.ext eu fun z => z
    refine ⟨o2u.h, ?_⟩
    refine put (R := fun H => tNil _ H _) o2u fun v3 e3 o3 => ?_
    have hall3 := hall.mono fun x b p => PairT.go _ _ _ _ _ e3 p
    obtain ⟨kv2, htb, hps⟩ := pairs_T hall3
    obtain ⟨ps, rfl, hpr⟩ := pairs_of (K := K) (H := v3.H) (fun x b ⟨p, h1, h2⟩ => ⟨p, h1, sqt_of h2⟩) hps
    have oD3 : Own v3 D _ := oD.ext e3 fun h => hDt h.symm
    have nwD : w.H D = none := e1.back (e2.back hD)
    have ew3 : Ext (One td) w v3 := (e1.more fun _ z => z.elim).trans (e2.trans ((eu.more fun _ z => z.elim).trans e3))
    have hS3 := (((hS.go e2).go eu).go e3)
    clear e1 e2 eu e3 oD hall hall3 hps hS o2 o1 tl2 o
    wtm_at "gs"
    refine s_dictP (SqL.of oD3.h) hpr (by rw [DicR.keys htb]; exact List.Pairwise.map _ (fun a b hab e => hab (Sum.inr.inj e)) hnd) fun tb v4 e4 n4 o4 => ?_
    have htb4 := TbA.go e4 htb
    have o34 : Own v4 td _ := o3.ext e4 fun z => z
    have hS4 := hS3.go e4
    have ew4 : Ext (One td) w v4 := ew3.trans (e4.more fun _ z => z.elim)
    have hr4 : Rp v4.S x0 (specD e) := hr.go ew4
    have tl4 : TbL v4.S kvs T := htl.go ew4
    have hne : td ≠ tb := o3.ne n4
    have nwtb : w.H tb = none := ew3.back n4
    clear e4 n4 htb hpr o3 hS3 ew3 oD3 hr htl
    wtm_at "gs"
    refine ⟨e, T, hr4, ok, ⟨td, kvs, rfl, .inr o34, tl4⟩, fun v5 r5 us R e5 n5 o5 ra5 ⟨hsp5, hin5⟩ => ?_⟩
    obtain ⟨t, rfl, st4⟩ := spec_inv hr4
    obtain ⟨_, x, dx, rfl, sx4⟩ := id hS4
    have htx := (fld_spans e)
    have otb5 : Own v5 tb (.dK kv2) := o4.ext e5 fun z => z
    have o35 : Own v5 td (.dK kvs) := o34.ext e5 fun z => z
    have tb5 : TbA C_Table v5.S kv2 T := TbA.go e5 htb4
    have tl5 : TbL v5.S kvs T := tl4.go e5
    have hS5 := hS4.go e5
    have hr5 := hr4.go e5
    have st5 := st_go e5 st4
    have sx5 := st_go e5 sx4
    have ew5 : Ext (One td) w v5 := ew4.trans (e5.more fun _ z => z.elim)
    have hpT : placed e.k → ∃ R, getT T e.p = some R := fun h => (ok.pl h).2.1
    clear e5 n5 o4 o34 htb4 tl4 hS4 hr4 st4 sx4 ew4
    wtm_at "gs"
    refine forW (ww_range (lo := 0) (m := 2)) (fun i σ u => Ext Non v5 u ∧ ∃ g6 g7, σ = [some (.ref t), some (.ref td), some (.str z), some (.ref x), some (.ref tb), some (.ref r5), g6, g7, none, none]) ⟨Ext.refl _ _, _, _, rfl⟩ (fun _ _ _ _ _ => trivial) ?_ ?_
    · rintro i y σ _ u hi ⟨eu, g6, g7, rfl⟩ ⟨rfl, rfl⟩
      wtm_at "gs"
      refine s_rmethD e.k ok.s (u.ok _ _ (st_go eu sx5)) htx.1 ?_
      wtm_at "gs"
      refine ⟨e, T, rfl, hS5.go eu, ok.ok, fun _ => ⟨tb, kv2, rfl, .inr (otb5.ext eu fun z => z), TbA.go eu tb5⟩, fun _ v6 r6 us6 R6 e6 n6 o6 ra6 ⟨h61, h6l, h62⟩ => ?_, fun hp hg => absurd hg (by obtain ⟨R, h⟩ := hpT hp; rw [h]; exact fun z => by cases z)⟩
      have hRR : R6 = R := canon h61 hsp5 fun n => (h62 n).trans (hin5 n).symm
      subst hRR
      have hu6 := ra6.length
      rw [List.length_map] at hu6
      wtm_at "gs"
      refine ⟨R6, ⟨r6, us6, rfl, .inr o6, ra6⟩, ⟨r5, us, rfl, .inr ((o5.ext eu fun z => z).ext e6 fun z => z), (ra5.go eu).go e6⟩, fun v7 e7 => ?_⟩
      have o7 : Own v7 r6 _ := o6.ext e7 fun z => z
      have e67 : Ext Non v5 v7 := eu.trans (e6.trans e7)
      have n67 : v5.H r6 = none := eu.back n6
      clear e6 e7 n6 o6 ra6
      wtm_at "gs"
      rename_i t8 v8 e8 n8 s8 v9 e9 o9
      exact ⟨(e67.trans e8).step e9 fun b hb => .inl (by rw [show b = r6 from hb]; exact n67), _, _, rfl⟩
    · rintro σ u ⟨eu, g6, g7, rfl⟩
      wtm_at "gs"
      rename_i l1 v1 f1 m1 s1 l2 v2' f2 m2 s2 l3 v3' f3 m3 s3
      have hpe : decide (e.p ≠ Str.ofString "") = decide (placed e.k) := by
        by_cases hpl : placed e.k
        · have hne2 : e.p ≠ Str.ofString "" := fun h => (ok.pl hpl).1.2.1 (by rw [h]; decide +kernel)
          rw [decide_eq_true hpl, decide_eq_true hne2]
        · rw [decide_eq_false hpl, decide_eq_false (fun h => h (ok.np hpl).1)]
      rw [hpe]
      obtain ⟨zs, hzs, hzok, hzl⟩ : ∃ zs : List Str, plV e = zs.map V.str ∧ (∀ z ∈ zs, PyData.strOk z = true) ∧ zs.length ≤ 1 := by
        by_cases hpl : placed e.k
        · exact ⟨[e.p], pl_yes hpl, fun z hz => by rw [List.mem_singleton.mp hz]; exact ((ok.pl hpl).1.tx).ok, Nat.le_refl _⟩
        · exact ⟨[], pl_no hpl, (fun z hz => by cases hz), by decide⟩
      refine s_ixB s3 fun z0 h0 h1 => ?_
      obtain ⟨q, rfl, sq⟩ : ∃ q, z0 = .ref q ∧ v3'.S q = some (.lst (zs.map V.str)) := by
        by_cases hpl : placed e.k
        · exact ⟨l2, h1 (decide_eq_true hpl), by rw [← hzs, pl_yes hpl]; exact st_go f3 s2⟩
        · exact ⟨l1, h0 (decide_eq_false hpl), by rw [← hzs, pl_no hpl]; exact st_go f3 (st_go f2 s1)⟩
      have e53 : Ext Non v5 v3' := eu.trans (f1.trans (f2.trans f3))
      clear h0 h1 f1 f2 f3 s1 s2 s3 m1 m2 m3 eu
      wtm_at "gs"
      refine s_rmethD e.k ok.s (v3'.ok _ _ (st_go e53 sx5)) htx.2.2 ?_
      wtm_at "gs"
      refine ⟨e, rfl, hS5.go e53, fun v8 r8 e8 n8 o8 => ?_⟩
      rw [hzs] at o8
      have hml : (zs.map V.str).length ≤ 1 := by rw [List.length_map]; exact hzl
      wtm_at "gs"
      refine s_neLs (shaped_strs hzok) (.inr o8) (rpa_strs zs) (.inl (st_go e8 sq)) (rpa_strs zs) ?_
      wtm_at "gs"
      rename_i v9 e9 o9
      have nr8 : v5.H r8 = none := e53.back n8
      have e59 : Ext Non v5 v9 := (e53.trans e8).step e9 fun b hb => .inl (by rw [show b = r8 from hb]; exact nr8)
      have sq9 : v9.S q = some (.lst (zs.map V.str)) := st_go e9 (st_go e8 sq)
      clear e53 e8 e9 n8 o8 o9 sq nr8
      refine s_rmethD e.k ok.s (v9.ok _ _ (st_go e59 sx5)) htx.2.2 ?_
      wtm_at "gs"
      refine ⟨e, rfl, hS5.go e59, fun v10 r10 e10 n10 o10 => ?_⟩
      rw [hzs] at o10
      wtm_at "gs"
      refine s_neLs (shaped_strs hzok) (.inr o10) (rpa_strs zs) (.inl (st_go e10 sq9)) (rpa_strs zs) ?_
      have e510 : Ext Non v5 v10 := e59.trans e10
      have otb10 : Own v10 tb (.dK kv2) := otb5.ext e510 fun z => z
      have otd10 : Own v10 td (.dK kvs) := o35.ext e510 fun z => z
      clear e59 e10 n10 o10
      wtm_at "gs"
      refine s_sortDT otb10.h (DicR.keys (TbA.go e510 tb5)) (by rw [List.length_map]; omega) fun ys1 p1 v11 hp1 hs1 e11 n11 s11 => ?_
      wtm_at "gs"
      refine s_sortDT (Own.h (otd10.ext e11 fun z => z)) (DicR.keys (tl5.go (e510.trans e11))) (by rw [List.length_map]; omega) fun ys2 p2 v12 hp2 hs2 e12 n12 s12 => ?_
      have hyy : ys1 = ys2 := sortedS_uniq hs1 hs2 (hp1.trans hp2.symm)
      subst hyy
      have hyok : ∀ z ∈ ys1, PyData.strOk z = true := fun z hz => by
        obtain ⟨y, hy, rfl⟩ := List.mem_map.mp (hp1.mem_iff.mp hz)
        exact ((hTn y hy).tx).ok
      refine s_neLs (shaped_strs hyok) (.inl (st_go e12 s11)) (rpa_strs ys1) (.inl s12) (rpa_strs ys1) ?_
      have e512 : Ext Non v5 v12 := e510.trans (e11.trans e12)
      clear e510 e11 e12 n11 s11 n12 s12 otb10 otd10
      wtm_at "gs"
      refine ⟨e, T, hS5.go e512, hr5.go e512, ok, fun v13 e13 => ?_⟩
      have e513 : Ext Non v5 v13 := e512.trans e13
      have st13 := st_go e513 st5
      have otb13 : Own v13 tb (.dK kv2) := otb5.ext e513 fun z => z
      have otd13 : Own v13 td (.dK kvs) := o35.ext e513 fun z => z
      have o13 : Own v13 r5 (.lst us) := o5.ext e513 fun z => z
      have ra13 := ra5.go e513
      have hS13 := hS5.go e513
      have sx13 := st_go e513 sx5
      have tb13 := TbA.go e513 tb5
      have ew13 : Ext (One td) w v13 := ew5.trans (e513.more fun _ z => z.elim)
      clear e512 e13 e513 sq9 st5 otb5 o35 o5 ra5 hS5 sx5 tb5 tl5 hr5 ew5
      wtm_at "gs"
      by_cases hpl : placed e.k
      · have hpn : e.p ≠ Str.ofString "" := fun h => (ok.pl hpl).1.2.1 (by rw [h]; decide +kernel)
        rw [decide_eq_false hpn]
        obtain ⟨R0, hR0⟩ := hpT hpl
        obtain ⟨y0, hy0, _, _⟩ := DicR.hit tb13 hR0
        wtm_at "gs"
        refine s_dp ?_
        wtm_at "gs"
        refine s_gdp otb13 ?_
        wtm_at "gs"
        refine s_gdp2 otb13 hy0 fun v14 e14 o14 => ?_
        wtm_at "gs"
        rename_i t15 v15 e15 n15 s15 l16 v16 e16 n16 s16
        have hok0 : TabOk [((0 : Int), (0 : Int))] := ⟨by simp, by decide, ⟨by decide, by decide, by decide, by decide⟩, rfl, trivial⟩
        refine s_rmake fun xt dxt v17 e17 n17 o17 => s_pm2 ⟨xt, dxt, [(0, 0)], rfl, o17, .lst (st_go e17 s16) (.cons (.tup (st_go e17 (st_go e16 s15)) (.cons (.int _) (.cons (.int _) .nil))) .nil), hok0, fun v18 e18 ht => ⟨rfl, ?_⟩⟩
        have e1417 : Ext Non v14 v17 := e15.trans (e16.trans e17)
        have e1418 : Ext Non v14 v18 := e1417.step e18 fun b hb => .inl (by rw [show b = xt from hb]; exact (e15.trans e16).back n17)
        have o18 : Own v18 tb _ := o14.ext e1418 fun z => z
        have htb18 : TbA C_Table v18.S (dropK kv2 (.inr e.p)) (dropT T e.p) := TbA.go e1418 (TbA.go e14 (DicR.drop tb13))
        have e1318 : Ext (One tb) v13 v18 := e14.trans (e1418.more fun _ z => z.elim)
        have hgz : getT (dropT T e.p) z = none := getT_none.mpr fun h => hz (by
          obtain ⟨p, hp, rfl⟩ := List.mem_map.mp h
          exact List.mem_map_of_mem (List.mem_filter.mp hp).1)
        have hlk : (dropK kv2 (.inr e.p)).length < sizeLine := by
          have h1 := DicR.len htb18
          have h2 : (dropT T e.p).length ≤ T.length := List.length_filter_le _ _
          rw [sizeLine_eq]
          omega
        have hput := DicR.putN htb18 hgz ⟨ht, hok0⟩
        have hgp : getT (dropT T e.p ++ [(z, [((0 : Int), (0 : Int))])]) e.p = none := getT_none.mpr fun h => by
          rw [List.map_append, List.mem_append] at h
          rcases h with h | h
          · exact getT_none.mp (getT_drop (T := T) (z := e.p)) h
          · have : e.p = z := by simpa using h
            exact hz (by rw [← this]; exact List.mem_map_of_mem (f := (·.1)) (getT_sub hR0))
        clear e14 e15 e16 e17 e18 n15 n16 n17 o14 o17 s15 s16 e1417 e1418
        have hS18 := hS13.go e1318
        have st18 := st_go e1318 st13
        have ne : tb ≠ td := hne.symm
        have otd18 : Own v18 td (.dK kvs) := otd13.ext e1318 hne
        wtm_at "gs"
        refine s_dputS o18 rfl hlk fun v19 e19 o19 => ?_
        wtm_at "gs"
        refine ⟨e, _, hS18.go e19, ok.ok, hpl, ⟨tb, _, rfl, .inr o19, TbA.go e19 hput⟩, hgp, fun v20 e20 => ?_⟩
        have st20 := st_go e20 (st_go e19 st18)
        have hS20 := (hS18.go e19).go e20
        have e1320 : Ext (One tb) v13 v20 := e1318.trans (e19.trans (e20.more fun _ z => z.elim))
        have otd20 : Own v20 td (.dK kvs) := otd13.ext e1320 hne
        clear e19 e20 e1318 otd18 st18 hS18 hput htb18 o18 o19
        wtm_at "gs"
        rw [decide_eq_true rfl]
        wtm_at "gs"
        rename_i t21 v21 e21 n21 s21
        refine ⟨e, [], hS20.go e21, ok.ok, hpl, ⟨t21, [], rfl, .inl s21, .nil⟩, rfl, fun v22 e22 => ?_⟩
        have st22 := st_go e22 (st_go e21 st20)
        have otd22 : Own v22 td (.dK kvs) := (otd20.ext e21 fun z => z).ext e22 fun z => z
        have ew22 : Ext (One td) w v22 := ((ew13.step e1320 fun b hb => .inl (by rw [show b = tb from hb]; exact nwtb)).step (e21.trans e22) fun _ z => z.elim)
        clear e21 e22
        wtm_at "gs"
        rw [decide_eq_true rfl]
        exact k _ ew22 otd22
      · rw [decide_eq_true (ok.np hpl).1]
        wtm_at "gs"
        refine s_rmethD e.k ok.s (v13.ok _ _ sx13) htx.1 ?_
        wtm_at "gs"
        rename_i t21 v21 e21 n21 s21
        refine ⟨e, T, rfl, hS13.go e21, ok.ok, fun h => absurd h hpl, fun _ v22 r22 us22 R22 e22 n22 o22 ra22 ⟨h1, h2, h3⟩ => ?_, fun h => absurd h hpl⟩
        have hRR : R22 = R := canon h1 hsp5 fun n => (h3 n).trans (hin5 n).symm
        subst hRR
        have e1322 : Ext Non v13 v22 := e21.trans e22
        have o1322 : Own v22 r5 (.lst us) := o13.ext e1322 fun z => z
        have ra1322 := ra13.go e1322
        wtm_at "gs"
        refine ⟨R22, ⟨r22, us22, rfl, .inr o22, ra22⟩, ⟨r5, us, rfl, .inr o1322, ra1322⟩, fun v23 e23 => ?_⟩
        exact k _ ((ew13.step e1322 fun _ z => z.elim).step e23 fun _ z => z.elim) ((otd13.ext e1322 fun z => z).ext e23 fun z => z)
abbrev s_law : Stmt := top 61
abbrev nm_law : List Str := ["_law_script", "_law_k", "_law_state", "_law_names_here", "_law_tables", "_law_place", "_law_turn", "_law_spec_here"]
theorem sc_law : FnScope nm_law ["_law_script"] (defScope s_law) := ⟨rfl, rfl, rfl, by decide +kernel, rfl, by decide +kernel, by decide +kernel⟩
theorem st_law (a : V) : start nm_law [a] = [some a, none, none, none, none, none, none, none] := rfl
def p_law (K : PySem.W.Frag) (w : Wd) (a : V) (Q : VK) (_ : XK) : Prop := Scr K w a ∧ ∀ v, Ext Non w v → Q (.bl true) v.H
theorem ok_law {f : Addr} {fd : FuncData} {C_Entry C_Within C_At C_Between C_Table C_Read C_Joint C_Sifted C_LogError C_NoEntry C_NoMoment C_NoName C_NoPlace C_NoReading C_TooMany : Addr} (F : Fun K "law" "law" s_law f fd) (T : Txt K mg C_Entry C_Within C_At C_Between C_Table C_Read C_Joint C_Sifted C_LogError C_NoEntry C_NoMoment C_NoName C_NoPlace C_NoReading C_TooMany) (c_l_begun : Fnc P ww K mg base CX0 1 "_law_begun" (pr1 (p_l_begun))) (c_l_cell : Fnc P ww K mg base CX0 1 "_law_cell" (pr2 (p_l_cell K))) (c_l_names : Fnc P ww K mg base CX0 3 "_law_names" (pr2 (p_l_names))) (c_l_pull : Fnc P ww K mg base CX0 2 "_law_pull" (pr2 (p_l_pull))) (c_l_right : Fnc P ww K mg base CX0 8 "_law_right" (pr3 (p_l_right K (EC.mk C_Entry C_Within C_At C_Between C_Read C_Joint C_Sifted) C_Table))) (c_l_rows : Fnc P ww K mg base CX0 4 "_law_rows" (pr1 (p_l_rows))) (c_l_spec : Fnc P ww K mg base CX0 4 "_law_spec" (pr4 (p_l_spec))) : FnOk P ww K mg base CX0 9 f fd ["_law_script"] (pr1 (p_law K)) := by
  refine F.ok sc_law (fun vs H Q E h => len1 h) (fun cdv A outer s H vs Q E hr h => ?_)
  obtain ⟨w, x0,  rfl, rfl, h⟩ := h
  have ekT := ek_T T
  have oex_NoEntry := T.oex_NoEntry; have xf_NoEntry := T.xf_NoEntry; have ec_NoEntry := T.ec_NoEntry; have xn_NoEntry := T.xn_NoEntry
  have oex_NoMoment := T.oex_NoMoment; have xf_NoMoment := T.xf_NoMoment; have ec_NoMoment := T.ec_NoMoment; have xn_NoMoment := T.xn_NoMoment
  have oex_NoName := T.oex_NoName; have xf_NoName := T.xf_NoName; have ec_NoName := T.ec_NoName; have xn_NoName := T.xn_NoName
  have oex_NoPlace := T.oex_NoPlace; have xf_NoPlace := T.xf_NoPlace; have ec_NoPlace := T.ec_NoPlace; have xn_NoPlace := T.xn_NoPlace
  have oex_NoReading := T.oex_NoReading; have xf_NoReading := T.xf_NoReading; have ec_NoReading := T.ec_NoReading; have xn_NoReading := T.xn_NoReading
  have oex_TooMany := T.oex_TooMany; have xf_TooMany := T.xf_TooMany; have ec_TooMany := T.ec_TooMany; have xn_TooMany := T.xn_TooMany
  have rel_NoPlace_NoPlace := T.rel_NoPlace_NoPlace
  have rel_NoPlace_ValueError := T.rel_NoPlace_ValueError
  have rel_NoPlace_NoEntry := T.rel_NoPlace_NoEntry
  have rel_NoPlace_NoMoment := T.rel_NoPlace_NoMoment
  have rel_NoPlace_NoName := T.rel_NoPlace_NoName
  have rel_NoPlace_NoReading := T.rel_NoPlace_NoReading
  have rel_NoPlace_TooMany := T.rel_NoPlace_TooMany
  have exm_NoPlace_LogError := T.exm_NoPlace_LogError
  refine ⟨_, (pss_cons (ps_for PassesOwn.never rfl (pi_range1 rfl T.n_range (pa_cons (pe_callB (kMax K rfl) (by rfl) T.n_max (by decide +kernel) (pa_cons pe_int (pa_cons (pe_callB (kMin K rfl) (by rfl) T.n_min (by decide +kernel) (pa_cons pe_int (pa_cons (pe_callB (kLen K) (by rfl) T.n_len (by decide +kernel) (pa_cons (pv 0) pa_nil)) pa_nil))) pa_nil))) pa_nil)) (pg_name (i := 1) sc_law.nd rfl (Or.inl rfl)) (pss_cons (ps_set (i := 2) sc_law.nd rfl (Or.inl rfl) (pe_fn c_l_begun hr (by decide) pass0 (pa_cons (pe_fn c_l_cell hr (by decide) pass0 (pa_cons (pv 0) (pa_cons (pv 1) pa_nil))) pa_nil)))
      (pss_cons (ps_set (i := 3) sc_law.nd rfl (Or.inl rfl) (pe_fn c_l_names hr (by decide) pass0 (pa_cons (pv 2) (pa_cons pe_int pa_nil))))
      (pss_cons (ps_set (i := 4) sc_law.nd rfl (Or.inl rfl) pe_dnewK)
      (pss_cons (ps_for PassesOwn.never rfl (kpList K (pe_slice (kSl K) (pv 3) po_none (po_some (pe_op (kAdd K) pe_int (pe_fn c_l_pull hr (by decide) pass0 (pa_cons (pv 2) (pa_cons pe_int pa_nil))))))) (pg_name (i := 5) sc_law.nd rfl (Or.inl rfl)) (pss_one (ps_dput (hu_of hr) (pv 4) (pv 5) (pe_fn c_l_rows hr (by decide) pass0 (pa_cons (pv 2) pa_nil)) rfl)))
      (pss_one (ps_for PassesOwn.never rfl (pi_range1 rfl T.n_range (pa_cons pe_int pa_nil)) (pg_name (i := 6) sc_law.nd rfl (Or.inl rfl)) (pss_cons (ps_set (i := 7) sc_law.nd rfl (Or.inl rfl) (pe_fn c_l_spec hr (by decide) pass0 (pa_cons (pv 2) (pa_cons (pe_ix (kIx K) (pv 3) pe_int (fun _ _ => rfl)) (pa_cons (pe_callTy (kListDK rfl) (by rfl) T.n_list (by decide +kernel) (pa_cons (pv 4) pa_nil)) (pa_cons (pv 4) pa_nil))))))
      (pss_one (ps_if (pt_not (pt_val (pe_fn c_l_right hr (by decide) pass0 (pa_cons (pv 7) (pa_cons (pv 4) (pa_cons (pe_ix (kIx K) (pv 3) pe_int (fun _ _ => rfl)) pa_nil)))))) (pss_one (ps_ret pe_bl)) pss_nil))))))))))
      (pss_one (ps_ret pe_bl))), ?_⟩
  rw [st_law]
  obtain ⟨sc, k⟩ := h
  have sc0 := sc
  obtain ⟨a, ns, rfl, hs, hl⟩ := sc
  have hs' : SqL K w.H a (ns.map V.int) := w.ok.seq hs
  wtm_at "go"
  refine s_lenK hs' ?_
  rw [List.length_map]
  wtm_at "go"
  refine forW (ww_range (lo := 0) (m := _)) (fun i σ u => Ext Non w u ∧ ∃ a1 a2 a3 a4 a5 a6 a7, σ = [some (.ref a), a1, a2, a3, a4, a5, a6, a7]) ⟨Ext.refl _ _, _, _, _, _, _, _, _, rfl⟩ (fun _ _ _ _ _ => trivial) ?_ ?_
  · rintro i x σ _ u hi ⟨eu, a1, a2, a3, a4, a5, a6, a7, rfl⟩ ⟨rfl, rfl⟩
    wtm_at "go"
    refine ⟨_, sc0.go eu, rfl, by omega, fun v z ev => ?_⟩
    wtm_at "go"
    refine ⟨_, rfl, fun v2 p e2 n2 pu => ?_⟩
    wtm_at "go"
    refine ⟨p, 5, rfl, rfl, pu, by decide, by decide, fun v3 q zs e3 pu3 s3 ⟨hzl, hzn, hzd⟩ => ?_⟩
    obtain ⟨z0, z1, z2, z3, z4, rfl⟩ : ∃ z0 z1 z2 z3 z4, zs = [z0, z1, z2, z3, z4] := by
      match zs, hzl with
      | [z0, z1, z2, z3, z4], _ => exact ⟨z0, z1, z2, z3, z4, rfl⟩
    have hnd := hzd (by decide)
    have ew3 : Ext (One p) w v3 := ((eu.trans ev).trans e2).more (fun _ z => z.elim) |>.trans e3
    have npw : w.H p = none := (eu.trans ev).back n2
    have sc3 : Scr K v3 (.ref a) := sc0.go ew3
    clear eu ev e2 e3 n2 pu
    wtm_at "go"
    rename_i td v4 e4 n4 o4 v5 d5 e5 pu5 h50 h51
    wtm_at "gs"
    rename_i l6 v6 e6 n6 s6
    rw [cut_mapT (by omega)] at s6
    have hnp : td ≠ p := (stt_new n4 pu3)
    have o6 : Own v6 td (.dK []) := (o4.ext e5 hnp).ext e6 fun z => z
    have pu6 : Stt v6 p := pu5.go e6 fun z => z
    have e36 : Ext (One p) v3 v6 := (e4.more fun _ z => z.elim).trans (e5.trans (e6.more fun _ z => z.elim))
    have ew6 : Ext (One p) w v6 := ew3.trans e36
    have nwt : w.H td = none := ew3.back n4
    have sc6 := sc3.go e36
    have s36 := st_go e36 s3
    obtain ⟨nn, hnn, hnn1, hnn2⟩ : ∃ nn : Nat, (1 + d5).toNat = nn ∧ 1 ≤ nn ∧ nn ≤ 3 := ⟨_, rfl, by omega, by omega⟩
    rw [hnn] at s6
    clear e4 e5 e6 e36 ew3 s3 sc3 pu3 pu5 o4 n4
    have hlen6 : ((([z0, z1, z2, z3, z4] : List Str).take nn).map V.str).length = nn := by rw [List.length_map, List.length_take]; simp; omega
    refine forW (ww_list (xs := _)) (fun j σ u => Ext (Two p td) v6 u ∧ Stt u p ∧ ∃ kvs T g5, σ = [some (.ref a), some (.int (0 + ((i : Nat) : Int))), some (.ref p), some (.ref q), some (.ref td), g5, a6, a7] ∧ Own u td (.dK kvs) ∧ TbL u.S kvs T ∧ T.map (·.1) = ([z0, z1, z2, z3, z4] : List Str).take j) ⟨Ext.refl _ _, pu6, [], [], _, rfl, o6, .nil, rfl⟩ (fun j σ u _ hh => sql_of (st_go hh.1 s6)) ?_ ?_
    · rintro j x σ _ u hj ⟨eu, puu, kvs, T, g5, rfl, ou, tl, hT⟩ ⟨rfl, hx⟩
      rw [hlen6] at hj
      have hx2 : ∃ zj, ([z0, z1, z2, z3, z4] : List Str)[j]? = some zj ∧ x = .str zj := by
        rw [List.getElem?_map, List.getElem?_take, if_pos hj] at hx
        obtain ⟨zj, h1, h2⟩ := Option.map_eq_some_iff.mp hx
        exact ⟨zj, h1, h2.symm⟩
      obtain ⟨zj, hzj, rfl⟩ := hx2
      have hgn : getT T zj = none := getT_none.mpr fun h => by
        rw [hT] at h
        obtain ⟨m, hm⟩ := List.mem_iff_getElem?.mp h
        rw [List.getElem?_take] at hm
        split at hm
        · rename_i hmj
          obtain ⟨h1, e1⟩ := List.getElem?_eq_some_iff.mp hm
          obtain ⟨h2, e2⟩ := List.getElem?_eq_some_iff.mp hzj
          exact (List.pairwise_iff_getElem.mp hnd m j h1 h2 hmj) (e1.trans e2.symm)
        · cases hm
      wtm_at "gs"
      refine ⟨p, rfl, puu, fun v7 r7 R7 e7 pu7 hr7 hok7 => ?_⟩
      have o7 : Own v7 td (.dK kvs) := ou.ext e7 hnp
      have hlT : T.length ≤ 5 := by
        have := congrArg List.length hT
        rw [List.length_map, List.length_take] at this
        simp at this
        omega
      have hlk := DicR.len tl
      wtm_at "gs"
      refine s_dputS o7 rfl (by rw [sizeLine_eq]; omega) fun v8 e8 o8 => ?_
      have tl8 := DicR.putN (tl.go e7) hgn ⟨hr7, hok7⟩
      wtm_at "gs"
      refine ⟨(eu.trans (e7.more fun b hb => .inr (.inl hb))).trans (e8.more fun b hb => .inr (.inr hb)), pu7.go e8 (fun h => hnp h.symm), _, T ++ [(zj, R7)], _, rfl, o8, TbL.go e8 tl8, ?_⟩
      rw [List.map_append, hT, List.take_add_one, hzj]
      rfl
    · rintro σ u ⟨eu, puu, kvs, T, g5, rfl, ou, tl, hT⟩
      rw [hlen6] at hT
      have scu := sc6.go eu
      have su := st_go eu s36
      have ewu : Ext (One p) w u := ew6.step eu fun b hb => hb.elim .inr fun h => .inl (by rw [h]; exact nwt)
      have hlT : T.length = nn := by
        have := congrArg List.length hT
        rw [List.length_map, List.length_take] at this
        simp at this
        omega
      have hTn : ∀ y ∈ T, NmOk y.1 := fun y hy => by
        have h1 : y.1 ∈ T.map (·.1) := List.mem_map_of_mem hy
        rw [hT] at h1
        exact hzn _ (List.mem_of_mem_take h1)
      have hTd : (T.map (·.1)).Nodup := by rw [hT]; exact hnd.sublist (List.take_sublist _ _)
      have hz3 : z3 ∉ T.map (·.1) := fun h => by
        rw [hT] at h
        obtain ⟨m, hm⟩ := List.mem_iff_getElem?.mp h
        rw [List.getElem?_take] at hm
        split at hm
        · rename_i hmj
          obtain ⟨h1, e1⟩ := List.getElem?_eq_some_iff.mp hm
          exact (List.pairwise_iff_getElem.mp hnd m 3 h1 (by simp) (by omega)) (by rw [e1]; rfl)
        · cases hm
      clear eu s36 sc6 ew6 s6 pu6 o6
      wtm_at "gs"
      refine forW (ww_range (lo := 0) (m := 3)) (fun j σ v => Ext (Two p td) u v ∧ Stt v p ∧ Own v td (.dK kvs) ∧ ∃ g6 g7, σ = [some (.ref a), some (.int (0 + ((i : Nat) : Int))), some (.ref p), some (.ref q), some (.ref td), g5, g6, g7]) ⟨Ext.refl _ _, puu, ou, _, _, rfl⟩ (fun _ _ _ _ _ => trivial) ?_ ?_
      · rintro j x σ _ v hj ⟨ev, puv, ov, g6, g7, rfl⟩ ⟨rfl, rfl⟩
        have sv := st_go ev su
        wtm_at "gs"
        refine s_listDK ov fun l9 v9 e9 n9 s9 => ?_
        have hkk : (kvs.map fun kv => kV kv.1) = (T.map (·.1)).map V.str := by
          have h1 := DicR.keys tl
          have h2 : (kvs.map fun kv => kV kv.1) = (kvs.map (·.1)).map kV := by rw [List.map_map]; rfl
          rw [h2, h1, List.map_map]
          rfl
        rw [hkk] at s9
        have tlv : TbL v.S kvs T := TbL.go ev tl
        wtm_at "gs"
        refine ⟨p, z4, l9, T, rfl, puv.go e9 fun z => z, rfl, hzn z4 (by simp), rfl, s9, ⟨td, kvs, rfl, .inr (ov.ext e9 fun z => z), TbL.go e9 tlv⟩, fun h => by rw [h] at hlT; simp at hlT; omega, by omega, hTn, fun v10 r10 e e10 pu10 hr10 ok10 hen => ?_⟩
        have ov10 : Own v10 td (.dK kvs) := (ov.ext e9 fun z => z).ext e10 hnp
        wtm_at "gs"
        refine ⟨e, T, td, kvs, z3, hr10, ok10, rfl, ov10, TbL.go e10 (TbL.go e9 tlv), hTd, by omega, hTn, rfl, hz3, fun v11 e11 o11 => ?_⟩
        wtm_at "gs"
        exact ⟨(ev.trans (e9.more fun _ z => z.elim)).trans ((e10.more fun b hb => .inr (.inl hb)).trans (e11.more fun b hb => .inr (.inr hb))), pu10.go e11 (fun h => hnp h.symm), o11, _, _, rfl⟩
      · rintro σ v ⟨ev, puv, ov, g6, g7, rfl⟩
        wtm_at "gs"
        exact ⟨ewu.step ev (fun b hb => hb.elim .inr fun h => .inl (by rw [h]; exact nwt)) |>.more (fun b hb => .inl (by rw [show b = p from hb]; exact npw)), _, _, _, _, _, _, _, rfl⟩
  · rintro σ u ⟨eu, a1, a2, a3, a4, a5, a6, a7, rfl⟩
    wtm_at "go"
    exact k u eu
theorem law_in {K : PySem.W.Frag} {H : Hp} {a : Addr} {ns : List Int} {E : XK} (hl : ns.length ≤ 63) (hS : SqL K H a (ns.map V.int)) : p_law K ⟨H, H, fun _ _ h => h⟩ (.ref a) (fun v _ => v = .bl true) E := ⟨⟨a, ns, rfl, hS, hl⟩, fun _ _ => rfl⟩
end
theorem all_mk {l : PySem.W.OpenLaw} {ww : World} {K : PySem.W.Frag} {h : Heap} {mg : Str → Option Value} {fa : Addr} (X : K.In h) (G : h.Ns mainGlobals mg) (hfa : mg "law" = some (.ref fa))
    {C_Entry : Addr} (g_Entry : PySem.W.nsIn K mainGlobals "Entry" = some (some (.ref C_Entry))) (pg_Entry : PySem.W.plainGet K C_Entry Str.empty = true) (hd_Entry : PySem.W.hasDictIn K C_Entry = true) (po_Entry : PySem.W.plainOver K C_Entry = true)
    (sa_Entry : PySem.W.findIn K (.ref C_Entry) "__setattr__" = some (some (.builtin "object.__setattr__"))) (mk_Entry : PySem.W.makesIn K C_Entry = true) (kc_Entry : PySem.W.keepIn K (.ref C_Entry) = true)
    (ia_Entry : PySem.W.findIn K (.ref C_Entry) "__class__" = some (some (.builtin "object.__class__"))) (ib_Entry : PySem.W.specialIn K (.builtin "object.__class__") "__get__" = some (some (.builtin "getset_descriptor.__get__"))) (ic_Entry : PySem.W.takesIn K (.builtin "object.__class__") = some true) (id_Entry : PySem.W.mroIn K C_Entry (.type "object") = some true)
    (na_Entry_high : PySem.W.findIn K (.ref C_Entry) "high" = some none)
    (na_Entry_keeps : PySem.W.findIn K (.ref C_Entry) "keeps" = some none)
    (na_Entry_known : PySem.W.findIn K (.ref C_Entry) "known" = some none)
    (na_Entry_low : PySem.W.findIn K (.ref C_Entry) "low" = some none)
    (na_Entry_name : PySem.W.findIn K (.ref C_Entry) "name" = some none)
    (na_Entry_part : PySem.W.findIn K (.ref C_Entry) "part" = some none)
    (na_Entry_place : PySem.W.findIn K (.ref C_Entry) "place" = some none)
    {C_Within : Addr} (g_Within : PySem.W.nsIn K mainGlobals "Within" = some (some (.ref C_Within))) (pg_Within : PySem.W.plainGet K C_Within Str.empty = true) (hd_Within : PySem.W.hasDictIn K C_Within = true) (po_Within : PySem.W.plainOver K C_Within = true)
    (sa_Within : PySem.W.findIn K (.ref C_Within) "__setattr__" = some (some (.builtin "object.__setattr__"))) (mk_Within : PySem.W.makesIn K C_Within = true) (kc_Within : PySem.W.keepIn K (.ref C_Within) = true)
    (ia_Within : PySem.W.findIn K (.ref C_Within) "__class__" = some (some (.builtin "object.__class__"))) (ib_Within : PySem.W.specialIn K (.builtin "object.__class__") "__get__" = some (some (.builtin "getset_descriptor.__get__"))) (ic_Within : PySem.W.takesIn K (.builtin "object.__class__") = some true) (id_Within : PySem.W.mroIn K C_Within (.type "object") = some true)
    (na_Within_high : PySem.W.findIn K (.ref C_Within) "high" = some none)
    (na_Within_keeps : PySem.W.findIn K (.ref C_Within) "keeps" = some none)
    (na_Within_known : PySem.W.findIn K (.ref C_Within) "known" = some none)
    (na_Within_low : PySem.W.findIn K (.ref C_Within) "low" = some none)
    (na_Within_name : PySem.W.findIn K (.ref C_Within) "name" = some none)
    (na_Within_part : PySem.W.findIn K (.ref C_Within) "part" = some none)
    (na_Within_place : PySem.W.findIn K (.ref C_Within) "place" = some none)
    {C_At : Addr} (g_At : PySem.W.nsIn K mainGlobals "At" = some (some (.ref C_At))) (pg_At : PySem.W.plainGet K C_At Str.empty = true) (hd_At : PySem.W.hasDictIn K C_At = true) (po_At : PySem.W.plainOver K C_At = true)
    (sa_At : PySem.W.findIn K (.ref C_At) "__setattr__" = some (some (.builtin "object.__setattr__"))) (mk_At : PySem.W.makesIn K C_At = true) (kc_At : PySem.W.keepIn K (.ref C_At) = true)
    (ia_At : PySem.W.findIn K (.ref C_At) "__class__" = some (some (.builtin "object.__class__"))) (ib_At : PySem.W.specialIn K (.builtin "object.__class__") "__get__" = some (some (.builtin "getset_descriptor.__get__"))) (ic_At : PySem.W.takesIn K (.builtin "object.__class__") = some true) (id_At : PySem.W.mroIn K C_At (.type "object") = some true)
    (na_At_high : PySem.W.findIn K (.ref C_At) "high" = some none)
    (na_At_keeps : PySem.W.findIn K (.ref C_At) "keeps" = some none)
    (na_At_known : PySem.W.findIn K (.ref C_At) "known" = some none)
    (na_At_low : PySem.W.findIn K (.ref C_At) "low" = some none)
    (na_At_name : PySem.W.findIn K (.ref C_At) "name" = some none)
    (na_At_part : PySem.W.findIn K (.ref C_At) "part" = some none)
    (na_At_place : PySem.W.findIn K (.ref C_At) "place" = some none)
    {C_Between : Addr} (g_Between : PySem.W.nsIn K mainGlobals "Between" = some (some (.ref C_Between))) (pg_Between : PySem.W.plainGet K C_Between Str.empty = true) (hd_Between : PySem.W.hasDictIn K C_Between = true) (po_Between : PySem.W.plainOver K C_Between = true)
    (sa_Between : PySem.W.findIn K (.ref C_Between) "__setattr__" = some (some (.builtin "object.__setattr__"))) (mk_Between : PySem.W.makesIn K C_Between = true) (kc_Between : PySem.W.keepIn K (.ref C_Between) = true)
    (ia_Between : PySem.W.findIn K (.ref C_Between) "__class__" = some (some (.builtin "object.__class__"))) (ib_Between : PySem.W.specialIn K (.builtin "object.__class__") "__get__" = some (some (.builtin "getset_descriptor.__get__"))) (ic_Between : PySem.W.takesIn K (.builtin "object.__class__") = some true) (id_Between : PySem.W.mroIn K C_Between (.type "object") = some true)
    (na_Between_high : PySem.W.findIn K (.ref C_Between) "high" = some none)
    (na_Between_keeps : PySem.W.findIn K (.ref C_Between) "keeps" = some none)
    (na_Between_known : PySem.W.findIn K (.ref C_Between) "known" = some none)
    (na_Between_low : PySem.W.findIn K (.ref C_Between) "low" = some none)
    (na_Between_name : PySem.W.findIn K (.ref C_Between) "name" = some none)
    (na_Between_part : PySem.W.findIn K (.ref C_Between) "part" = some none)
    (na_Between_place : PySem.W.findIn K (.ref C_Between) "place" = some none)
    {C_Table : Addr} (g_Table : PySem.W.nsIn K mainGlobals "Table" = some (some (.ref C_Table))) (pg_Table : PySem.W.plainGet K C_Table Str.empty = true) (hd_Table : PySem.W.hasDictIn K C_Table = true) (po_Table : PySem.W.plainOver K C_Table = true)
    (sa_Table : PySem.W.findIn K (.ref C_Table) "__setattr__" = some (some (.builtin "object.__setattr__"))) (mk_Table : PySem.W.makesIn K C_Table = true) (kc_Table : PySem.W.keepIn K (.ref C_Table) = true)
    (na_Table_kept_rows : PySem.W.findIn K (.ref C_Table) "kept_rows" = some none)
    {C_Read : Addr} (g_Read : PySem.W.nsIn K mainGlobals "Read" = some (some (.ref C_Read))) (pg_Read : PySem.W.plainGet K C_Read Str.empty = true) (hd_Read : PySem.W.hasDictIn K C_Read = true) (po_Read : PySem.W.plainOver K C_Read = true)
    (sa_Read : PySem.W.findIn K (.ref C_Read) "__setattr__" = some (some (.builtin "object.__setattr__"))) (mk_Read : PySem.W.makesIn K C_Read = true) (kc_Read : PySem.W.keepIn K (.ref C_Read) = true)
    (ia_Read : PySem.W.findIn K (.ref C_Read) "__class__" = some (some (.builtin "object.__class__"))) (ib_Read : PySem.W.specialIn K (.builtin "object.__class__") "__get__" = some (some (.builtin "getset_descriptor.__get__"))) (ic_Read : PySem.W.takesIn K (.builtin "object.__class__") = some true) (id_Read : PySem.W.mroIn K C_Read (.type "object") = some true)
    (na_Read_high : PySem.W.findIn K (.ref C_Read) "high" = some none)
    (na_Read_keeps : PySem.W.findIn K (.ref C_Read) "keeps" = some none)
    (na_Read_known : PySem.W.findIn K (.ref C_Read) "known" = some none)
    (na_Read_low : PySem.W.findIn K (.ref C_Read) "low" = some none)
    (na_Read_name : PySem.W.findIn K (.ref C_Read) "name" = some none)
    (na_Read_part : PySem.W.findIn K (.ref C_Read) "part" = some none)
    (na_Read_place : PySem.W.findIn K (.ref C_Read) "place" = some none)
    {C_Joint : Addr} (g_Joint : PySem.W.nsIn K mainGlobals "Joint" = some (some (.ref C_Joint))) (pg_Joint : PySem.W.plainGet K C_Joint Str.empty = true) (hd_Joint : PySem.W.hasDictIn K C_Joint = true) (po_Joint : PySem.W.plainOver K C_Joint = true)
    (sa_Joint : PySem.W.findIn K (.ref C_Joint) "__setattr__" = some (some (.builtin "object.__setattr__"))) (mk_Joint : PySem.W.makesIn K C_Joint = true) (kc_Joint : PySem.W.keepIn K (.ref C_Joint) = true)
    (ia_Joint : PySem.W.findIn K (.ref C_Joint) "__class__" = some (some (.builtin "object.__class__"))) (ib_Joint : PySem.W.specialIn K (.builtin "object.__class__") "__get__" = some (some (.builtin "getset_descriptor.__get__"))) (ic_Joint : PySem.W.takesIn K (.builtin "object.__class__") = some true) (id_Joint : PySem.W.mroIn K C_Joint (.type "object") = some true)
    (na_Joint_high : PySem.W.findIn K (.ref C_Joint) "high" = some none)
    (na_Joint_keeps : PySem.W.findIn K (.ref C_Joint) "keeps" = some none)
    (na_Joint_known : PySem.W.findIn K (.ref C_Joint) "known" = some none)
    (na_Joint_low : PySem.W.findIn K (.ref C_Joint) "low" = some none)
    (na_Joint_name : PySem.W.findIn K (.ref C_Joint) "name" = some none)
    (na_Joint_part : PySem.W.findIn K (.ref C_Joint) "part" = some none)
    (na_Joint_place : PySem.W.findIn K (.ref C_Joint) "place" = some none)
    {C_Sifted : Addr} (g_Sifted : PySem.W.nsIn K mainGlobals "Sifted" = some (some (.ref C_Sifted))) (pg_Sifted : PySem.W.plainGet K C_Sifted Str.empty = true) (hd_Sifted : PySem.W.hasDictIn K C_Sifted = true) (po_Sifted : PySem.W.plainOver K C_Sifted = true)
    (sa_Sifted : PySem.W.findIn K (.ref C_Sifted) "__setattr__" = some (some (.builtin "object.__setattr__"))) (mk_Sifted : PySem.W.makesIn K C_Sifted = true) (kc_Sifted : PySem.W.keepIn K (.ref C_Sifted) = true)
    (ia_Sifted : PySem.W.findIn K (.ref C_Sifted) "__class__" = some (some (.builtin "object.__class__"))) (ib_Sifted : PySem.W.specialIn K (.builtin "object.__class__") "__get__" = some (some (.builtin "getset_descriptor.__get__"))) (ic_Sifted : PySem.W.takesIn K (.builtin "object.__class__") = some true) (id_Sifted : PySem.W.mroIn K C_Sifted (.type "object") = some true)
    (na_Sifted_high : PySem.W.findIn K (.ref C_Sifted) "high" = some none)
    (na_Sifted_keeps : PySem.W.findIn K (.ref C_Sifted) "keeps" = some none)
    (na_Sifted_known : PySem.W.findIn K (.ref C_Sifted) "known" = some none)
    (na_Sifted_low : PySem.W.findIn K (.ref C_Sifted) "low" = some none)
    (na_Sifted_name : PySem.W.findIn K (.ref C_Sifted) "name" = some none)
    (na_Sifted_part : PySem.W.findIn K (.ref C_Sifted) "part" = some none)
    (na_Sifted_place : PySem.W.findIn K (.ref C_Sifted) "place" = some none)
    {C_LogError : Addr} (g_LogError : PySem.W.nsIn K mainGlobals "LogError" = some (some (.ref C_LogError))) (rd_LogError : PySem.W.readsIn K C_LogError (.type "type") = true)
    (gs_LogError : PySem.W.specialIn K (.ref C_LogError) "__getattribute__" = some (some (.builtin "type.__getattribute__"))) (vv_LogError : PySem.W.findCls K (.ref C_LogError) (.type "type") "__init__" = some (.val (.builtin "ValueError.__init__")))
    (xp : PySem.W.specialIn K (.builtin "object.__class__") "__get__" = some (some (.builtin "getset_descriptor.__get__"))) (xq : PySem.W.takesIn K (.builtin "object.__class__") = some true)
    {C_NoEntry : Addr} (g_NoEntry : PySem.W.nsIn K mainGlobals "NoEntry" = some (some (.ref C_NoEntry)))
    {nm_NoEntry q_NoEntry : Str} {N_NoEntry : Addr} {bs_NoEntry : List Value} {sn_NoEntry : List Str} {su_NoEntry : List Value} {ab_NoEntry : Bool} {co_NoEntry : Option Bool} {dd_NoEntry : Option Addr} {m0_NoEntry m1_NoEntry m2_NoEntry m3_NoEntry m5_NoEntry : Option Value}
    (xl_NoEntry : K.lookup C_NoEntry = some (excClassObj nm_NoEntry q_NoEntry C_NoEntry N_NoEntry bs_NoEntry [.ref C_LogError, .type "ValueError", .type "Exception", .type "BaseException", .type "object"] true sn_NoEntry su_NoEntry ab_NoEntry co_NoEntry dd_NoEntry m0_NoEntry m1_NoEntry m2_NoEntry m3_NoEntry m5_NoEntry "ValueError.__new__"))
    (xs_NoEntry : PySem.W.findIn K (.ref C_NoEntry) "__setattr__" = some (some (.builtin "object.__setattr__"))) (xe_NoEntry : PySem.W.subIn K (.ref C_NoEntry) (.type "BaseException") = some true) (xt_NoEntry : PySem.W.typeIn K (.ref C_NoEntry) = some (.type "type")) (xk_NoEntry : PySem.W.keepIn K (.ref C_NoEntry) = true)
    (xg_NoEntry : PySem.W.findIn K (.ref C_NoEntry) "__getattribute__" = some (some (.builtin "BaseException.__getattribute__"))) (xh_NoEntry : PySem.W.findIn K (.ref C_NoEntry) "__getattr__" = some none) (xd_NoEntry : PySem.W.hasDictIn K C_NoEntry = true) (xc_NoEntry : PySem.W.findIn K (.ref C_NoEntry) "__class__" = some (some (.builtin "object.__class__"))) (xo_NoEntry : PySem.W.mroIn K C_NoEntry (.type "object") = some true) (xn_NoEntry : PySem.W.findIn K (.ref C_NoEntry) "found" = some none)
    {C_NoMoment : Addr} (g_NoMoment : PySem.W.nsIn K mainGlobals "NoMoment" = some (some (.ref C_NoMoment)))
    {nm_NoMoment q_NoMoment : Str} {N_NoMoment : Addr} {bs_NoMoment : List Value} {sn_NoMoment : List Str} {su_NoMoment : List Value} {ab_NoMoment : Bool} {co_NoMoment : Option Bool} {dd_NoMoment : Option Addr} {m0_NoMoment m1_NoMoment m2_NoMoment m3_NoMoment m5_NoMoment : Option Value}
    (xl_NoMoment : K.lookup C_NoMoment = some (excClassObj nm_NoMoment q_NoMoment C_NoMoment N_NoMoment bs_NoMoment [.ref C_LogError, .type "ValueError", .type "Exception", .type "BaseException", .type "object"] true sn_NoMoment su_NoMoment ab_NoMoment co_NoMoment dd_NoMoment m0_NoMoment m1_NoMoment m2_NoMoment m3_NoMoment m5_NoMoment "ValueError.__new__"))
    (xs_NoMoment : PySem.W.findIn K (.ref C_NoMoment) "__setattr__" = some (some (.builtin "object.__setattr__"))) (xe_NoMoment : PySem.W.subIn K (.ref C_NoMoment) (.type "BaseException") = some true) (xt_NoMoment : PySem.W.typeIn K (.ref C_NoMoment) = some (.type "type")) (xk_NoMoment : PySem.W.keepIn K (.ref C_NoMoment) = true)
    (xg_NoMoment : PySem.W.findIn K (.ref C_NoMoment) "__getattribute__" = some (some (.builtin "BaseException.__getattribute__"))) (xh_NoMoment : PySem.W.findIn K (.ref C_NoMoment) "__getattr__" = some none) (xd_NoMoment : PySem.W.hasDictIn K C_NoMoment = true) (xc_NoMoment : PySem.W.findIn K (.ref C_NoMoment) "__class__" = some (some (.builtin "object.__class__"))) (xo_NoMoment : PySem.W.mroIn K C_NoMoment (.type "object") = some true) (xn_NoMoment : PySem.W.findIn K (.ref C_NoMoment) "found" = some none)
    {C_NoName : Addr} (g_NoName : PySem.W.nsIn K mainGlobals "NoName" = some (some (.ref C_NoName)))
    {nm_NoName q_NoName : Str} {N_NoName : Addr} {bs_NoName : List Value} {sn_NoName : List Str} {su_NoName : List Value} {ab_NoName : Bool} {co_NoName : Option Bool} {dd_NoName : Option Addr} {m0_NoName m1_NoName m2_NoName m3_NoName m5_NoName : Option Value}
    (xl_NoName : K.lookup C_NoName = some (excClassObj nm_NoName q_NoName C_NoName N_NoName bs_NoName [.ref C_LogError, .type "ValueError", .type "Exception", .type "BaseException", .type "object"] true sn_NoName su_NoName ab_NoName co_NoName dd_NoName m0_NoName m1_NoName m2_NoName m3_NoName m5_NoName "ValueError.__new__"))
    (xs_NoName : PySem.W.findIn K (.ref C_NoName) "__setattr__" = some (some (.builtin "object.__setattr__"))) (xe_NoName : PySem.W.subIn K (.ref C_NoName) (.type "BaseException") = some true) (xt_NoName : PySem.W.typeIn K (.ref C_NoName) = some (.type "type")) (xk_NoName : PySem.W.keepIn K (.ref C_NoName) = true)
    (xg_NoName : PySem.W.findIn K (.ref C_NoName) "__getattribute__" = some (some (.builtin "BaseException.__getattribute__"))) (xh_NoName : PySem.W.findIn K (.ref C_NoName) "__getattr__" = some none) (xd_NoName : PySem.W.hasDictIn K C_NoName = true) (xc_NoName : PySem.W.findIn K (.ref C_NoName) "__class__" = some (some (.builtin "object.__class__"))) (xo_NoName : PySem.W.mroIn K C_NoName (.type "object") = some true) (xn_NoName : PySem.W.findIn K (.ref C_NoName) "found" = some none)
    {C_NoPlace : Addr} (g_NoPlace : PySem.W.nsIn K mainGlobals "NoPlace" = some (some (.ref C_NoPlace)))
    {nm_NoPlace q_NoPlace : Str} {N_NoPlace : Addr} {bs_NoPlace : List Value} {sn_NoPlace : List Str} {su_NoPlace : List Value} {ab_NoPlace : Bool} {co_NoPlace : Option Bool} {dd_NoPlace : Option Addr} {m0_NoPlace m1_NoPlace m2_NoPlace m3_NoPlace m5_NoPlace : Option Value}
    (xl_NoPlace : K.lookup C_NoPlace = some (excClassObj nm_NoPlace q_NoPlace C_NoPlace N_NoPlace bs_NoPlace [.ref C_LogError, .type "ValueError", .type "Exception", .type "BaseException", .type "object"] true sn_NoPlace su_NoPlace ab_NoPlace co_NoPlace dd_NoPlace m0_NoPlace m1_NoPlace m2_NoPlace m3_NoPlace m5_NoPlace "ValueError.__new__"))
    (xs_NoPlace : PySem.W.findIn K (.ref C_NoPlace) "__setattr__" = some (some (.builtin "object.__setattr__"))) (xe_NoPlace : PySem.W.subIn K (.ref C_NoPlace) (.type "BaseException") = some true) (xt_NoPlace : PySem.W.typeIn K (.ref C_NoPlace) = some (.type "type")) (xk_NoPlace : PySem.W.keepIn K (.ref C_NoPlace) = true)
    (xg_NoPlace : PySem.W.findIn K (.ref C_NoPlace) "__getattribute__" = some (some (.builtin "BaseException.__getattribute__"))) (xh_NoPlace : PySem.W.findIn K (.ref C_NoPlace) "__getattr__" = some none) (xd_NoPlace : PySem.W.hasDictIn K C_NoPlace = true) (xc_NoPlace : PySem.W.findIn K (.ref C_NoPlace) "__class__" = some (some (.builtin "object.__class__"))) (xo_NoPlace : PySem.W.mroIn K C_NoPlace (.type "object") = some true) (xn_NoPlace : PySem.W.findIn K (.ref C_NoPlace) "found" = some none)
    {C_NoReading : Addr} (g_NoReading : PySem.W.nsIn K mainGlobals "NoReading" = some (some (.ref C_NoReading)))
    {nm_NoReading q_NoReading : Str} {N_NoReading : Addr} {bs_NoReading : List Value} {sn_NoReading : List Str} {su_NoReading : List Value} {ab_NoReading : Bool} {co_NoReading : Option Bool} {dd_NoReading : Option Addr} {m0_NoReading m1_NoReading m2_NoReading m3_NoReading m5_NoReading : Option Value}
    (xl_NoReading : K.lookup C_NoReading = some (excClassObj nm_NoReading q_NoReading C_NoReading N_NoReading bs_NoReading [.ref C_LogError, .type "ValueError", .type "Exception", .type "BaseException", .type "object"] true sn_NoReading su_NoReading ab_NoReading co_NoReading dd_NoReading m0_NoReading m1_NoReading m2_NoReading m3_NoReading m5_NoReading "ValueError.__new__"))
    (xs_NoReading : PySem.W.findIn K (.ref C_NoReading) "__setattr__" = some (some (.builtin "object.__setattr__"))) (xe_NoReading : PySem.W.subIn K (.ref C_NoReading) (.type "BaseException") = some true) (xt_NoReading : PySem.W.typeIn K (.ref C_NoReading) = some (.type "type")) (xk_NoReading : PySem.W.keepIn K (.ref C_NoReading) = true)
    (xg_NoReading : PySem.W.findIn K (.ref C_NoReading) "__getattribute__" = some (some (.builtin "BaseException.__getattribute__"))) (xh_NoReading : PySem.W.findIn K (.ref C_NoReading) "__getattr__" = some none) (xd_NoReading : PySem.W.hasDictIn K C_NoReading = true) (xc_NoReading : PySem.W.findIn K (.ref C_NoReading) "__class__" = some (some (.builtin "object.__class__"))) (xo_NoReading : PySem.W.mroIn K C_NoReading (.type "object") = some true) (xn_NoReading : PySem.W.findIn K (.ref C_NoReading) "found" = some none)
    {C_TooMany : Addr} (g_TooMany : PySem.W.nsIn K mainGlobals "TooMany" = some (some (.ref C_TooMany)))
    {nm_TooMany q_TooMany : Str} {N_TooMany : Addr} {bs_TooMany : List Value} {sn_TooMany : List Str} {su_TooMany : List Value} {ab_TooMany : Bool} {co_TooMany : Option Bool} {dd_TooMany : Option Addr} {m0_TooMany m1_TooMany m2_TooMany m3_TooMany m5_TooMany : Option Value}
    (xl_TooMany : K.lookup C_TooMany = some (excClassObj nm_TooMany q_TooMany C_TooMany N_TooMany bs_TooMany [.ref C_LogError, .type "ValueError", .type "Exception", .type "BaseException", .type "object"] true sn_TooMany su_TooMany ab_TooMany co_TooMany dd_TooMany m0_TooMany m1_TooMany m2_TooMany m3_TooMany m5_TooMany "ValueError.__new__"))
    (xs_TooMany : PySem.W.findIn K (.ref C_TooMany) "__setattr__" = some (some (.builtin "object.__setattr__"))) (xe_TooMany : PySem.W.subIn K (.ref C_TooMany) (.type "BaseException") = some true) (xt_TooMany : PySem.W.typeIn K (.ref C_TooMany) = some (.type "type")) (xk_TooMany : PySem.W.keepIn K (.ref C_TooMany) = true)
    (xg_TooMany : PySem.W.findIn K (.ref C_TooMany) "__getattribute__" = some (some (.builtin "BaseException.__getattribute__"))) (xh_TooMany : PySem.W.findIn K (.ref C_TooMany) "__getattr__" = some none) (xd_TooMany : PySem.W.hasDictIn K C_TooMany = true) (xc_TooMany : PySem.W.findIn K (.ref C_TooMany) "__class__" = some (some (.builtin "object.__class__"))) (xo_TooMany : PySem.W.mroIn K C_TooMany (.type "object") = some true) (xn_TooMany : PySem.W.findIn K (.ref C_TooMany) "many" = some none)
    (su_NoPlace_ValueError : PySem.W.subIn K (.ref C_NoPlace) (.type "ValueError") = some true)
    (su_NoPlace_NoEntry : PySem.W.subIn K (.ref C_NoPlace) (.ref C_NoEntry) = some false)
    (ne_NoPlace_NoEntry : (Value.ref C_NoPlace == Value.ref C_NoEntry) = false)
    (su_NoPlace_NoMoment : PySem.W.subIn K (.ref C_NoPlace) (.ref C_NoMoment) = some false)
    (ne_NoPlace_NoMoment : (Value.ref C_NoPlace == Value.ref C_NoMoment) = false)
    (su_NoPlace_NoName : PySem.W.subIn K (.ref C_NoPlace) (.ref C_NoName) = some false)
    (ne_NoPlace_NoName : (Value.ref C_NoPlace == Value.ref C_NoName) = false)
    (su_NoPlace_NoReading : PySem.W.subIn K (.ref C_NoPlace) (.ref C_NoReading) = some false)
    (ne_NoPlace_NoReading : (Value.ref C_NoPlace == Value.ref C_NoReading) = false)
    (su_NoPlace_TooMany : PySem.W.subIn K (.ref C_NoPlace) (.ref C_TooMany) = some false)
    (ne_NoPlace_TooMany : (Value.ref C_NoPlace == Value.ref C_TooMany) = false)
    (su_NoPlace_LogError : PySem.W.subIn K (.ref C_NoPlace) (.ref C_LogError) = some true)
    (xe_LogError : PySem.W.subIn K (.ref C_LogError) (.type "BaseException") = some true) (xd_LogError : PySem.W.hasDictIn K C_LogError = true) (xt_LogError : PySem.W.typeIn K (.ref C_LogError) = some (.type "type"))
    (ty_Entry : PySem.W.typeIn K (.ref C_Entry) = some (.type "type"))
    (ty_Within : PySem.W.typeIn K (.ref C_Within) = some (.type "type"))
    (ty_At : PySem.W.typeIn K (.ref C_At) = some (.type "type"))
    (ty_Between : PySem.W.typeIn K (.ref C_Between) = some (.type "type"))
    (ty_Read : PySem.W.typeIn K (.ref C_Read) = some (.type "type"))
    (ty_Joint : PySem.W.typeIn K (.ref C_Joint) = some (.type "type"))
    (ty_Sifted : PySem.W.typeIn K (.ref C_Sifted) = some (.type "type"))
    (su_Entry_Within : PySem.W.subIn K (.ref C_Entry) (.ref C_Within) = some false)
    (ne_Entry_Within : (Value.ref C_Entry == Value.ref C_Within) = false)
    (su_Entry_At : PySem.W.subIn K (.ref C_Entry) (.ref C_At) = some false)
    (ne_Entry_At : (Value.ref C_Entry == Value.ref C_At) = false)
    (su_Entry_Between : PySem.W.subIn K (.ref C_Entry) (.ref C_Between) = some false)
    (ne_Entry_Between : (Value.ref C_Entry == Value.ref C_Between) = false)
    (su_Entry_Read : PySem.W.subIn K (.ref C_Entry) (.ref C_Read) = some false)
    (ne_Entry_Read : (Value.ref C_Entry == Value.ref C_Read) = false)
    (su_Entry_Joint : PySem.W.subIn K (.ref C_Entry) (.ref C_Joint) = some false)
    (ne_Entry_Joint : (Value.ref C_Entry == Value.ref C_Joint) = false)
    (su_Entry_Sifted : PySem.W.subIn K (.ref C_Entry) (.ref C_Sifted) = some false)
    (ne_Entry_Sifted : (Value.ref C_Entry == Value.ref C_Sifted) = false)
    (su_Within_Entry : PySem.W.subIn K (.ref C_Within) (.ref C_Entry) = some true)
    (su_Within_At : PySem.W.subIn K (.ref C_Within) (.ref C_At) = some false)
    (ne_Within_At : (Value.ref C_Within == Value.ref C_At) = false)
    (su_Within_Between : PySem.W.subIn K (.ref C_Within) (.ref C_Between) = some false)
    (ne_Within_Between : (Value.ref C_Within == Value.ref C_Between) = false)
    (su_Within_Read : PySem.W.subIn K (.ref C_Within) (.ref C_Read) = some false)
    (ne_Within_Read : (Value.ref C_Within == Value.ref C_Read) = false)
    (su_Within_Joint : PySem.W.subIn K (.ref C_Within) (.ref C_Joint) = some false)
    (ne_Within_Joint : (Value.ref C_Within == Value.ref C_Joint) = false)
    (su_Within_Sifted : PySem.W.subIn K (.ref C_Within) (.ref C_Sifted) = some false)
    (ne_Within_Sifted : (Value.ref C_Within == Value.ref C_Sifted) = false)
    (su_At_Entry : PySem.W.subIn K (.ref C_At) (.ref C_Entry) = some true)
    (su_At_Within : PySem.W.subIn K (.ref C_At) (.ref C_Within) = some true)
    (su_At_Between : PySem.W.subIn K (.ref C_At) (.ref C_Between) = some false)
    (ne_At_Between : (Value.ref C_At == Value.ref C_Between) = false)
    (su_At_Read : PySem.W.subIn K (.ref C_At) (.ref C_Read) = some false)
    (ne_At_Read : (Value.ref C_At == Value.ref C_Read) = false)
    (su_At_Joint : PySem.W.subIn K (.ref C_At) (.ref C_Joint) = some false)
    (ne_At_Joint : (Value.ref C_At == Value.ref C_Joint) = false)
    (su_At_Sifted : PySem.W.subIn K (.ref C_At) (.ref C_Sifted) = some false)
    (ne_At_Sifted : (Value.ref C_At == Value.ref C_Sifted) = false)
    (su_Between_Entry : PySem.W.subIn K (.ref C_Between) (.ref C_Entry) = some true)
    (su_Between_Within : PySem.W.subIn K (.ref C_Between) (.ref C_Within) = some false)
    (ne_Between_Within : (Value.ref C_Between == Value.ref C_Within) = false)
    (su_Between_At : PySem.W.subIn K (.ref C_Between) (.ref C_At) = some false)
    (ne_Between_At : (Value.ref C_Between == Value.ref C_At) = false)
    (su_Between_Read : PySem.W.subIn K (.ref C_Between) (.ref C_Read) = some false)
    (ne_Between_Read : (Value.ref C_Between == Value.ref C_Read) = false)
    (su_Between_Joint : PySem.W.subIn K (.ref C_Between) (.ref C_Joint) = some false)
    (ne_Between_Joint : (Value.ref C_Between == Value.ref C_Joint) = false)
    (su_Between_Sifted : PySem.W.subIn K (.ref C_Between) (.ref C_Sifted) = some false)
    (ne_Between_Sifted : (Value.ref C_Between == Value.ref C_Sifted) = false)
    (su_Read_Entry : PySem.W.subIn K (.ref C_Read) (.ref C_Entry) = some true)
    (su_Read_Within : PySem.W.subIn K (.ref C_Read) (.ref C_Within) = some false)
    (ne_Read_Within : (Value.ref C_Read == Value.ref C_Within) = false)
    (su_Read_At : PySem.W.subIn K (.ref C_Read) (.ref C_At) = some false)
    (ne_Read_At : (Value.ref C_Read == Value.ref C_At) = false)
    (su_Read_Between : PySem.W.subIn K (.ref C_Read) (.ref C_Between) = some true)
    (su_Read_Joint : PySem.W.subIn K (.ref C_Read) (.ref C_Joint) = some false)
    (ne_Read_Joint : (Value.ref C_Read == Value.ref C_Joint) = false)
    (su_Read_Sifted : PySem.W.subIn K (.ref C_Read) (.ref C_Sifted) = some false)
    (ne_Read_Sifted : (Value.ref C_Read == Value.ref C_Sifted) = false)
    (su_Joint_Entry : PySem.W.subIn K (.ref C_Joint) (.ref C_Entry) = some true)
    (su_Joint_Within : PySem.W.subIn K (.ref C_Joint) (.ref C_Within) = some false)
    (ne_Joint_Within : (Value.ref C_Joint == Value.ref C_Within) = false)
    (su_Joint_At : PySem.W.subIn K (.ref C_Joint) (.ref C_At) = some false)
    (ne_Joint_At : (Value.ref C_Joint == Value.ref C_At) = false)
    (su_Joint_Between : PySem.W.subIn K (.ref C_Joint) (.ref C_Between) = some false)
    (ne_Joint_Between : (Value.ref C_Joint == Value.ref C_Between) = false)
    (su_Joint_Read : PySem.W.subIn K (.ref C_Joint) (.ref C_Read) = some false)
    (ne_Joint_Read : (Value.ref C_Joint == Value.ref C_Read) = false)
    (su_Joint_Sifted : PySem.W.subIn K (.ref C_Joint) (.ref C_Sifted) = some false)
    (ne_Joint_Sifted : (Value.ref C_Joint == Value.ref C_Sifted) = false)
    (su_Sifted_Entry : PySem.W.subIn K (.ref C_Sifted) (.ref C_Entry) = some true)
    (su_Sifted_Within : PySem.W.subIn K (.ref C_Sifted) (.ref C_Within) = some false)
    (ne_Sifted_Within : (Value.ref C_Sifted == Value.ref C_Within) = false)
    (su_Sifted_At : PySem.W.subIn K (.ref C_Sifted) (.ref C_At) = some false)
    (ne_Sifted_At : (Value.ref C_Sifted == Value.ref C_At) = false)
    (su_Sifted_Between : PySem.W.subIn K (.ref C_Sifted) (.ref C_Between) = some false)
    (ne_Sifted_Between : (Value.ref C_Sifted == Value.ref C_Between) = false)
    (su_Sifted_Read : PySem.W.subIn K (.ref C_Sifted) (.ref C_Read) = some false)
    (ne_Sifted_Read : (Value.ref C_Sifted == Value.ref C_Read) = false)
    (su_Sifted_Joint : PySem.W.subIn K (.ref C_Sifted) (.ref C_Joint) = some false)
    (ne_Sifted_Joint : (Value.ref C_Sifted == Value.ref C_Joint) = false)
    {f_is_whole : Addr} {od_is_whole an_is_whole : Option Addr} {sl_is_whole : Array (Option Value)} {oc_is_whole kv_is_whole dc_is_whole pm_is_whole cd_is_whole ct_is_whole : Value}
    (a_is_whole : PySem.W.nsIn K mainGlobals "is_whole" = some (some (.ref f_is_whole)))
    (l_is_whole : K.lookup f_is_whole = some ⟨oc_is_whole, od_is_whole, .func (PySem.W.fnOf "is_whole" "is_whole" (defArgs s_is_whole) (defBody s_is_whole) (defScope s_is_whole) .none kv_is_whole dc_is_whole pm_is_whole an_is_whole cd_is_whole ct_is_whole), sl_is_whole⟩)
    (d_is_whole : PySem.W.codeIn K cd_is_whole "is_whole" = true) (k_is_whole : PySem.W.keepIn K (.ref f_is_whole) = true)
    {f_is_moment : Addr} {od_is_moment an_is_moment : Option Addr} {sl_is_moment : Array (Option Value)} {oc_is_moment kv_is_moment dc_is_moment pm_is_moment cd_is_moment ct_is_moment : Value}
    (a_is_moment : PySem.W.nsIn K mainGlobals "is_moment" = some (some (.ref f_is_moment)))
    (l_is_moment : K.lookup f_is_moment = some ⟨oc_is_moment, od_is_moment, .func (PySem.W.fnOf "is_moment" "is_moment" (defArgs s_is_moment) (defBody s_is_moment) (defScope s_is_moment) .none kv_is_moment dc_is_moment pm_is_moment an_is_moment cd_is_moment ct_is_moment), sl_is_moment⟩)
    (d_is_moment : PySem.W.codeIn K cd_is_moment "is_moment" = true) (k_is_moment : PySem.W.keepIn K (.ref f_is_moment) = true)
    {f_is_shift : Addr} {od_is_shift an_is_shift : Option Addr} {sl_is_shift : Array (Option Value)} {oc_is_shift kv_is_shift dc_is_shift pm_is_shift cd_is_shift ct_is_shift : Value}
    (a_is_shift : PySem.W.nsIn K mainGlobals "is_shift" = some (some (.ref f_is_shift)))
    (l_is_shift : K.lookup f_is_shift = some ⟨oc_is_shift, od_is_shift, .func (PySem.W.fnOf "is_shift" "is_shift" (defArgs s_is_shift) (defBody s_is_shift) (defScope s_is_shift) .none kv_is_shift dc_is_shift pm_is_shift an_is_shift cd_is_shift ct_is_shift), sl_is_shift⟩)
    (d_is_shift : PySem.W.codeIn K cd_is_shift "is_shift" = true) (k_is_shift : PySem.W.keepIn K (.ref f_is_shift) = true)
    {f_is_row : Addr} {od_is_row an_is_row : Option Addr} {sl_is_row : Array (Option Value)} {oc_is_row kv_is_row dc_is_row pm_is_row cd_is_row ct_is_row : Value}
    (a_is_row : PySem.W.nsIn K mainGlobals "is_row" = some (some (.ref f_is_row)))
    (l_is_row : K.lookup f_is_row = some ⟨oc_is_row, od_is_row, .func (PySem.W.fnOf "is_row" "is_row" (defArgs s_is_row) (defBody s_is_row) (defScope s_is_row) .none kv_is_row dc_is_row pm_is_row an_is_row cd_is_row ct_is_row), sl_is_row⟩)
    (d_is_row : PySem.W.codeIn K cd_is_row "is_row" = true) (k_is_row : PySem.W.keepIn K (.ref f_is_row) = true)
    {f_fault_at : Addr} {od_fault_at an_fault_at : Option Addr} {sl_fault_at : Array (Option Value)} {oc_fault_at kv_fault_at dc_fault_at pm_fault_at cd_fault_at ct_fault_at : Value}
    (a_fault_at : PySem.W.nsIn K mainGlobals "fault_at" = some (some (.ref f_fault_at)))
    (l_fault_at : K.lookup f_fault_at = some ⟨oc_fault_at, od_fault_at, .func (PySem.W.fnOf "fault_at" "fault_at" (defArgs s_fault_at) (defBody s_fault_at) (defScope s_fault_at) .none kv_fault_at dc_fault_at pm_fault_at an_fault_at cd_fault_at ct_fault_at), sl_fault_at⟩)
    (d_fault_at : PySem.W.codeIn K cd_fault_at "fault_at" = true) (k_fault_at : PySem.W.keepIn K (.ref f_fault_at) = true)
    {f_is_reading : Addr} {od_is_reading an_is_reading : Option Addr} {sl_is_reading : Array (Option Value)} {oc_is_reading kv_is_reading dc_is_reading pm_is_reading cd_is_reading ct_is_reading : Value}
    (a_is_reading : PySem.W.nsIn K mainGlobals "is_reading" = some (some (.ref f_is_reading)))
    (l_is_reading : K.lookup f_is_reading = some ⟨oc_is_reading, od_is_reading, .func (PySem.W.fnOf "is_reading" "is_reading" (defArgs s_is_reading) (defBody s_is_reading) (defScope s_is_reading) .none kv_is_reading dc_is_reading pm_is_reading an_is_reading cd_is_reading ct_is_reading), sl_is_reading⟩)
    (d_is_reading : PySem.W.codeIn K cd_is_reading "is_reading" = true) (k_is_reading : PySem.W.keepIn K (.ref f_is_reading) = true)
    {f_Table_init : Addr} {od_Table_init an_Table_init : Option Addr} {sl_Table_init : Array (Option Value)} {oc_Table_init kv_Table_init dc_Table_init pm_Table_init cd_Table_init ct_Table_init : Value}
    (a_Table_init : PySem.W.findIn K (.ref C_Table) "__init__" = some (some (.ref f_Table_init))) (i_Table_init : PySem.W.isFn K (.ref f_Table_init) = true)
    (l_Table_init : K.lookup f_Table_init = some ⟨oc_Table_init, od_Table_init, .func (PySem.W.fnOf "__init__" "Table.__init__" (defArgs s_Table_init) (defBody s_Table_init) (defScope s_Table_init) .none kv_Table_init dc_Table_init pm_Table_init an_Table_init cd_Table_init ct_Table_init), sl_Table_init⟩)
    (d_Table_init : PySem.W.codeIn K cd_Table_init "Table.__init__" = true) (k_Table_init : PySem.W.keepIn K (.ref f_Table_init) = true)
    {f_joined : Addr} {od_joined an_joined : Option Addr} {sl_joined : Array (Option Value)} {oc_joined kv_joined dc_joined pm_joined cd_joined ct_joined : Value}
    (a_joined : PySem.W.nsIn K mainGlobals "joined" = some (some (.ref f_joined)))
    (l_joined : K.lookup f_joined = some ⟨oc_joined, od_joined, .func (PySem.W.fnOf "joined" "joined" (defArgs s_joined) (defBody s_joined) (defScope s_joined) .none kv_joined dc_joined pm_joined an_joined cd_joined ct_joined), sl_joined⟩)
    (d_joined : PySem.W.codeIn K cd_joined "joined" = true) (k_joined : PySem.W.keepIn K (.ref f_joined) = true)
    {f_is_stretch : Addr} {od_is_stretch an_is_stretch : Option Addr} {sl_is_stretch : Array (Option Value)} {oc_is_stretch kv_is_stretch dc_is_stretch pm_is_stretch cd_is_stretch ct_is_stretch : Value}
    (a_is_stretch : PySem.W.nsIn K mainGlobals "is_stretch" = some (some (.ref f_is_stretch)))
    (l_is_stretch : K.lookup f_is_stretch = some ⟨oc_is_stretch, od_is_stretch, .func (PySem.W.fnOf "is_stretch" "is_stretch" (defArgs s_is_stretch) (defBody s_is_stretch) (defScope s_is_stretch) .none kv_is_stretch dc_is_stretch pm_is_stretch an_is_stretch cd_is_stretch ct_is_stretch), sl_is_stretch⟩)
    (d_is_stretch : PySem.W.codeIn K cd_is_stretch "is_stretch" = true) (k_is_stretch : PySem.W.keepIn K (.ref f_is_stretch) = true)
    {f_NoReading_init : Addr} {od_NoReading_init an_NoReading_init : Option Addr} {sl_NoReading_init : Array (Option Value)} {oc_NoReading_init kv_NoReading_init dc_NoReading_init pm_NoReading_init cd_NoReading_init ct_NoReading_init : Value}
    (a_NoReading_init : PySem.W.findIn K (.ref C_NoReading) "__init__" = some (some (.ref f_NoReading_init))) (i_NoReading_init : PySem.W.typeIn K (.ref f_NoReading_init) = some (.type "function"))
    (l_NoReading_init : K.lookup f_NoReading_init = some ⟨oc_NoReading_init, od_NoReading_init, .func (PySem.W.fnOf "__init__" "NoReading.__init__" (defArgs s_NoReading_init) (defBody s_NoReading_init) (defScope s_NoReading_init) .none kv_NoReading_init dc_NoReading_init pm_NoReading_init an_NoReading_init cd_NoReading_init ct_NoReading_init), sl_NoReading_init⟩)
    (d_NoReading_init : PySem.W.codeIn K cd_NoReading_init "NoReading.__init__" = true) (k_NoReading_init : PySem.W.keepIn K (.ref f_NoReading_init) = true)
    {f_Table_pieces : Addr} {od_Table_pieces an_Table_pieces : Option Addr} {sl_Table_pieces : Array (Option Value)} {oc_Table_pieces kv_Table_pieces dc_Table_pieces pm_Table_pieces cd_Table_pieces ct_Table_pieces : Value}
    (a_Table_pieces : PySem.W.findIn K (.ref C_Table) "pieces" = some (some (.ref f_Table_pieces))) (i_Table_pieces : PySem.W.isFn K (.ref f_Table_pieces) = true)
    (l_Table_pieces : K.lookup f_Table_pieces = some ⟨oc_Table_pieces, od_Table_pieces, .func (PySem.W.fnOf "pieces" "Table.pieces" (defArgs s_Table_pieces) (defBody s_Table_pieces) (defScope s_Table_pieces) .none kv_Table_pieces dc_Table_pieces pm_Table_pieces an_Table_pieces cd_Table_pieces ct_Table_pieces), sl_Table_pieces⟩)
    (d_Table_pieces : PySem.W.codeIn K cd_Table_pieces "Table.pieces" = true) (k_Table_pieces : PySem.W.keepIn K (.ref f_Table_pieces) = true)
    {f_spans_of : Addr} {od_spans_of an_spans_of : Option Addr} {sl_spans_of : Array (Option Value)} {oc_spans_of kv_spans_of dc_spans_of pm_spans_of cd_spans_of ct_spans_of : Value}
    (a_spans_of : PySem.W.nsIn K mainGlobals "spans_of" = some (some (.ref f_spans_of)))
    (l_spans_of : K.lookup f_spans_of = some ⟨oc_spans_of, od_spans_of, .func (PySem.W.fnOf "spans_of" "spans_of" (defArgs s_spans_of) (defBody s_spans_of) (defScope s_spans_of) .none kv_spans_of dc_spans_of pm_spans_of an_spans_of cd_spans_of ct_spans_of), sl_spans_of⟩)
    (d_spans_of : PySem.W.codeIn K cd_spans_of "spans_of" = true) (k_spans_of : PySem.W.keepIn K (.ref f_spans_of) = true)
    {f_Table_moments_between : Addr} {od_Table_moments_between an_Table_moments_between : Option Addr} {sl_Table_moments_between : Array (Option Value)} {oc_Table_moments_between kv_Table_moments_between dc_Table_moments_between pm_Table_moments_between cd_Table_moments_between ct_Table_moments_between : Value}
    (a_Table_moments_between : PySem.W.findIn K (.ref C_Table) "moments_between" = some (some (.ref f_Table_moments_between))) (i_Table_moments_between : PySem.W.isFn K (.ref f_Table_moments_between) = true)
    (l_Table_moments_between : K.lookup f_Table_moments_between = some ⟨oc_Table_moments_between, od_Table_moments_between, .func (PySem.W.fnOf "moments_between" "Table.moments_between" (defArgs s_Table_moments_between) (defBody s_Table_moments_between) (defScope s_Table_moments_between) .none kv_Table_moments_between dc_Table_moments_between pm_Table_moments_between an_Table_moments_between cd_Table_moments_between ct_Table_moments_between), sl_Table_moments_between⟩)
    (d_Table_moments_between : PySem.W.codeIn K cd_Table_moments_between "Table.moments_between" = true) (k_Table_moments_between : PySem.W.keepIn K (.ref f_Table_moments_between) = true)
    {f_is_name : Addr} {od_is_name an_is_name : Option Addr} {sl_is_name : Array (Option Value)} {oc_is_name kv_is_name dc_is_name pm_is_name cd_is_name ct_is_name : Value}
    (a_is_name : PySem.W.nsIn K mainGlobals "is_name" = some (some (.ref f_is_name)))
    (l_is_name : K.lookup f_is_name = some ⟨oc_is_name, od_is_name, .func (PySem.W.fnOf "is_name" "is_name" (defArgs s_is_name) (defBody s_is_name) (defScope s_is_name) .none kv_is_name dc_is_name pm_is_name an_is_name cd_is_name ct_is_name), sl_is_name⟩)
    (d_is_name : PySem.W.codeIn K cd_is_name "is_name" = true) (k_is_name : PySem.W.keepIn K (.ref f_is_name) = true)
    {f_NoName_init : Addr} {od_NoName_init an_NoName_init : Option Addr} {sl_NoName_init : Array (Option Value)} {oc_NoName_init kv_NoName_init dc_NoName_init pm_NoName_init cd_NoName_init ct_NoName_init : Value}
    (a_NoName_init : PySem.W.findIn K (.ref C_NoName) "__init__" = some (some (.ref f_NoName_init))) (i_NoName_init : PySem.W.typeIn K (.ref f_NoName_init) = some (.type "function"))
    (l_NoName_init : K.lookup f_NoName_init = some ⟨oc_NoName_init, od_NoName_init, .func (PySem.W.fnOf "__init__" "NoName.__init__" (defArgs s_NoName_init) (defBody s_NoName_init) (defScope s_NoName_init) .none kv_NoName_init dc_NoName_init pm_NoName_init an_NoName_init cd_NoName_init ct_NoName_init), sl_NoName_init⟩)
    (d_NoName_init : PySem.W.codeIn K cd_NoName_init "NoName.__init__" = true) (k_NoName_init : PySem.W.keepIn K (.ref f_NoName_init) = true)
    {f_NoPlace_init : Addr} {od_NoPlace_init an_NoPlace_init : Option Addr} {sl_NoPlace_init : Array (Option Value)} {oc_NoPlace_init kv_NoPlace_init dc_NoPlace_init pm_NoPlace_init cd_NoPlace_init ct_NoPlace_init : Value}
    (a_NoPlace_init : PySem.W.findIn K (.ref C_NoPlace) "__init__" = some (some (.ref f_NoPlace_init))) (i_NoPlace_init : PySem.W.typeIn K (.ref f_NoPlace_init) = some (.type "function"))
    (l_NoPlace_init : K.lookup f_NoPlace_init = some ⟨oc_NoPlace_init, od_NoPlace_init, .func (PySem.W.fnOf "__init__" "NoPlace.__init__" (defArgs s_NoPlace_init) (defBody s_NoPlace_init) (defScope s_NoPlace_init) .none kv_NoPlace_init dc_NoPlace_init pm_NoPlace_init an_NoPlace_init cd_NoPlace_init ct_NoPlace_init), sl_NoPlace_init⟩)
    (d_NoPlace_init : PySem.W.codeIn K cd_NoPlace_init "NoPlace.__init__" = true) (k_NoPlace_init : PySem.W.keepIn K (.ref f_NoPlace_init) = true)
    {f_NoMoment_init : Addr} {od_NoMoment_init an_NoMoment_init : Option Addr} {sl_NoMoment_init : Array (Option Value)} {oc_NoMoment_init kv_NoMoment_init dc_NoMoment_init pm_NoMoment_init cd_NoMoment_init ct_NoMoment_init : Value}
    (a_NoMoment_init : PySem.W.findIn K (.ref C_NoMoment) "__init__" = some (some (.ref f_NoMoment_init))) (i_NoMoment_init : PySem.W.typeIn K (.ref f_NoMoment_init) = some (.type "function"))
    (l_NoMoment_init : K.lookup f_NoMoment_init = some ⟨oc_NoMoment_init, od_NoMoment_init, .func (PySem.W.fnOf "__init__" "NoMoment.__init__" (defArgs s_NoMoment_init) (defBody s_NoMoment_init) (defScope s_NoMoment_init) .none kv_NoMoment_init dc_NoMoment_init pm_NoMoment_init an_NoMoment_init cd_NoMoment_init ct_NoMoment_init), sl_NoMoment_init⟩)
    (d_NoMoment_init : PySem.W.codeIn K cd_NoMoment_init "NoMoment.__init__" = true) (k_NoMoment_init : PySem.W.keepIn K (.ref f_NoMoment_init) = true)
    {f_Entry_init : Addr} {od_Entry_init an_Entry_init : Option Addr} {sl_Entry_init : Array (Option Value)} {oc_Entry_init kv_Entry_init dc_Entry_init pm_Entry_init cd_Entry_init ct_Entry_init : Value}
    (a_Entry_init : PySem.W.findIn K (.ref C_Entry) "__init__" = some (some (.ref f_Entry_init))) (i_Entry_init : PySem.W.isFn K (.ref f_Entry_init) = true)
    (l_Entry_init : K.lookup f_Entry_init = some ⟨oc_Entry_init, od_Entry_init, .func (PySem.W.fnOf "__init__" "Entry.__init__" (defArgs s_Entry_init) (defBody s_Entry_init) (defScope s_Entry_init) .none kv_Entry_init dc_Entry_init pm_Entry_init an_Entry_init cd_Entry_init ct_Entry_init), sl_Entry_init⟩)
    (d_Entry_init : PySem.W.codeIn K cd_Entry_init "Entry.__init__" = true) (k_Entry_init : PySem.W.keepIn K (.ref f_Entry_init) = true)
    {f_Within_init : Addr} {od_Within_init an_Within_init : Option Addr} {sl_Within_init : Array (Option Value)} {oc_Within_init kv_Within_init dc_Within_init pm_Within_init cd_Within_init ct_Within_init : Value}
    (a_Within_init : PySem.W.findIn K (.ref C_Within) "__init__" = some (some (.ref f_Within_init))) (i_Within_init : PySem.W.isFn K (.ref f_Within_init) = true)
    (l_Within_init : K.lookup f_Within_init = some ⟨oc_Within_init, od_Within_init, .func (PySem.W.fnOf "__init__" "Within.__init__" (defArgs s_Within_init) (defBody s_Within_init) (defScope s_Within_init) .none kv_Within_init dc_Within_init pm_Within_init an_Within_init cd_Within_init ct_Within_init), sl_Within_init⟩)
    (d_Within_init : PySem.W.codeIn K cd_Within_init "Within.__init__" = true) (k_Within_init : PySem.W.keepIn K (.ref f_Within_init) = true)
    {f_At_init : Addr} {od_At_init an_At_init : Option Addr} {sl_At_init : Array (Option Value)} {oc_At_init kv_At_init dc_At_init pm_At_init cd_At_init ct_At_init : Value}
    (a_At_init : PySem.W.findIn K (.ref C_At) "__init__" = some (some (.ref f_At_init))) (i_At_init : PySem.W.isFn K (.ref f_At_init) = true)
    (l_At_init : K.lookup f_At_init = some ⟨oc_At_init, od_At_init, .func (PySem.W.fnOf "__init__" "At.__init__" (defArgs s_At_init) (defBody s_At_init) (defScope s_At_init) .none kv_At_init dc_At_init pm_At_init an_At_init cd_At_init ct_At_init), sl_At_init⟩)
    (d_At_init : PySem.W.codeIn K cd_At_init "At.__init__" = true) (k_At_init : PySem.W.keepIn K (.ref f_At_init) = true)
    {f_Between_init : Addr} {od_Between_init an_Between_init : Option Addr} {sl_Between_init : Array (Option Value)} {oc_Between_init kv_Between_init dc_Between_init pm_Between_init cd_Between_init ct_Between_init : Value}
    (a_Between_init : PySem.W.findIn K (.ref C_Between) "__init__" = some (some (.ref f_Between_init))) (i_Between_init : PySem.W.isFn K (.ref f_Between_init) = true)
    (l_Between_init : K.lookup f_Between_init = some ⟨oc_Between_init, od_Between_init, .func (PySem.W.fnOf "__init__" "Between.__init__" (defArgs s_Between_init) (defBody s_Between_init) (defScope s_Between_init) .none kv_Between_init dc_Between_init pm_Between_init an_Between_init cd_Between_init ct_Between_init), sl_Between_init⟩)
    (d_Between_init : PySem.W.codeIn K cd_Between_init "Between.__init__" = true) (k_Between_init : PySem.W.keepIn K (.ref f_Between_init) = true)
    {f_Read_init : Addr} {od_Read_init an_Read_init : Option Addr} {sl_Read_init : Array (Option Value)} {oc_Read_init kv_Read_init dc_Read_init pm_Read_init cd_Read_init ct_Read_init : Value}
    (a_Read_init : PySem.W.findIn K (.ref C_Read) "__init__" = some (some (.ref f_Read_init))) (i_Read_init : PySem.W.isFn K (.ref f_Read_init) = true)
    (l_Read_init : K.lookup f_Read_init = some ⟨oc_Read_init, od_Read_init, .func (PySem.W.fnOf "__init__" "Read.__init__" (defArgs s_Read_init) (defBody s_Read_init) (defScope s_Read_init) .none kv_Read_init dc_Read_init pm_Read_init an_Read_init cd_Read_init ct_Read_init), sl_Read_init⟩)
    (d_Read_init : PySem.W.codeIn K cd_Read_init "Read.__init__" = true) (k_Read_init : PySem.W.keepIn K (.ref f_Read_init) = true)
    {f_Entry_places : Addr} {od_Entry_places an_Entry_places : Option Addr} {sl_Entry_places : Array (Option Value)} {oc_Entry_places kv_Entry_places dc_Entry_places pm_Entry_places cd_Entry_places ct_Entry_places : Value}
    (a_Entry_places : PySem.W.findIn K (.ref C_Entry) "places" = some (some (.ref f_Entry_places))) (i_Entry_places : PySem.W.isFn K (.ref f_Entry_places) = true)
    (l_Entry_places : K.lookup f_Entry_places = some ⟨oc_Entry_places, od_Entry_places, .func (PySem.W.fnOf "places" "Entry.places" (defArgs s_Entry_places) (defBody s_Entry_places) (defScope s_Entry_places) .none kv_Entry_places dc_Entry_places pm_Entry_places an_Entry_places cd_Entry_places ct_Entry_places), sl_Entry_places⟩)
    (d_Entry_places : PySem.W.codeIn K cd_Entry_places "Entry.places" = true) (k_Entry_places : PySem.W.keepIn K (.ref f_Entry_places) = true)
    {f_Between_places : Addr} {od_Between_places an_Between_places : Option Addr} {sl_Between_places : Array (Option Value)} {oc_Between_places kv_Between_places dc_Between_places pm_Between_places cd_Between_places ct_Between_places : Value}
    (a_Between_places : PySem.W.findIn K (.ref C_Between) "places" = some (some (.ref f_Between_places))) (i_Between_places : PySem.W.isFn K (.ref f_Between_places) = true)
    (l_Between_places : K.lookup f_Between_places = some ⟨oc_Between_places, od_Between_places, .func (PySem.W.fnOf "places" "Between.places" (defArgs s_Between_places) (defBody s_Between_places) (defScope s_Between_places) .none kv_Between_places dc_Between_places pm_Between_places an_Between_places cd_Between_places ct_Between_places), sl_Between_places⟩)
    (d_Between_places : PySem.W.codeIn K cd_Between_places "Between.places" = true) (k_Between_places : PySem.W.keepIn K (.ref f_Between_places) = true)
    {f_Entry_spans : Addr} {od_Entry_spans an_Entry_spans : Option Addr} {sl_Entry_spans : Array (Option Value)} {oc_Entry_spans kv_Entry_spans dc_Entry_spans pm_Entry_spans cd_Entry_spans ct_Entry_spans : Value}
    (a_Entry_spans : PySem.W.findIn K (.ref C_Entry) "spans" = some (some (.ref f_Entry_spans))) (i_Entry_spans : PySem.W.isFn K (.ref f_Entry_spans) = true)
    (l_Entry_spans : K.lookup f_Entry_spans = some ⟨oc_Entry_spans, od_Entry_spans, .func (PySem.W.fnOf "spans" "Entry.spans" (defArgs s_Entry_spans) (defBody s_Entry_spans) (defScope s_Entry_spans) .none kv_Entry_spans dc_Entry_spans pm_Entry_spans an_Entry_spans cd_Entry_spans ct_Entry_spans), sl_Entry_spans⟩)
    (d_Entry_spans : PySem.W.codeIn K cd_Entry_spans "Entry.spans" = true) (k_Entry_spans : PySem.W.keepIn K (.ref f_Entry_spans) = true)
    {f_Within_spans : Addr} {od_Within_spans an_Within_spans : Option Addr} {sl_Within_spans : Array (Option Value)} {oc_Within_spans kv_Within_spans dc_Within_spans pm_Within_spans cd_Within_spans ct_Within_spans : Value}
    (a_Within_spans : PySem.W.findIn K (.ref C_Within) "spans" = some (some (.ref f_Within_spans))) (i_Within_spans : PySem.W.isFn K (.ref f_Within_spans) = true)
    (l_Within_spans : K.lookup f_Within_spans = some ⟨oc_Within_spans, od_Within_spans, .func (PySem.W.fnOf "spans" "Within.spans" (defArgs s_Within_spans) (defBody s_Within_spans) (defScope s_Within_spans) .none kv_Within_spans dc_Within_spans pm_Within_spans an_Within_spans cd_Within_spans ct_Within_spans), sl_Within_spans⟩)
    (d_Within_spans : PySem.W.codeIn K cd_Within_spans "Within.spans" = true) (k_Within_spans : PySem.W.keepIn K (.ref f_Within_spans) = true)
    {f_Between_spans : Addr} {od_Between_spans an_Between_spans : Option Addr} {sl_Between_spans : Array (Option Value)} {oc_Between_spans kv_Between_spans dc_Between_spans pm_Between_spans cd_Between_spans ct_Between_spans : Value}
    (a_Between_spans : PySem.W.findIn K (.ref C_Between) "spans" = some (some (.ref f_Between_spans))) (i_Between_spans : PySem.W.isFn K (.ref f_Between_spans) = true)
    (l_Between_spans : K.lookup f_Between_spans = some ⟨oc_Between_spans, od_Between_spans, .func (PySem.W.fnOf "spans" "Between.spans" (defArgs s_Between_spans) (defBody s_Between_spans) (defScope s_Between_spans) .none kv_Between_spans dc_Between_spans pm_Between_spans an_Between_spans cd_Between_spans ct_Between_spans), sl_Between_spans⟩)
    (d_Between_spans : PySem.W.codeIn K cd_Between_spans "Between.spans" = true) (k_Between_spans : PySem.W.keepIn K (.ref f_Between_spans) = true)
    {f_Entry_word : Addr} {od_Entry_word an_Entry_word : Option Addr} {sl_Entry_word : Array (Option Value)} {oc_Entry_word kv_Entry_word dc_Entry_word pm_Entry_word cd_Entry_word ct_Entry_word : Value}
    (a_Entry_word : PySem.W.findIn K (.ref C_Entry) "word" = some (some (.ref f_Entry_word))) (i_Entry_word : PySem.W.isFn K (.ref f_Entry_word) = true)
    (l_Entry_word : K.lookup f_Entry_word = some ⟨oc_Entry_word, od_Entry_word, .func (PySem.W.fnOf "word" "Entry.word" (defArgs s_Entry_word) (defBody s_Entry_word) (defScope s_Entry_word) .none kv_Entry_word dc_Entry_word pm_Entry_word an_Entry_word cd_Entry_word ct_Entry_word), sl_Entry_word⟩)
    (d_Entry_word : PySem.W.codeIn K cd_Entry_word "Entry.word" = true) (k_Entry_word : PySem.W.keepIn K (.ref f_Entry_word) = true)
    {f_Within_word : Addr} {od_Within_word an_Within_word : Option Addr} {sl_Within_word : Array (Option Value)} {oc_Within_word kv_Within_word dc_Within_word pm_Within_word cd_Within_word ct_Within_word : Value}
    (a_Within_word : PySem.W.findIn K (.ref C_Within) "word" = some (some (.ref f_Within_word))) (i_Within_word : PySem.W.isFn K (.ref f_Within_word) = true)
    (l_Within_word : K.lookup f_Within_word = some ⟨oc_Within_word, od_Within_word, .func (PySem.W.fnOf "word" "Within.word" (defArgs s_Within_word) (defBody s_Within_word) (defScope s_Within_word) .none kv_Within_word dc_Within_word pm_Within_word an_Within_word cd_Within_word ct_Within_word), sl_Within_word⟩)
    (d_Within_word : PySem.W.codeIn K cd_Within_word "Within.word" = true) (k_Within_word : PySem.W.keepIn K (.ref f_Within_word) = true)
    {f_At_word : Addr} {od_At_word an_At_word : Option Addr} {sl_At_word : Array (Option Value)} {oc_At_word kv_At_word dc_At_word pm_At_word cd_At_word ct_At_word : Value}
    (a_At_word : PySem.W.findIn K (.ref C_At) "word" = some (some (.ref f_At_word))) (i_At_word : PySem.W.isFn K (.ref f_At_word) = true)
    (l_At_word : K.lookup f_At_word = some ⟨oc_At_word, od_At_word, .func (PySem.W.fnOf "word" "At.word" (defArgs s_At_word) (defBody s_At_word) (defScope s_At_word) .none kv_At_word dc_At_word pm_At_word an_At_word cd_At_word ct_At_word), sl_At_word⟩)
    (d_At_word : PySem.W.codeIn K cd_At_word "At.word" = true) (k_At_word : PySem.W.keepIn K (.ref f_At_word) = true)
    {f_Between_word : Addr} {od_Between_word an_Between_word : Option Addr} {sl_Between_word : Array (Option Value)} {oc_Between_word kv_Between_word dc_Between_word pm_Between_word cd_Between_word ct_Between_word : Value}
    (a_Between_word : PySem.W.findIn K (.ref C_Between) "word" = some (some (.ref f_Between_word))) (i_Between_word : PySem.W.isFn K (.ref f_Between_word) = true)
    (l_Between_word : K.lookup f_Between_word = some ⟨oc_Between_word, od_Between_word, .func (PySem.W.fnOf "word" "Between.word" (defArgs s_Between_word) (defBody s_Between_word) (defScope s_Between_word) .none kv_Between_word dc_Between_word pm_Between_word an_Between_word cd_Between_word ct_Between_word), sl_Between_word⟩)
    (d_Between_word : PySem.W.codeIn K cd_Between_word "Between.word" = true) (k_Between_word : PySem.W.keepIn K (.ref f_Between_word) = true)
    {f_Read_word : Addr} {od_Read_word an_Read_word : Option Addr} {sl_Read_word : Array (Option Value)} {oc_Read_word kv_Read_word dc_Read_word pm_Read_word cd_Read_word ct_Read_word : Value}
    (a_Read_word : PySem.W.findIn K (.ref C_Read) "word" = some (some (.ref f_Read_word))) (i_Read_word : PySem.W.isFn K (.ref f_Read_word) = true)
    (l_Read_word : K.lookup f_Read_word = some ⟨oc_Read_word, od_Read_word, .func (PySem.W.fnOf "word" "Read.word" (defArgs s_Read_word) (defBody s_Read_word) (defScope s_Read_word) .none kv_Read_word dc_Read_word pm_Read_word an_Read_word cd_Read_word ct_Read_word), sl_Read_word⟩)
    (d_Read_word : PySem.W.codeIn K cd_Read_word "Read.word" = true) (k_Read_word : PySem.W.keepIn K (.ref f_Read_word) = true)
    {f_l_cell : Addr} {od_l_cell an_l_cell : Option Addr} {sl_l_cell : Array (Option Value)} {oc_l_cell kv_l_cell dc_l_cell pm_l_cell cd_l_cell ct_l_cell : Value}
    (a_l_cell : PySem.W.nsIn K mainGlobals "_law_cell" = some (some (.ref f_l_cell)))
    (l_l_cell : K.lookup f_l_cell = some ⟨oc_l_cell, od_l_cell, .func (PySem.W.fnOf "_law_cell" "_law_cell" (defArgs s_l_cell) (defBody s_l_cell) (defScope s_l_cell) .none kv_l_cell dc_l_cell pm_l_cell an_l_cell cd_l_cell ct_l_cell), sl_l_cell⟩)
    (d_l_cell : PySem.W.codeIn K cd_l_cell "_law_cell" = true) (k_l_cell : PySem.W.keepIn K (.ref f_l_cell) = true)
    {f_l_mix : Addr} {od_l_mix an_l_mix : Option Addr} {sl_l_mix : Array (Option Value)} {oc_l_mix kv_l_mix dc_l_mix pm_l_mix cd_l_mix ct_l_mix : Value}
    (a_l_mix : PySem.W.nsIn K mainGlobals "_law_mix" = some (some (.ref f_l_mix)))
    (l_l_mix : K.lookup f_l_mix = some ⟨oc_l_mix, od_l_mix, .func (PySem.W.fnOf "_law_mix" "_law_mix" (defArgs s_l_mix) (defBody s_l_mix) (defScope s_l_mix) .none kv_l_mix dc_l_mix pm_l_mix an_l_mix cd_l_mix ct_l_mix), sl_l_mix⟩)
    (d_l_mix : PySem.W.codeIn K cd_l_mix "_law_mix" = true) (k_l_mix : PySem.W.keepIn K (.ref f_l_mix) = true)
    {f_l_begun : Addr} {od_l_begun an_l_begun : Option Addr} {sl_l_begun : Array (Option Value)} {oc_l_begun kv_l_begun dc_l_begun pm_l_begun cd_l_begun ct_l_begun : Value}
    (a_l_begun : PySem.W.nsIn K mainGlobals "_law_begun" = some (some (.ref f_l_begun)))
    (l_l_begun : K.lookup f_l_begun = some ⟨oc_l_begun, od_l_begun, .func (PySem.W.fnOf "_law_begun" "_law_begun" (defArgs s_l_begun) (defBody s_l_begun) (defScope s_l_begun) .none kv_l_begun dc_l_begun pm_l_begun an_l_begun cd_l_begun ct_l_begun), sl_l_begun⟩)
    (d_l_begun : PySem.W.codeIn K cd_l_begun "_law_begun" = true) (k_l_begun : PySem.W.keepIn K (.ref f_l_begun) = true)
    {f_l_pull : Addr} {od_l_pull an_l_pull : Option Addr} {sl_l_pull : Array (Option Value)} {oc_l_pull kv_l_pull dc_l_pull pm_l_pull cd_l_pull ct_l_pull : Value}
    (a_l_pull : PySem.W.nsIn K mainGlobals "_law_pull" = some (some (.ref f_l_pull)))
    (l_l_pull : K.lookup f_l_pull = some ⟨oc_l_pull, od_l_pull, .func (PySem.W.fnOf "_law_pull" "_law_pull" (defArgs s_l_pull) (defBody s_l_pull) (defScope s_l_pull) .none kv_l_pull dc_l_pull pm_l_pull an_l_pull cd_l_pull ct_l_pull), sl_l_pull⟩)
    (d_l_pull : PySem.W.codeIn K cd_l_pull "_law_pull" = true) (k_l_pull : PySem.W.keepIn K (.ref f_l_pull) = true)
    {f_l_names : Addr} {od_l_names an_l_names : Option Addr} {sl_l_names : Array (Option Value)} {oc_l_names kv_l_names dc_l_names pm_l_names cd_l_names ct_l_names : Value}
    (a_l_names : PySem.W.nsIn K mainGlobals "_law_names" = some (some (.ref f_l_names)))
    (l_l_names : K.lookup f_l_names = some ⟨oc_l_names, od_l_names, .func (PySem.W.fnOf "_law_names" "_law_names" (defArgs s_l_names) (defBody s_l_names) (defScope s_l_names) .none kv_l_names dc_l_names pm_l_names an_l_names cd_l_names ct_l_names), sl_l_names⟩)
    (d_l_names : PySem.W.codeIn K cd_l_names "_law_names" = true) (k_l_names : PySem.W.keepIn K (.ref f_l_names) = true)
    {f_l_shift : Addr} {od_l_shift an_l_shift : Option Addr} {sl_l_shift : Array (Option Value)} {oc_l_shift kv_l_shift dc_l_shift pm_l_shift cd_l_shift ct_l_shift : Value}
    (a_l_shift : PySem.W.nsIn K mainGlobals "_law_shift" = some (some (.ref f_l_shift)))
    (l_l_shift : K.lookup f_l_shift = some ⟨oc_l_shift, od_l_shift, .func (PySem.W.fnOf "_law_shift" "_law_shift" (defArgs s_l_shift) (defBody s_l_shift) (defScope s_l_shift) .none kv_l_shift dc_l_shift pm_l_shift an_l_shift cd_l_shift ct_l_shift), sl_l_shift⟩)
    (d_l_shift : PySem.W.codeIn K cd_l_shift "_law_shift" = true) (k_l_shift : PySem.W.keepIn K (.ref f_l_shift) = true)
    {f_l_rows : Addr} {od_l_rows an_l_rows : Option Addr} {sl_l_rows : Array (Option Value)} {oc_l_rows kv_l_rows dc_l_rows pm_l_rows cd_l_rows ct_l_rows : Value}
    (a_l_rows : PySem.W.nsIn K mainGlobals "_law_rows" = some (some (.ref f_l_rows)))
    (l_l_rows : K.lookup f_l_rows = some ⟨oc_l_rows, od_l_rows, .func (PySem.W.fnOf "_law_rows" "_law_rows" (defArgs s_l_rows) (defBody s_l_rows) (defScope s_l_rows) .none kv_l_rows dc_l_rows pm_l_rows an_l_rows cd_l_rows ct_l_rows), sl_l_rows⟩)
    (d_l_rows : PySem.W.codeIn K cd_l_rows "_law_rows" = true) (k_l_rows : PySem.W.keepIn K (.ref f_l_rows) = true)
    {f_l_pieces : Addr} {od_l_pieces an_l_pieces : Option Addr} {sl_l_pieces : Array (Option Value)} {oc_l_pieces kv_l_pieces dc_l_pieces pm_l_pieces cd_l_pieces ct_l_pieces : Value}
    (a_l_pieces : PySem.W.nsIn K mainGlobals "_law_pieces" = some (some (.ref f_l_pieces)))
    (l_l_pieces : K.lookup f_l_pieces = some ⟨oc_l_pieces, od_l_pieces, .func (PySem.W.fnOf "_law_pieces" "_law_pieces" (defArgs s_l_pieces) (defBody s_l_pieces) (defScope s_l_pieces) .none kv_l_pieces dc_l_pieces pm_l_pieces an_l_pieces cd_l_pieces ct_l_pieces), sl_l_pieces⟩)
    (d_l_pieces : PySem.W.codeIn K cd_l_pieces "_law_pieces" = true) (k_l_pieces : PySem.W.keepIn K (.ref f_l_pieces) = true)
    {f_l_joined : Addr} {od_l_joined an_l_joined : Option Addr} {sl_l_joined : Array (Option Value)} {oc_l_joined kv_l_joined dc_l_joined pm_l_joined cd_l_joined ct_l_joined : Value}
    (a_l_joined : PySem.W.nsIn K mainGlobals "_law_joined" = some (some (.ref f_l_joined)))
    (l_l_joined : K.lookup f_l_joined = some ⟨oc_l_joined, od_l_joined, .func (PySem.W.fnOf "_law_joined" "_law_joined" (defArgs s_l_joined) (defBody s_l_joined) (defScope s_l_joined) .none kv_l_joined dc_l_joined pm_l_joined an_l_joined cd_l_joined ct_l_joined), sl_l_joined⟩)
    (d_l_joined : PySem.W.codeIn K cd_l_joined "_law_joined" = true) (k_l_joined : PySem.W.keepIn K (.ref f_l_joined) = true)
    {f_l_shown : Addr} {od_l_shown an_l_shown : Option Addr} {sl_l_shown : Array (Option Value)} {oc_l_shown kv_l_shown dc_l_shown pm_l_shown cd_l_shown ct_l_shown : Value}
    (a_l_shown : PySem.W.nsIn K mainGlobals "_law_shown" = some (some (.ref f_l_shown)))
    (l_l_shown : K.lookup f_l_shown = some ⟨oc_l_shown, od_l_shown, .func (PySem.W.fnOf "_law_shown" "_law_shown" (defArgs s_l_shown) (defBody s_l_shown) (defScope s_l_shown) .none kv_l_shown dc_l_shown pm_l_shown an_l_shown cd_l_shown ct_l_shown), sl_l_shown⟩)
    (d_l_shown : PySem.W.codeIn K cd_l_shown "_law_shown" = true) (k_l_shown : PySem.W.keepIn K (.ref f_l_shown) = true)
    {f_l_near : Addr} {od_l_near an_l_near : Option Addr} {sl_l_near : Array (Option Value)} {oc_l_near kv_l_near dc_l_near pm_l_near cd_l_near ct_l_near : Value}
    (a_l_near : PySem.W.nsIn K mainGlobals "_law_near" = some (some (.ref f_l_near)))
    (l_l_near : K.lookup f_l_near = some ⟨oc_l_near, od_l_near, .func (PySem.W.fnOf "_law_near" "_law_near" (defArgs s_l_near) (defBody s_l_near) (defScope s_l_near) .none kv_l_near dc_l_near pm_l_near an_l_near cd_l_near ct_l_near), sl_l_near⟩)
    (d_l_near : PySem.W.codeIn K cd_l_near "_law_near" = true) (k_l_near : PySem.W.keepIn K (.ref f_l_near) = true)
    {f_l_spec : Addr} {od_l_spec an_l_spec : Option Addr} {sl_l_spec : Array (Option Value)} {oc_l_spec kv_l_spec dc_l_spec pm_l_spec cd_l_spec ct_l_spec : Value}
    (a_l_spec : PySem.W.nsIn K mainGlobals "_law_spec" = some (some (.ref f_l_spec)))
    (l_l_spec : K.lookup f_l_spec = some ⟨oc_l_spec, od_l_spec, .func (PySem.W.fnOf "_law_spec" "_law_spec" (defArgs s_l_spec) (defBody s_l_spec) (defScope s_l_spec) .none kv_l_spec dc_l_spec pm_l_spec an_l_spec cd_l_spec ct_l_spec), sl_l_spec⟩)
    (d_l_spec : PySem.W.codeIn K cd_l_spec "_law_spec" = true) (k_l_spec : PySem.W.keepIn K (.ref f_l_spec) = true)
    {f_l_made : Addr} {od_l_made an_l_made : Option Addr} {sl_l_made : Array (Option Value)} {oc_l_made kv_l_made dc_l_made pm_l_made cd_l_made ct_l_made : Value}
    (a_l_made : PySem.W.nsIn K mainGlobals "_law_made" = some (some (.ref f_l_made)))
    (l_l_made : K.lookup f_l_made = some ⟨oc_l_made, od_l_made, .func (PySem.W.fnOf "_law_made" "_law_made" (defArgs s_l_made) (defBody s_l_made) (defScope s_l_made) .none kv_l_made dc_l_made pm_l_made an_l_made cd_l_made ct_l_made), sl_l_made⟩)
    (d_l_made : PySem.W.codeIn K cd_l_made "_law_made" = true) (k_l_made : PySem.W.keepIn K (.ref f_l_made) = true)
    {f_l_spans : Addr} {od_l_spans an_l_spans : Option Addr} {sl_l_spans : Array (Option Value)} {oc_l_spans kv_l_spans dc_l_spans pm_l_spans cd_l_spans ct_l_spans : Value}
    (a_l_spans : PySem.W.nsIn K mainGlobals "_law_spans" = some (some (.ref f_l_spans)))
    (l_l_spans : K.lookup f_l_spans = some ⟨oc_l_spans, od_l_spans, .func (PySem.W.fnOf "_law_spans" "_law_spans" (defArgs s_l_spans) (defBody s_l_spans) (defScope s_l_spans) .none kv_l_spans dc_l_spans pm_l_spans an_l_spans cd_l_spans ct_l_spans), sl_l_spans⟩)
    (d_l_spans : PySem.W.codeIn K cd_l_spans "_law_spans" = true) (k_l_spans : PySem.W.keepIn K (.ref f_l_spans) = true)
    {f_l_is_number : Addr} {od_l_is_number an_l_is_number : Option Addr} {sl_l_is_number : Array (Option Value)} {oc_l_is_number kv_l_is_number dc_l_is_number pm_l_is_number cd_l_is_number ct_l_is_number : Value}
    (a_l_is_number : PySem.W.nsIn K mainGlobals "_law_is_number" = some (some (.ref f_l_is_number)))
    (l_l_is_number : K.lookup f_l_is_number = some ⟨oc_l_is_number, od_l_is_number, .func (PySem.W.fnOf "_law_is_number" "_law_is_number" (defArgs s_l_is_number) (defBody s_l_is_number) (defScope s_l_is_number) .none kv_l_is_number dc_l_is_number pm_l_is_number an_l_is_number cd_l_is_number ct_l_is_number), sl_l_is_number⟩)
    (d_l_is_number : PySem.W.codeIn K cd_l_is_number "_law_is_number" = true) (k_l_is_number : PySem.W.keepIn K (.ref f_l_is_number) = true)
    {f_l_same : Addr} {od_l_same an_l_same : Option Addr} {sl_l_same : Array (Option Value)} {oc_l_same kv_l_same dc_l_same pm_l_same cd_l_same ct_l_same : Value}
    (a_l_same : PySem.W.nsIn K mainGlobals "_law_same" = some (some (.ref f_l_same)))
    (l_l_same : K.lookup f_l_same = some ⟨oc_l_same, od_l_same, .func (PySem.W.fnOf "_law_same" "_law_same" (defArgs s_l_same) (defBody s_l_same) (defScope s_l_same) .none kv_l_same dc_l_same pm_l_same an_l_same cd_l_same ct_l_same), sl_l_same⟩)
    (d_l_same : PySem.W.codeIn K cd_l_same "_law_same" = true) (k_l_same : PySem.W.keepIn K (.ref f_l_same) = true)
    {f_l_no_place : Addr} {od_l_no_place an_l_no_place : Option Addr} {sl_l_no_place : Array (Option Value)} {oc_l_no_place kv_l_no_place dc_l_no_place pm_l_no_place cd_l_no_place ct_l_no_place : Value}
    (a_l_no_place : PySem.W.nsIn K mainGlobals "_law_no_place" = some (some (.ref f_l_no_place)))
    (l_l_no_place : K.lookup f_l_no_place = some ⟨oc_l_no_place, od_l_no_place, .func (PySem.W.fnOf "_law_no_place" "_law_no_place" (defArgs s_l_no_place) (defBody s_l_no_place) (defScope s_l_no_place) .none kv_l_no_place dc_l_no_place pm_l_no_place an_l_no_place cd_l_no_place ct_l_no_place), sl_l_no_place⟩)
    (d_l_no_place : PySem.W.codeIn K cd_l_no_place "_law_no_place" = true) (k_l_no_place : PySem.W.keepIn K (.ref f_l_no_place) = true)
    {f_l_fields : Addr} {od_l_fields an_l_fields : Option Addr} {sl_l_fields : Array (Option Value)} {oc_l_fields kv_l_fields dc_l_fields pm_l_fields cd_l_fields ct_l_fields : Value}
    (a_l_fields : PySem.W.nsIn K mainGlobals "_law_fields" = some (some (.ref f_l_fields)))
    (l_l_fields : K.lookup f_l_fields = some ⟨oc_l_fields, od_l_fields, .func (PySem.W.fnOf "_law_fields" "_law_fields" (defArgs s_l_fields) (defBody s_l_fields) (defScope s_l_fields) .none kv_l_fields dc_l_fields pm_l_fields an_l_fields cd_l_fields ct_l_fields), sl_l_fields⟩)
    (d_l_fields : PySem.W.codeIn K cd_l_fields "_law_fields" = true) (k_l_fields : PySem.W.keepIn K (.ref f_l_fields) = true)
    {f_l_right : Addr} {od_l_right an_l_right : Option Addr} {sl_l_right : Array (Option Value)} {oc_l_right kv_l_right dc_l_right pm_l_right cd_l_right ct_l_right : Value}
    (a_l_right : PySem.W.nsIn K mainGlobals "_law_right" = some (some (.ref f_l_right)))
    (l_l_right : K.lookup f_l_right = some ⟨oc_l_right, od_l_right, .func (PySem.W.fnOf "_law_right" "_law_right" (defArgs s_l_right) (defBody s_l_right) (defScope s_l_right) .none kv_l_right dc_l_right pm_l_right an_l_right cd_l_right ct_l_right), sl_l_right⟩)
    (d_l_right : PySem.W.codeIn K cd_l_right "_law_right" = true) (k_l_right : PySem.W.keepIn K (.ref f_l_right) = true)
    {f_law : Addr} {od_law an_law : Option Addr} {sl_law : Array (Option Value)} {oc_law kv_law dc_law pm_law cd_law ct_law : Value}
    (a_law : PySem.W.nsIn K mainGlobals "law" = some (some (.ref f_law)))
    (l_law : K.lookup f_law = some ⟨oc_law, od_law, .func (PySem.W.fnOf "law" "law" (defArgs s_law) (defBody s_law) (defScope s_law) .none kv_law dc_law pm_law an_law cd_law ct_law), sl_law⟩)
    (d_law : PySem.W.codeIn K cd_law "law" = true) (k_law : PySem.W.keepIn K (.ref f_law) = true)
    (n_ValueError : PySem.W.nsIn K mainGlobals "ValueError" = some none)
    (n_all : PySem.W.nsIn K mainGlobals "all" = some none)
    (n_bool : PySem.W.nsIn K mainGlobals "bool" = some none)
    (n_dict : PySem.W.nsIn K mainGlobals "dict" = some none)
    (n_enumerate : PySem.W.nsIn K mainGlobals "enumerate" = some none)
    (n_int : PySem.W.nsIn K mainGlobals "int" = some none)
    (n_isinstance : PySem.W.nsIn K mainGlobals "isinstance" = some none)
    (n_len : PySem.W.nsIn K mainGlobals "len" = some none)
    (n_list : PySem.W.nsIn K mainGlobals "list" = some none)
    (n_max : PySem.W.nsIn K mainGlobals "max" = some none)
    (n_min : PySem.W.nsIn K mainGlobals "min" = some none)
    (n_range : PySem.W.nsIn K mainGlobals "range" = some none)
    (n_sorted : PySem.W.nsIn K mainGlobals "sorted" = some none)
    (n_str : PySem.W.nsIn K mainGlobals "str" = some none)
    (n_tuple : PySem.W.nsIn K mainGlobals "tuple" = some none)
    (n_zip : PySem.W.nsIn K mainGlobals "zip" = some none)
    {v_c_FARTHEST_READING : Value} (c_FARTHEST_READING : PySem.W.nsIn K mainGlobals "FARTHEST_READING" = some (some v_c_FARTHEST_READING)) (r_c_FARTHEST_READING : RelV (.int 10000000000) v_c_FARTHEST_READING)
    {v_c_LAST : Value} (c_LAST : PySem.W.nsIn K mainGlobals "LAST" = some (some v_c_LAST)) (r_c_LAST : RelV (.int 1000000000) v_c_LAST)
    {v_c_LETTERS : Value} (c_LETTERS : PySem.W.nsIn K mainGlobals "LETTERS" = some (some v_c_LETTERS)) (r_c_LETTERS : RelV (.str (Str.ofString "abcdefghijklmnopqrstuvwxyz")) v_c_LETTERS)
    {v_c_LONGEST_NAME : Value} (c_LONGEST_NAME : PySem.W.nsIn K mainGlobals "LONGEST_NAME" = some (some v_c_LONGEST_NAME)) (r_c_LONGEST_NAME : RelV (.int 8) v_c_LONGEST_NAME)
    {v_c_MOST_ROWS : Value} (c_MOST_ROWS : PySem.W.nsIn K mainGlobals "MOST_ROWS" = some (some v_c_MOST_ROWS)) (r_c_MOST_ROWS : RelV (.int 21) v_c_MOST_ROWS)
    {v_c_MOST_SHIFT : Value} (c_MOST_SHIFT : PySem.W.nsIn K mainGlobals "MOST_SHIFT" = some (some v_c_MOST_SHIFT)) (r_c_MOST_SHIFT : RelV (.int 2880) v_c_MOST_SHIFT)
    (rd_Between : PySem.W.readsIn K C_Between (.type "type") = true)
    (gs_Between : PySem.W.specialIn K (.ref C_Between) "__getattribute__" = some (some (.builtin "type.__getattribute__")))
    (fc_Between : PySem.W.findCls K (.ref C_Between) (.type "type") "__init__" = some (.val (.ref f_Between_init)))
    (rd_Entry : PySem.W.readsIn K C_Entry (.type "type") = true)
    (gs_Entry : PySem.W.specialIn K (.ref C_Entry) "__getattribute__" = some (some (.builtin "type.__getattribute__")))
    (fc_Entry : PySem.W.findCls K (.ref C_Entry) (.type "type") "__init__" = some (.val (.ref f_Entry_init)))
    (rd_Within : PySem.W.readsIn K C_Within (.type "type") = true)
    (gs_Within : PySem.W.specialIn K (.ref C_Within) "__getattribute__" = some (some (.builtin "type.__getattribute__")))
    (fc_Within : PySem.W.findCls K (.ref C_Within) (.type "type") "__init__" = some (.val (.ref f_Within_init)))
    (a_Within_places : PySem.W.findIn K (.ref C_Within) "places" = some (some (.ref f_Entry_places)))
    (a_At_places : PySem.W.findIn K (.ref C_At) "places" = some (some (.ref f_Entry_places)))
    (a_Read_places : PySem.W.findIn K (.ref C_Read) "places" = some (some (.ref f_Between_places)))
    (a_At_spans : PySem.W.findIn K (.ref C_At) "spans" = some (some (.ref f_Within_spans)))
    (a_Read_spans : PySem.W.findIn K (.ref C_Read) "spans" = some (some (.ref f_Between_spans)))
    : ∃ fd : FuncData, (∀ (s : Shared) (v : Value), BindsTo s fd ⟨[v], []⟩ [("_law_script", v)]) ∧ ∀ base : Heap, K.In base → base.Ns mainGlobals mg → FnOk l.prog ww K mg base CX0 9 fa fd ["_law_script"] (pr1 (p_law K)) := by
  have e := hfa.symm.trans (PySem.W.mg_of X G a_law)
  cases e
  have T : Txt K mg C_Entry C_Within C_At C_Between C_Table C_Read C_Joint C_Sifted C_LogError C_NoEntry C_NoMoment C_NoName C_NoPlace C_NoReading C_TooMany := ⟨PySem.W.mg_of X G g_Entry, ⟨pg_Entry, hd_Entry, po_Entry, sa_Entry⟩, na_Entry_high, na_Entry_keeps, na_Entry_known, na_Entry_low, na_Entry_name, na_Entry_part, na_Entry_place, ⟨ia_Entry, ib_Entry, ic_Entry, id_Entry⟩, PySem.W.mg_of X G g_Within, ⟨pg_Within, hd_Within, po_Within, sa_Within⟩, na_Within_high, na_Within_keeps, na_Within_known, na_Within_low, na_Within_name, na_Within_part, na_Within_place, ⟨ia_Within, ib_Within, ic_Within, id_Within⟩, PySem.W.mg_of X G g_At, ⟨pg_At, hd_At, po_At, sa_At⟩, na_At_high, na_At_keeps, na_At_known, na_At_low, na_At_name, na_At_part, na_At_place, ⟨ia_At, ib_At, ic_At, id_At⟩, PySem.W.mg_of X G g_Between, ⟨pg_Between, hd_Between, po_Between, sa_Between⟩, na_Between_high, na_Between_keeps, na_Between_known, na_Between_low, na_Between_name, na_Between_part, na_Between_place, ⟨ia_Between, ib_Between, ic_Between, id_Between⟩, PySem.W.mg_of X G g_Table, ⟨pg_Table, hd_Table, po_Table, sa_Table⟩, na_Table_kept_rows, PySem.W.mg_of X G g_Read, ⟨pg_Read, hd_Read, po_Read, sa_Read⟩, na_Read_high, na_Read_keeps, na_Read_known, na_Read_low, na_Read_name, na_Read_part, na_Read_place, ⟨ia_Read, ib_Read, ic_Read, id_Read⟩, PySem.W.mg_of X G g_Joint, ⟨pg_Joint, hd_Joint, po_Joint, sa_Joint⟩, na_Joint_high, na_Joint_keeps, na_Joint_known, na_Joint_low, na_Joint_name, na_Joint_part, na_Joint_place, ⟨ia_Joint, ib_Joint, ic_Joint, id_Joint⟩, PySem.W.mg_of X G g_Sifted, ⟨pg_Sifted, hd_Sifted, po_Sifted, sa_Sifted⟩, na_Sifted_high, na_Sifted_keeps, na_Sifted_known, na_Sifted_low, na_Sifted_name, na_Sifted_part, na_Sifted_place, ⟨ia_Sifted, ib_Sifted, ic_Sifted, id_Sifted⟩, PySem.W.mg_of X G g_LogError, rd_LogError, gs_LogError, vv_LogError, PySem.W.mg_of X G g_NoEntry, ⟨⟨nm_NoEntry, q_NoEntry, N_NoEntry, bs_NoEntry, _, sn_NoEntry, su_NoEntry, ab_NoEntry, co_NoEntry, dd_NoEntry, m0_NoEntry, m1_NoEntry, m2_NoEntry, m3_NoEntry, m5_NoEntry, xl_NoEntry, (by first | rfl | decide +kernel)⟩, xs_NoEntry, xe_NoEntry, xt_NoEntry, xk_NoEntry⟩, ⟨xg_NoEntry, xh_NoEntry, xe_NoEntry, xd_NoEntry⟩, ⟨xg_NoEntry, xh_NoEntry, xe_NoEntry, xd_NoEntry, xc_NoEntry, xp, xq, xo_NoEntry⟩, xn_NoEntry, PySem.W.mg_of X G g_NoMoment, ⟨⟨nm_NoMoment, q_NoMoment, N_NoMoment, bs_NoMoment, _, sn_NoMoment, su_NoMoment, ab_NoMoment, co_NoMoment, dd_NoMoment, m0_NoMoment, m1_NoMoment, m2_NoMoment, m3_NoMoment, m5_NoMoment, xl_NoMoment, (by first | rfl | decide +kernel)⟩, xs_NoMoment, xe_NoMoment, xt_NoMoment, xk_NoMoment⟩, ⟨xg_NoMoment, xh_NoMoment, xe_NoMoment, xd_NoMoment⟩, ⟨xg_NoMoment, xh_NoMoment, xe_NoMoment, xd_NoMoment, xc_NoMoment, xp, xq, xo_NoMoment⟩, xn_NoMoment, PySem.W.mg_of X G g_NoName, ⟨⟨nm_NoName, q_NoName, N_NoName, bs_NoName, _, sn_NoName, su_NoName, ab_NoName, co_NoName, dd_NoName, m0_NoName, m1_NoName, m2_NoName, m3_NoName, m5_NoName, xl_NoName, (by first | rfl | decide +kernel)⟩, xs_NoName, xe_NoName, xt_NoName, xk_NoName⟩, ⟨xg_NoName, xh_NoName, xe_NoName, xd_NoName⟩, ⟨xg_NoName, xh_NoName, xe_NoName, xd_NoName, xc_NoName, xp, xq, xo_NoName⟩, xn_NoName, PySem.W.mg_of X G g_NoPlace, ⟨⟨nm_NoPlace, q_NoPlace, N_NoPlace, bs_NoPlace, _, sn_NoPlace, su_NoPlace, ab_NoPlace, co_NoPlace, dd_NoPlace, m0_NoPlace, m1_NoPlace, m2_NoPlace, m3_NoPlace, m5_NoPlace, xl_NoPlace, (by first | rfl | decide +kernel)⟩, xs_NoPlace, xe_NoPlace, xt_NoPlace, xk_NoPlace⟩, ⟨xg_NoPlace, xh_NoPlace, xe_NoPlace, xd_NoPlace⟩, ⟨xg_NoPlace, xh_NoPlace, xe_NoPlace, xd_NoPlace, xc_NoPlace, xp, xq, xo_NoPlace⟩, xn_NoPlace, PySem.W.mg_of X G g_NoReading, ⟨⟨nm_NoReading, q_NoReading, N_NoReading, bs_NoReading, _, sn_NoReading, su_NoReading, ab_NoReading, co_NoReading, dd_NoReading, m0_NoReading, m1_NoReading, m2_NoReading, m3_NoReading, m5_NoReading, xl_NoReading, (by first | rfl | decide +kernel)⟩, xs_NoReading, xe_NoReading, xt_NoReading, xk_NoReading⟩, ⟨xg_NoReading, xh_NoReading, xe_NoReading, xd_NoReading⟩, ⟨xg_NoReading, xh_NoReading, xe_NoReading, xd_NoReading, xc_NoReading, xp, xq, xo_NoReading⟩, xn_NoReading, PySem.W.mg_of X G g_TooMany, ⟨⟨nm_TooMany, q_TooMany, N_TooMany, bs_TooMany, _, sn_TooMany, su_TooMany, ab_TooMany, co_TooMany, dd_TooMany, m0_TooMany, m1_TooMany, m2_TooMany, m3_TooMany, m5_TooMany, xl_TooMany, (by first | rfl | decide +kernel)⟩, xs_TooMany, xe_TooMany, xt_TooMany, xk_TooMany⟩, ⟨xg_TooMany, xh_TooMany, xe_TooMany, xd_TooMany⟩, ⟨xg_TooMany, xh_TooMany, xe_TooMany, xd_TooMany, xc_TooMany, xp, xq, xo_TooMany⟩, xn_TooMany, kit_self, (kit_rt su_NoPlace_ValueError (by decide +kernel)), (kit_rr su_NoPlace_NoEntry xd_NoEntry xt_NoEntry (.inl ne_NoPlace_NoEntry)), (kit_rr su_NoPlace_NoMoment xd_NoMoment xt_NoMoment (.inl ne_NoPlace_NoMoment)), (kit_rr su_NoPlace_NoName xd_NoName xt_NoName (.inl ne_NoPlace_NoName)), (kit_rr su_NoPlace_NoReading xd_NoReading xt_NoReading (.inl ne_NoPlace_NoReading)), (kit_rr su_NoPlace_TooMany xd_TooMany xt_TooMany (.inl ne_NoPlace_TooMany)), (PySem.W.exm_ref xe_LogError xd_LogError xt_LogError su_NoPlace_LogError), PySem.W.mg_none_of X G n_ValueError, PySem.W.mg_none_of X G n_all, PySem.W.mg_none_of X G n_bool, PySem.W.mg_none_of X G n_dict, PySem.W.mg_none_of X G n_enumerate, PySem.W.mg_none_of X G n_int, PySem.W.mg_none_of X G n_isinstance, PySem.W.mg_none_of X G n_len, PySem.W.mg_none_of X G n_list, PySem.W.mg_none_of X G n_max, PySem.W.mg_none_of X G n_min, PySem.W.mg_none_of X G n_range, PySem.W.mg_none_of X G n_sorted, PySem.W.mg_none_of X G n_str, PySem.W.mg_none_of X G n_tuple, PySem.W.mg_none_of X G n_zip, ⟨_, PySem.W.mg_of X G c_FARTHEST_READING, r_c_FARTHEST_READING⟩, ⟨_, PySem.W.mg_of X G c_LAST, r_c_LAST⟩, ⟨_, PySem.W.mg_of X G c_LETTERS, r_c_LETTERS⟩, ⟨_, PySem.W.mg_of X G c_LONGEST_NAME, r_c_LONGEST_NAME⟩, ⟨_, PySem.W.mg_of X G c_MOST_ROWS, r_c_MOST_ROWS⟩, ⟨_, PySem.W.mg_of X G c_MOST_SHIFT, r_c_MOST_SHIFT⟩, (kit_rr su_Entry_Within hd_Within ty_Within (.inl ne_Entry_Within)), (kit_rr su_Entry_At hd_At ty_At (.inl ne_Entry_At)), (kit_rr su_Entry_Between hd_Between ty_Between (.inl ne_Entry_Between)), (kit_rr su_Entry_Read hd_Read ty_Read (.inl ne_Entry_Read)), (kit_rr su_Entry_Joint hd_Joint ty_Joint (.inl ne_Entry_Joint)), (kit_rr su_Entry_Sifted hd_Sifted ty_Sifted (.inl ne_Entry_Sifted)), (kit_rr su_Within_Entry hd_Entry ty_Entry (.inr rfl)), (kit_rr su_Within_At hd_At ty_At (.inl ne_Within_At)), (kit_rr su_Within_Between hd_Between ty_Between (.inl ne_Within_Between)), (kit_rr su_Within_Read hd_Read ty_Read (.inl ne_Within_Read)), (kit_rr su_Within_Joint hd_Joint ty_Joint (.inl ne_Within_Joint)), (kit_rr su_Within_Sifted hd_Sifted ty_Sifted (.inl ne_Within_Sifted)), (kit_rr su_At_Entry hd_Entry ty_Entry (.inr rfl)), (kit_rr su_At_Within hd_Within ty_Within (.inr rfl)), (kit_rr su_At_Between hd_Between ty_Between (.inl ne_At_Between)), (kit_rr su_At_Read hd_Read ty_Read (.inl ne_At_Read)), (kit_rr su_At_Joint hd_Joint ty_Joint (.inl ne_At_Joint)), (kit_rr su_At_Sifted hd_Sifted ty_Sifted (.inl ne_At_Sifted)), (kit_rr su_Between_Entry hd_Entry ty_Entry (.inr rfl)), (kit_rr su_Between_Within hd_Within ty_Within (.inl ne_Between_Within)), (kit_rr su_Between_At hd_At ty_At (.inl ne_Between_At)), (kit_rr su_Between_Read hd_Read ty_Read (.inl ne_Between_Read)), (kit_rr su_Between_Joint hd_Joint ty_Joint (.inl ne_Between_Joint)), (kit_rr su_Between_Sifted hd_Sifted ty_Sifted (.inl ne_Between_Sifted)), (kit_rr su_Read_Entry hd_Entry ty_Entry (.inr rfl)), (kit_rr su_Read_Within hd_Within ty_Within (.inl ne_Read_Within)), (kit_rr su_Read_At hd_At ty_At (.inl ne_Read_At)), (kit_rr su_Read_Between hd_Between ty_Between (.inr rfl)), (kit_rr su_Read_Joint hd_Joint ty_Joint (.inl ne_Read_Joint)), (kit_rr su_Read_Sifted hd_Sifted ty_Sifted (.inl ne_Read_Sifted)), (kit_rr su_Joint_Entry hd_Entry ty_Entry (.inr rfl)), (kit_rr su_Joint_Within hd_Within ty_Within (.inl ne_Joint_Within)), (kit_rr su_Joint_At hd_At ty_At (.inl ne_Joint_At)), (kit_rr su_Joint_Between hd_Between ty_Between (.inl ne_Joint_Between)), (kit_rr su_Joint_Read hd_Read ty_Read (.inl ne_Joint_Read)), (kit_rr su_Joint_Sifted hd_Sifted ty_Sifted (.inl ne_Joint_Sifted)), (kit_rr su_Sifted_Entry hd_Entry ty_Entry (.inr rfl)), (kit_rr su_Sifted_Within hd_Within ty_Within (.inl ne_Sifted_Within)), (kit_rr su_Sifted_At hd_At ty_At (.inl ne_Sifted_At)), (kit_rr su_Sifted_Between hd_Between ty_Between (.inl ne_Sifted_Between)), (kit_rr su_Sifted_Read hd_Read ty_Read (.inl ne_Sifted_Read)), (kit_rr su_Sifted_Joint hd_Joint ty_Joint (.inl ne_Sifted_Joint))⟩
  refine ⟨PySem.W.fnOf "law" "law" (defArgs s_law) (defBody s_law) (defScope s_law) .none kv_law dc_law pm_law an_law cd_law ct_law, fun s v => .of_eq rfl, fun base _ _ => ?_⟩
  have F_is_whole := fun_mk (st := s_is_whole) l_is_whole d_is_whole k_is_whole
  have G_is_whole := ok_is_whole (P := l.prog) (ww := ww) (base := base) F_is_whole T 
  have c_is_whole : Fnc l.prog ww K mg base CX0 1 "is_whole" (pr3 (p_is_whole)) := ⟨_, _, _, G_is_whole, PySem.W.mg_of X G a_is_whole, k_is_whole, F_is_whole.binds (ps := ["thing", "low", "high"]) fun _ _ _ _ _ _ us hl => match us, hl with | [_, _, _], _ => rfl⟩
  have F_is_moment := fun_mk (st := s_is_moment) l_is_moment d_is_moment k_is_moment
  have G_is_moment := ok_is_moment (P := l.prog) (ww := ww) (base := base) F_is_moment T c_is_whole
  have c_is_moment : Fnc l.prog ww K mg base CX0 2 "is_moment" (pr1 (p_is_moment)) := ⟨_, _, _, G_is_moment, PySem.W.mg_of X G a_is_moment, k_is_moment, F_is_moment.binds (ps := ["thing"]) fun _ _ _ _ _ _ us hl => match us, hl with | [_], _ => rfl⟩
  have F_is_shift := fun_mk (st := s_is_shift) l_is_shift d_is_shift k_is_shift
  have G_is_shift := ok_is_shift (P := l.prog) (ww := ww) (base := base) F_is_shift T c_is_whole
  have c_is_shift : Fnc l.prog ww K mg base CX0 2 "is_shift" (pr1 (p_is_shift)) := ⟨_, _, _, G_is_shift, PySem.W.mg_of X G a_is_shift, k_is_shift, F_is_shift.binds (ps := ["thing"]) fun _ _ _ _ _ _ us hl => match us, hl with | [_], _ => rfl⟩
  have F_is_row := fun_mk (st := s_is_row) l_is_row d_is_row k_is_row
  have G_is_row := ok_is_row (P := l.prog) (ww := ww) (base := base) F_is_row T c_is_moment c_is_shift
  have c_is_row : Fnc l.prog ww K mg base CX0 3 "is_row" (pr1 (p_is_row)) := ⟨_, _, _, G_is_row, PySem.W.mg_of X G a_is_row, k_is_row, F_is_row.binds (ps := ["thing"]) fun _ _ _ _ _ _ us hl => match us, hl with | [_], _ => rfl⟩
  have F_fault_at := fun_mk (st := s_fault_at) l_fault_at d_fault_at k_fault_at
  have G_fault_at := ok_fault_at (P := l.prog) (ww := ww) (base := base) F_fault_at T c_is_row
  have c_fault_at : Fnc l.prog ww K mg base CX0 4 "fault_at" (pr1 (p_fault_at)) := ⟨_, _, _, G_fault_at, PySem.W.mg_of X G a_fault_at, k_fault_at, F_fault_at.binds (ps := ["rows"]) fun _ _ _ _ _ _ us hl => match us, hl with | [_], _ => rfl⟩
  have F_is_reading := fun_mk (st := s_is_reading) l_is_reading d_is_reading k_is_reading
  have G_is_reading := ok_is_reading (P := l.prog) (ww := ww) (base := base) F_is_reading T c_is_whole
  have c_is_reading : Fnc l.prog ww K mg base CX0 2 "is_reading" (pr1 (p_is_reading)) := ⟨_, _, _, G_is_reading, PySem.W.mg_of X G a_is_reading, k_is_reading, F_is_reading.binds (ps := ["thing"]) fun _ _ _ _ _ _ us hl => match us, hl with | [_], _ => rfl⟩
  have F_Table_init := fun_mk (st := s_Table_init) l_Table_init d_Table_init k_Table_init
  have G_Table_init := ok_Table_init (P := l.prog) (ww := ww) (base := base) F_Table_init T c_fault_at
  have c_Table_init : Mkr l.prog ww K mg base CX0 C_Table 5 (pr2 (p_Table_init C_Table)) := ⟨_, _, _, G_Table_init, ⟨mk_Table, a_Table_init, i_Table_init, kc_Table⟩, F_Table_init.binds (ps := ["self", "rows"]) fun _ _ _ _ _ _ us hl => match us, hl with | [_, _], _ => rfl⟩
  have F_joined := fun_mk (st := s_joined) l_joined d_joined k_joined
  have G_joined := ok_joined (P := l.prog) (ww := ww) (base := base) F_joined T 
  have c_joined : Fnc l.prog ww K mg base CX0 1 "joined" (pr1 (p_joined)) := ⟨_, _, _, G_joined, PySem.W.mg_of X G a_joined, k_joined, F_joined.binds (ps := ["stretches"]) fun _ _ _ _ _ _ us hl => match us, hl with | [_], _ => rfl⟩
  have F_is_stretch := fun_mk (st := s_is_stretch) l_is_stretch d_is_stretch k_is_stretch
  have G_is_stretch := ok_is_stretch (P := l.prog) (ww := ww) (base := base) F_is_stretch T 
  have c_is_stretch : Fnc l.prog ww K mg base CX0 1 "is_stretch" (pr1 (p_is_stretch)) := ⟨_, _, _, G_is_stretch, PySem.W.mg_of X G a_is_stretch, k_is_stretch, F_is_stretch.binds (ps := ["thing"]) fun _ _ _ _ _ _ us hl => match us, hl with | [_], _ => rfl⟩
  have F_NoReading_init := fun_mk (st := s_NoReading_init) l_NoReading_init d_NoReading_init k_NoReading_init
  have G_NoReading_init := ok_NoReading_init (P := l.prog) (ww := ww) (base := base) F_NoReading_init T 
  have c_NoReading_init : Mxr l.prog ww K mg base C_NoReading 1 (pr2 (p_NoReading_init C_NoReading)) := ⟨_, _, _, G_NoReading_init, T.oex_NoReading, a_NoReading_init, i_NoReading_init, F_NoReading_init.binds (ps := ["self", "found"]) fun _ _ _ _ _ _ us hl => match us, hl with | [_, _], _ => rfl⟩
  have F_Table_pieces := fun_mk (st := s_Table_pieces) l_Table_pieces d_Table_pieces k_Table_pieces
  have G_Table_pieces := ok_Table_pieces (P := l.prog) (ww := ww) (base := base) F_Table_pieces T 
  have c_Table_pieces : Mth l.prog ww K mg base CX0 C_Table 1 "pieces" (pr1 (p_Table_pieces C_Table)) := ⟨_, _, _, G_Table_pieces, ⟨a_Table_pieces, i_Table_pieces, k_Table_pieces⟩, F_Table_pieces.binds (ps := ["self"]) fun _ _ _ _ _ _ us hl => match us, hl with | [_], _ => rfl⟩
  have F_spans_of := fun_mk (st := s_spans_of) l_spans_of d_spans_of k_spans_of
  have G_spans_of := ok_spans_of (P := l.prog) (ww := ww) (base := base) F_spans_of T c_is_stretch c_joined
  have c_spans_of : Fnc l.prog ww K mg base CX0 2 "spans_of" (pr1 (p_spans_of)) := ⟨_, _, _, G_spans_of, PySem.W.mg_of X G a_spans_of, k_spans_of, F_spans_of.binds (ps := ["stretches"]) fun _ _ _ _ _ _ us hl => match us, hl with | [_], _ => rfl⟩
  have F_Table_moments_between := fun_mk (st := s_Table_moments_between) l_Table_moments_between d_Table_moments_between k_Table_moments_between
  have G_Table_moments_between := ok_Table_moments_between (P := l.prog) (ww := ww) (base := base) F_Table_moments_between T c_NoReading_init c_Table_pieces c_is_reading c_spans_of
  have c_Table_moments_between : Mth l.prog ww K mg base (L2.CX l.prog ww) C_Table 3 "moments_between" (pr3 (p_Table_moments_between C_Table C_NoReading)) := ⟨_, _, _, G_Table_moments_between, ⟨a_Table_moments_between, i_Table_moments_between, k_Table_moments_between⟩, F_Table_moments_between.binds (ps := ["self", "low", "high"]) fun _ _ _ _ _ _ us hl => match us, hl with | [_, _, _], _ => rfl⟩
  have F_is_name := fun_mk (st := s_is_name) l_is_name d_is_name k_is_name
  have G_is_name := ok_is_name (P := l.prog) (ww := ww) (base := base) F_is_name T 
  have c_is_name : Fnc l.prog ww K mg base CX0 1 "is_name" (pr1 (p_is_name)) := ⟨_, _, _, G_is_name, PySem.W.mg_of X G a_is_name, k_is_name, F_is_name.binds (ps := ["thing"]) fun _ _ _ _ _ _ us hl => match us, hl with | [_], _ => rfl⟩
  have F_NoName_init := fun_mk (st := s_NoName_init) l_NoName_init d_NoName_init k_NoName_init
  have G_NoName_init := ok_NoName_init (P := l.prog) (ww := ww) (base := base) F_NoName_init T 
  have c_NoName_init : Mxr l.prog ww K mg base C_NoName 1 (pr2 (p_NoName_init C_NoName)) := ⟨_, _, _, G_NoName_init, T.oex_NoName, a_NoName_init, i_NoName_init, F_NoName_init.binds (ps := ["self", "found"]) fun _ _ _ _ _ _ us hl => match us, hl with | [_, _], _ => rfl⟩
  have F_NoPlace_init := fun_mk (st := s_NoPlace_init) l_NoPlace_init d_NoPlace_init k_NoPlace_init
  have G_NoPlace_init := ok_NoPlace_init (P := l.prog) (ww := ww) (base := base) F_NoPlace_init T 
  have c_NoPlace_init : Mxr l.prog ww K mg base C_NoPlace 1 (pr2 (p_NoPlace_init C_NoPlace)) := ⟨_, _, _, G_NoPlace_init, T.oex_NoPlace, a_NoPlace_init, i_NoPlace_init, F_NoPlace_init.binds (ps := ["self", "found"]) fun _ _ _ _ _ _ us hl => match us, hl with | [_, _], _ => rfl⟩
  have F_NoMoment_init := fun_mk (st := s_NoMoment_init) l_NoMoment_init d_NoMoment_init k_NoMoment_init
  have G_NoMoment_init := ok_NoMoment_init (P := l.prog) (ww := ww) (base := base) F_NoMoment_init T 
  have c_NoMoment_init : Mxr l.prog ww K mg base C_NoMoment 1 (pr2 (p_NoMoment_init C_NoMoment)) := ⟨_, _, _, G_NoMoment_init, T.oex_NoMoment, a_NoMoment_init, i_NoMoment_init, F_NoMoment_init.binds (ps := ["self", "found"]) fun _ _ _ _ _ _ us hl => match us, hl with | [_, _], _ => rfl⟩
  have F_Entry_init := fun_mk (st := s_Entry_init) l_Entry_init d_Entry_init k_Entry_init
  have G_Entry_init := ok_Entry_init (P := l.prog) (ww := ww) (base := base) F_Entry_init T c_NoName_init c_is_name
  have c_Entry_init : Mkr l.prog ww K mg base (L2.CX l.prog ww) C_Entry 3 (pr2 (p_Entry_init K C_NoName)) := ⟨_, _, _, G_Entry_init, ⟨mk_Entry, a_Entry_init, i_Entry_init, kc_Entry⟩, F_Entry_init.binds (ps := ["self", "name"]) fun _ _ _ _ _ _ us hl => match us, hl with | [_, _], _ => rfl⟩
  have b_Entry_init : Bin l.prog ww K mg base (L2.CX l.prog ww) C_Entry 3 (pr2 (p_Entry_init K C_NoName)) := ⟨_, _, _, G_Entry_init, rd_Entry, gs_Entry, fc_Entry, k_Entry_init, F_Entry_init.binds (ps := ["self", "name"]) fun _ _ _ _ _ _ us hl => match us, hl with | [_, _], _ => rfl⟩
  have F_Within_init := fun_mk (st := s_Within_init) l_Within_init d_Within_init k_Within_init
  have G_Within_init := ok_Within_init (P := l.prog) (ww := ww) (base := base) F_Within_init T c_NoMoment_init c_is_moment b_Entry_init
  have c_Within_init : Mkr l.prog ww K mg base (L2.CX l.prog ww) C_Within 4 (pr4 (p_Within_init K C_NoName C_NoMoment)) := ⟨_, _, _, G_Within_init, ⟨mk_Within, a_Within_init, i_Within_init, kc_Within⟩, F_Within_init.binds (ps := ["self", "name", "low", "high"]) fun _ _ _ _ _ _ us hl => match us, hl with | [_, _, _, _], _ => rfl⟩
  have b_Within_init : Bin l.prog ww K mg base (L2.CX l.prog ww) C_Within 4 (pr4 (p_Within_init K C_NoName C_NoMoment)) := ⟨_, _, _, G_Within_init, rd_Within, gs_Within, fc_Within, k_Within_init, F_Within_init.binds (ps := ["self", "name", "low", "high"]) fun _ _ _ _ _ _ us hl => match us, hl with | [_, _, _, _], _ => rfl⟩
  have F_At_init := fun_mk (st := s_At_init) l_At_init d_At_init k_At_init
  have G_At_init := ok_At_init (P := l.prog) (ww := ww) (base := base) F_At_init T b_Within_init
  have c_At_init : Mkr l.prog ww K mg base (L2.CX l.prog ww) C_At 5 (pr3 (p_At_init K C_NoName C_NoMoment)) := ⟨_, _, _, G_At_init, ⟨mk_At, a_At_init, i_At_init, kc_At⟩, F_At_init.binds (ps := ["self", "name", "moment"]) fun _ _ _ _ _ _ us hl => match us, hl with | [_, _, _], _ => rfl⟩
  have F_Between_init := fun_mk (st := s_Between_init) l_Between_init d_Between_init k_Between_init
  have G_Between_init := ok_Between_init (P := l.prog) (ww := ww) (base := base) F_Between_init T c_NoName_init c_NoReading_init c_is_name c_is_reading b_Entry_init
  have c_Between_init : Mkr l.prog ww K mg base (L2.CX l.prog ww) C_Between 4 (pr5 (p_Between_init K C_NoName C_NoReading)) := ⟨_, _, _, G_Between_init, ⟨mk_Between, a_Between_init, i_Between_init, kc_Between⟩, F_Between_init.binds (ps := ["self", "name", "place", "low", "high"]) fun _ _ _ _ _ _ us hl => match us, hl with | [_, _, _, _, _], _ => rfl⟩
  have b_Between_init : Bin l.prog ww K mg base (L2.CX l.prog ww) C_Between 4 (pr5 (p_Between_init K C_NoName C_NoReading)) := ⟨_, _, _, G_Between_init, rd_Between, gs_Between, fc_Between, k_Between_init, F_Between_init.binds (ps := ["self", "name", "place", "low", "high"]) fun _ _ _ _ _ _ us hl => match us, hl with | [_, _, _, _, _], _ => rfl⟩
  have F_Read_init := fun_mk (st := s_Read_init) l_Read_init d_Read_init k_Read_init
  have G_Read_init := ok_Read_init (P := l.prog) (ww := ww) (base := base) F_Read_init T b_Between_init
  have c_Read_init : Mkr l.prog ww K mg base (L2.CX l.prog ww) C_Read 5 (pr4 (p_Read_init K C_NoName C_NoReading)) := ⟨_, _, _, G_Read_init, ⟨mk_Read, a_Read_init, i_Read_init, kc_Read⟩, F_Read_init.binds (ps := ["self", "name", "place", "reading"]) fun _ _ _ _ _ _ us hl => match us, hl with | [_, _, _, _], _ => rfl⟩
  have F_Entry_places := fun_mk (st := s_Entry_places) l_Entry_places d_Entry_places k_Entry_places
  have G_Entry_places := ok_Entry_places (P := l.prog) (ww := ww) (base := base) F_Entry_places T 
  have c_Entry_places : Mth l.prog ww K mg base (L2.CX l.prog ww) C_Entry 1 "places" (pr1 (p_Entry_places)) := ⟨_, _, _, G_Entry_places, ⟨a_Entry_places, i_Entry_places, k_Entry_places⟩, F_Entry_places.binds (ps := ["self"]) fun _ _ _ _ _ _ us hl => match us, hl with | [_], _ => rfl⟩
  have F_Between_places := fun_mk (st := s_Between_places) l_Between_places d_Between_places k_Between_places
  have G_Between_places := ok_Between_places (P := l.prog) (ww := ww) (base := base) F_Between_places T 
  have c_Between_places : Mth l.prog ww K mg base (L2.CX l.prog ww) C_Between 1 "places" (pr1 (p_Between_places K)) := ⟨_, _, _, G_Between_places, ⟨a_Between_places, i_Between_places, k_Between_places⟩, F_Between_places.binds (ps := ["self"]) fun _ _ _ _ _ _ us hl => match us, hl with | [_], _ => rfl⟩
  have d_places : MthD l.prog ww K mg base (L2.CX l.prog ww) simple (EC.of (EC.mk C_Entry C_Within C_At C_Between C_Read C_Joint C_Sifted)) 1 "places" (fun k => pr1 (pE_places K (EC.mk C_Entry C_Within C_At C_Between C_Read C_Joint C_Sifted) k)) := by
    intro k hk
    cases k
    case any => exact ⟨T.cl_Entry, ⟨_, _, _, fnok_weak G_Entry_places (by decide) (pr1_mono fun _ _ _ _ => wk_places_any), ⟨a_Entry_places, i_Entry_places, k_Entry_places⟩, F_Entry_places.binds (ps := ["self"]) fun _ _ _ _ _ _ us hl => match us, hl with | [_], _ => rfl⟩⟩
    case within => exact ⟨T.cl_Within, ⟨_, _, _, fnok_weak G_Entry_places (by decide) (pr1_mono fun _ _ _ _ => wk_places_within), ⟨a_Within_places, i_Entry_places, k_Entry_places⟩, F_Entry_places.binds (ps := ["self"]) fun _ _ _ _ _ _ us hl => match us, hl with | [_], _ => rfl⟩⟩
    case att => exact ⟨T.cl_At, ⟨_, _, _, fnok_weak G_Entry_places (by decide) (pr1_mono fun _ _ _ _ => wk_places_att), ⟨a_At_places, i_Entry_places, k_Entry_places⟩, F_Entry_places.binds (ps := ["self"]) fun _ _ _ _ _ _ us hl => match us, hl with | [_], _ => rfl⟩⟩
    case between => exact ⟨T.cl_Between, ⟨_, _, _, fnok_weak G_Between_places (by decide) (pr1_mono fun _ _ _ _ => wk_places_between), ⟨a_Between_places, i_Between_places, k_Between_places⟩, F_Between_places.binds (ps := ["self"]) fun _ _ _ _ _ _ us hl => match us, hl with | [_], _ => rfl⟩⟩
    case read => exact ⟨T.cl_Read, ⟨_, _, _, fnok_weak G_Between_places (by decide) (pr1_mono fun _ _ _ _ => wk_places_read), ⟨a_Read_places, i_Between_places, k_Between_places⟩, F_Between_places.binds (ps := ["self"]) fun _ _ _ _ _ _ us hl => match us, hl with | [_], _ => rfl⟩⟩
    case joint => exact hk.elim
    case sifted => exact hk.elim
  have F_Entry_spans := fun_mk (st := s_Entry_spans) l_Entry_spans d_Entry_spans k_Entry_spans
  have G_Entry_spans := ok_Entry_spans (P := l.prog) (ww := ww) (base := base) F_Entry_spans T 
  have c_Entry_spans : Mth l.prog ww K mg base (L2.CX l.prog ww) C_Entry 1 "spans" (pr2 (p_Entry_spans)) := ⟨_, _, _, G_Entry_spans, ⟨a_Entry_spans, i_Entry_spans, k_Entry_spans⟩, F_Entry_spans.binds (ps := ["self", "tables"]) fun _ _ _ _ _ _ us hl => match us, hl with | [_, _], _ => rfl⟩
  have F_Within_spans := fun_mk (st := s_Within_spans) l_Within_spans d_Within_spans k_Within_spans
  have G_Within_spans := ok_Within_spans (P := l.prog) (ww := ww) (base := base) F_Within_spans T c_spans_of
  have c_Within_spans : Mth l.prog ww K mg base (L2.CX l.prog ww) C_Within 3 "spans" (pr2 (p_Within_spans K)) := ⟨_, _, _, G_Within_spans, ⟨a_Within_spans, i_Within_spans, k_Within_spans⟩, F_Within_spans.binds (ps := ["self", "tables"]) fun _ _ _ _ _ _ us hl => match us, hl with | [_, _], _ => rfl⟩
  have F_Between_spans := fun_mk (st := s_Between_spans) l_Between_spans d_Between_spans k_Between_spans
  have G_Between_spans := ok_Between_spans (P := l.prog) (ww := ww) (base := base) F_Between_spans T c_NoPlace_init c_Table_moments_between
  have c_Between_spans : Mth l.prog ww K mg base (L2.CX l.prog ww) C_Between 4 "spans" (pr2 (p_Between_spans K C_Table C_NoPlace)) := ⟨_, _, _, G_Between_spans, ⟨a_Between_spans, i_Between_spans, k_Between_spans⟩, F_Between_spans.binds (ps := ["self", "tables"]) fun _ _ _ _ _ _ us hl => match us, hl with | [_, _], _ => rfl⟩
  have d_spans : MthD l.prog ww K mg base (L2.CX l.prog ww) simple (EC.of (EC.mk C_Entry C_Within C_At C_Between C_Read C_Joint C_Sifted)) 4 "spans" (fun k => pr2 (pE_spans K (EC.mk C_Entry C_Within C_At C_Between C_Read C_Joint C_Sifted) C_Table C_NoPlace k)) := by
    intro k hk
    cases k
    case any => exact ⟨T.cl_Entry, ⟨_, _, _, fnok_weak G_Entry_spans (by decide) (pr2_mono fun _ _ _ _ _ => wk_spans_any), ⟨a_Entry_spans, i_Entry_spans, k_Entry_spans⟩, F_Entry_spans.binds (ps := ["self", "tables"]) fun _ _ _ _ _ _ us hl => match us, hl with | [_, _], _ => rfl⟩⟩
    case within => exact ⟨T.cl_Within, ⟨_, _, _, fnok_weak G_Within_spans (by decide) (pr2_mono fun _ _ _ _ _ => wk_spans_within), ⟨a_Within_spans, i_Within_spans, k_Within_spans⟩, F_Within_spans.binds (ps := ["self", "tables"]) fun _ _ _ _ _ _ us hl => match us, hl with | [_, _], _ => rfl⟩⟩
    case att => exact ⟨T.cl_At, ⟨_, _, _, fnok_weak G_Within_spans (by decide) (pr2_mono fun _ _ _ _ _ => wk_spans_att), ⟨a_At_spans, i_Within_spans, k_Within_spans⟩, F_Within_spans.binds (ps := ["self", "tables"]) fun _ _ _ _ _ _ us hl => match us, hl with | [_, _], _ => rfl⟩⟩
    case between => exact ⟨T.cl_Between, ⟨_, _, _, fnok_weak G_Between_spans (by decide) (pr2_mono fun _ _ _ _ _ => wk_spans_between), ⟨a_Between_spans, i_Between_spans, k_Between_spans⟩, F_Between_spans.binds (ps := ["self", "tables"]) fun _ _ _ _ _ _ us hl => match us, hl with | [_, _], _ => rfl⟩⟩
    case read => exact ⟨T.cl_Read, ⟨_, _, _, fnok_weak G_Between_spans (by decide) (pr2_mono fun _ _ _ _ _ => wk_spans_read), ⟨a_Read_spans, i_Between_spans, k_Between_spans⟩, F_Between_spans.binds (ps := ["self", "tables"]) fun _ _ _ _ _ _ us hl => match us, hl with | [_, _], _ => rfl⟩⟩
    case joint => exact hk.elim
    case sifted => exact hk.elim
  have F_Entry_word := fun_mk (st := s_Entry_word) l_Entry_word d_Entry_word k_Entry_word
  have G_Entry_word := ok_Entry_word (P := l.prog) (ww := ww) (base := base) F_Entry_word T 
  have c_Entry_word : Mth l.prog ww K mg base (L2.CX l.prog ww) C_Entry 1 "word" (pr1 (p_Entry_word)) := ⟨_, _, _, G_Entry_word, ⟨a_Entry_word, i_Entry_word, k_Entry_word⟩, F_Entry_word.binds (ps := ["self"]) fun _ _ _ _ _ _ us hl => match us, hl with | [_], _ => rfl⟩
  have F_Within_word := fun_mk (st := s_Within_word) l_Within_word d_Within_word k_Within_word
  have G_Within_word := ok_Within_word (P := l.prog) (ww := ww) (base := base) F_Within_word T 
  have c_Within_word : Mth l.prog ww K mg base (L2.CX l.prog ww) C_Within 1 "word" (pr1 (p_Within_word)) := ⟨_, _, _, G_Within_word, ⟨a_Within_word, i_Within_word, k_Within_word⟩, F_Within_word.binds (ps := ["self"]) fun _ _ _ _ _ _ us hl => match us, hl with | [_], _ => rfl⟩
  have F_At_word := fun_mk (st := s_At_word) l_At_word d_At_word k_At_word
  have G_At_word := ok_At_word (P := l.prog) (ww := ww) (base := base) F_At_word T 
  have c_At_word : Mth l.prog ww K mg base (L2.CX l.prog ww) C_At 1 "word" (pr1 (p_At_word)) := ⟨_, _, _, G_At_word, ⟨a_At_word, i_At_word, k_At_word⟩, F_At_word.binds (ps := ["self"]) fun _ _ _ _ _ _ us hl => match us, hl with | [_], _ => rfl⟩
  have F_Between_word := fun_mk (st := s_Between_word) l_Between_word d_Between_word k_Between_word
  have G_Between_word := ok_Between_word (P := l.prog) (ww := ww) (base := base) F_Between_word T 
  have c_Between_word : Mth l.prog ww K mg base (L2.CX l.prog ww) C_Between 1 "word" (pr1 (p_Between_word)) := ⟨_, _, _, G_Between_word, ⟨a_Between_word, i_Between_word, k_Between_word⟩, F_Between_word.binds (ps := ["self"]) fun _ _ _ _ _ _ us hl => match us, hl with | [_], _ => rfl⟩
  have F_Read_word := fun_mk (st := s_Read_word) l_Read_word d_Read_word k_Read_word
  have G_Read_word := ok_Read_word (P := l.prog) (ww := ww) (base := base) F_Read_word T 
  have c_Read_word : Mth l.prog ww K mg base (L2.CX l.prog ww) C_Read 1 "word" (pr1 (p_Read_word)) := ⟨_, _, _, G_Read_word, ⟨a_Read_word, i_Read_word, k_Read_word⟩, F_Read_word.binds (ps := ["self"]) fun _ _ _ _ _ _ us hl => match us, hl with | [_], _ => rfl⟩
  have d_word : MthD l.prog ww K mg base (L2.CX l.prog ww) simple (EC.of (EC.mk C_Entry C_Within C_At C_Between C_Read C_Joint C_Sifted)) 1 "word" (fun k => pr1 (pE_word K (EC.mk C_Entry C_Within C_At C_Between C_Read C_Joint C_Sifted) k)) := by
    intro k hk
    cases k
    case any => exact ⟨T.cl_Entry, ⟨_, _, _, fnok_weak G_Entry_word (by decide) (pr1_mono fun _ _ _ _ => wk_word_any), ⟨a_Entry_word, i_Entry_word, k_Entry_word⟩, F_Entry_word.binds (ps := ["self"]) fun _ _ _ _ _ _ us hl => match us, hl with | [_], _ => rfl⟩⟩
    case within => exact ⟨T.cl_Within, ⟨_, _, _, fnok_weak G_Within_word (by decide) (pr1_mono fun _ _ _ _ => wk_word_within), ⟨a_Within_word, i_Within_word, k_Within_word⟩, F_Within_word.binds (ps := ["self"]) fun _ _ _ _ _ _ us hl => match us, hl with | [_], _ => rfl⟩⟩
    case att => exact ⟨T.cl_At, ⟨_, _, _, fnok_weak G_At_word (by decide) (pr1_mono fun _ _ _ _ => wk_word_att), ⟨a_At_word, i_At_word, k_At_word⟩, F_At_word.binds (ps := ["self"]) fun _ _ _ _ _ _ us hl => match us, hl with | [_], _ => rfl⟩⟩
    case between => exact ⟨T.cl_Between, ⟨_, _, _, fnok_weak G_Between_word (by decide) (pr1_mono fun _ _ _ _ => wk_word_between), ⟨a_Between_word, i_Between_word, k_Between_word⟩, F_Between_word.binds (ps := ["self"]) fun _ _ _ _ _ _ us hl => match us, hl with | [_], _ => rfl⟩⟩
    case read => exact ⟨T.cl_Read, ⟨_, _, _, fnok_weak G_Read_word (by decide) (pr1_mono fun _ _ _ _ => wk_word_read), ⟨a_Read_word, i_Read_word, k_Read_word⟩, F_Read_word.binds (ps := ["self"]) fun _ _ _ _ _ _ us hl => match us, hl with | [_], _ => rfl⟩⟩
    case joint => exact hk.elim
    case sifted => exact hk.elim
  have F_l_cell := fun_mk (st := s_l_cell) l_l_cell d_l_cell k_l_cell
  have G_l_cell := ok_l_cell (P := l.prog) (ww := ww) (base := base) F_l_cell T 
  have c_l_cell : Fnc l.prog ww K mg base CX0 1 "_law_cell" (pr2 (p_l_cell K)) := ⟨_, _, _, G_l_cell, PySem.W.mg_of X G a_l_cell, k_l_cell, F_l_cell.binds (ps := ["_law_script", "_law_k"]) fun _ _ _ _ _ _ us hl => match us, hl with | [_, _], _ => rfl⟩
  have F_l_mix := fun_mk (st := s_l_mix) l_l_mix d_l_mix k_l_mix
  have G_l_mix := ok_l_mix (P := l.prog) (ww := ww) (base := base) F_l_mix T 
  have c_l_mix : Fnc l.prog ww K mg base CX0 1 "_law_mix" (pr2 (p_l_mix)) := ⟨_, _, _, G_l_mix, PySem.W.mg_of X G a_l_mix, k_l_mix, F_l_mix.binds (ps := ["_law_cell_here", "_law_k"]) fun _ _ _ _ _ _ us hl => match us, hl with | [_, _], _ => rfl⟩
  have F_l_begun := fun_mk (st := s_l_begun) l_l_begun d_l_begun k_l_begun
  have G_l_begun := ok_l_begun (P := l.prog) (ww := ww) (base := base) F_l_begun T 
  have c_l_begun : Fnc l.prog ww K mg base CX0 1 "_law_begun" (pr1 (p_l_begun)) := ⟨_, _, _, G_l_begun, PySem.W.mg_of X G a_l_begun, k_l_begun, F_l_begun.binds (ps := ["_law_cell_here"]) fun _ _ _ _ _ _ us hl => match us, hl with | [_], _ => rfl⟩
  have F_l_pull := fun_mk (st := s_l_pull) l_l_pull d_l_pull k_l_pull
  have G_l_pull := ok_l_pull (P := l.prog) (ww := ww) (base := base) F_l_pull T c_l_mix
  have c_l_pull : Fnc l.prog ww K mg base CX0 2 "_law_pull" (pr2 (p_l_pull)) := ⟨_, _, _, G_l_pull, PySem.W.mg_of X G a_l_pull, k_l_pull, F_l_pull.binds (ps := ["_law_state", "_law_many"]) fun _ _ _ _ _ _ us hl => match us, hl with | [_, _], _ => rfl⟩
  have F_l_names := fun_mk (st := s_l_names) l_l_names d_l_names k_l_names
  have G_l_names := ok_l_names (P := l.prog) (ww := ww) (base := base) F_l_names T c_l_pull
  have c_l_names : Fnc l.prog ww K mg base CX0 3 "_law_names" (pr2 (p_l_names)) := ⟨_, _, _, G_l_names, PySem.W.mg_of X G a_l_names, k_l_names, F_l_names.binds (ps := ["_law_state", "_law_many"]) fun _ _ _ _ _ _ us hl => match us, hl with | [_, _], _ => rfl⟩
  have F_l_shift := fun_mk (st := s_l_shift) l_l_shift d_l_shift k_l_shift
  have G_l_shift := ok_l_shift (P := l.prog) (ww := ww) (base := base) F_l_shift T c_l_pull
  have c_l_shift : Fnc l.prog ww K mg base CX0 3 "_law_shift" (pr1 (p_l_shift)) := ⟨_, _, _, G_l_shift, PySem.W.mg_of X G a_l_shift, k_l_shift, F_l_shift.binds (ps := ["_law_state"]) fun _ _ _ _ _ _ us hl => match us, hl with | [_], _ => rfl⟩
  have F_l_rows := fun_mk (st := s_l_rows) l_l_rows d_l_rows k_l_rows
  have G_l_rows := ok_l_rows (P := l.prog) (ww := ww) (base := base) F_l_rows T c_l_pull c_l_shift
  have c_l_rows : Fnc l.prog ww K mg base CX0 4 "_law_rows" (pr1 (p_l_rows)) := ⟨_, _, _, G_l_rows, PySem.W.mg_of X G a_l_rows, k_l_rows, F_l_rows.binds (ps := ["_law_state"]) fun _ _ _ _ _ _ us hl => match us, hl with | [_], _ => rfl⟩
  have F_l_pieces := fun_mk (st := s_l_pieces) l_l_pieces d_l_pieces k_l_pieces
  have G_l_pieces := ok_l_pieces (P := l.prog) (ww := ww) (base := base) F_l_pieces T 
  have c_l_pieces : Fnc l.prog ww K mg base CX0 1 "_law_pieces" (pr1 (p_l_pieces)) := ⟨_, _, _, G_l_pieces, PySem.W.mg_of X G a_l_pieces, k_l_pieces, F_l_pieces.binds (ps := ["_law_rows_here"]) fun _ _ _ _ _ _ us hl => match us, hl with | [_], _ => rfl⟩
  have F_l_joined := fun_mk (st := s_l_joined) l_l_joined d_l_joined k_l_joined
  have G_l_joined := ok_l_joined (P := l.prog) (ww := ww) (base := base) F_l_joined T 
  have c_l_joined : Fnc l.prog ww K mg base CX0 1 "_law_joined" (pr1 (p_l_joined)) := ⟨_, _, _, G_l_joined, PySem.W.mg_of X G a_l_joined, k_l_joined, F_l_joined.binds (ps := ["_law_stretches"]) fun _ _ _ _ _ _ us hl => match us, hl with | [_], _ => rfl⟩
  have F_l_shown := fun_mk (st := s_l_shown) l_l_shown d_l_shown k_l_shown
  have G_l_shown := ok_l_shown (P := l.prog) (ww := ww) (base := base) F_l_shown T c_l_joined c_l_pieces
  have c_l_shown : Fnc l.prog ww K mg base CX0 2 "_law_shown" (pr3 (p_l_shown)) := ⟨_, _, _, G_l_shown, PySem.W.mg_of X G a_l_shown, k_l_shown, F_l_shown.binds (ps := ["_law_rows_here", "_law_low", "_law_high"]) fun _ _ _ _ _ _ us hl => match us, hl with | [_, _, _], _ => rfl⟩
  have F_l_near := fun_mk (st := s_l_near) l_l_near d_l_near k_l_near
  have G_l_near := ok_l_near (P := l.prog) (ww := ww) (base := base) F_l_near T c_l_pieces c_l_pull
  have c_l_near : Fnc l.prog ww K mg base CX0 3 "_law_near" (pr2 (p_l_near)) := ⟨_, _, _, G_l_near, PySem.W.mg_of X G a_l_near, k_l_near, F_l_near.binds (ps := ["_law_state", "_law_rows_here"]) fun _ _ _ _ _ _ us hl => match us, hl with | [_, _], _ => rfl⟩
  have F_l_spec := fun_mk (st := s_l_spec) l_l_spec d_l_spec k_l_spec
  have G_l_spec := ok_l_spec (P := l.prog) (ww := ww) (base := base) F_l_spec T c_l_near c_l_pull
  have c_l_spec : Fnc l.prog ww K mg base CX0 4 "_law_spec" (pr4 (p_l_spec)) := ⟨_, _, _, G_l_spec, PySem.W.mg_of X G a_l_spec, k_l_spec, F_l_spec.binds (ps := ["_law_state", "_law_name", "_law_places", "_law_tables"]) fun _ _ _ _ _ _ us hl => match us, hl with | [_, _, _, _], _ => rfl⟩
  have F_l_made := fun_mk (st := s_l_made) l_l_made d_l_made k_l_made
  have G_l_made := ok_l_made (P := l.prog) (ww := ww) (base := base) F_l_made T c_At_init c_Between_init c_Entry_init c_Read_init c_Within_init
  have c_l_made : Fnc l.prog ww K mg base CX0 7 "_law_made" (pr1 (p_l_made K (EC.mk C_Entry C_Within C_At C_Between C_Read C_Joint C_Sifted))) := ⟨_, _, _, G_l_made, PySem.W.mg_of X G a_l_made, k_l_made, F_l_made.binds (ps := ["_law_spec_here"]) fun _ _ _ _ _ _ us hl => match us, hl with | [_], _ => rfl⟩
  have F_l_spans := fun_mk (st := s_l_spans) l_l_spans d_l_spans k_l_spans
  have G_l_spans := ok_l_spans (P := l.prog) (ww := ww) (base := base) F_l_spans T c_l_joined c_l_shown
  have c_l_spans : Fnc l.prog ww K mg base CX0 3 "_law_spans" (pr2 (p_l_spans)) := ⟨_, _, _, G_l_spans, PySem.W.mg_of X G a_l_spans, k_l_spans, F_l_spans.binds (ps := ["_law_spec_here", "_law_tables"]) fun _ _ _ _ _ _ us hl => match us, hl with | [_, _], _ => rfl⟩
  have F_l_is_number := fun_mk (st := s_l_is_number) l_l_is_number d_l_is_number k_l_is_number
  have G_l_is_number := ok_l_is_number (P := l.prog) (ww := ww) (base := base) F_l_is_number T 
  have c_l_is_number : Fnc l.prog ww K mg base CX0 1 "_law_is_number" (pr2 (p_l_is_number)) := ⟨_, _, _, G_l_is_number, PySem.W.mg_of X G a_l_is_number, k_l_is_number, F_l_is_number.binds (ps := ["_law_found", "_law_due"]) fun _ _ _ _ _ _ us hl => match us, hl with | [_, _], _ => rfl⟩
  have F_l_same := fun_mk (st := s_l_same) l_l_same d_l_same k_l_same
  have G_l_same := ok_l_same (P := l.prog) (ww := ww) (base := base) F_l_same T 
  have c_l_same : Fnc l.prog ww K mg base CX0 1 "_law_same" (pr2 (p_l_same)) := ⟨_, _, _, G_l_same, PySem.W.mg_of X G a_l_same, k_l_same, F_l_same.binds (ps := ["_law_found", "_law_due"]) fun _ _ _ _ _ _ us hl => match us, hl with | [_, _], _ => rfl⟩
  have F_l_no_place := fun_mk (st := s_l_no_place) l_l_no_place d_l_no_place k_l_no_place
  have G_l_no_place := ok_l_no_place (P := l.prog) (ww := ww) (base := base) F_l_no_place T d_spans
  have c_l_no_place : Fnc l.prog ww K mg base CX0 5 "_law_no_place" (pr2 (p_l_no_place K (EC.mk C_Entry C_Within C_At C_Between C_Read C_Joint C_Sifted) C_Table)) := ⟨_, _, _, G_l_no_place, PySem.W.mg_of X G a_l_no_place, k_l_no_place, F_l_no_place.binds (ps := ["_law_entry", "_law_tables"]) fun _ _ _ _ _ _ us hl => match us, hl with | [_, _], _ => rfl⟩
  have F_l_fields := fun_mk (st := s_l_fields) l_l_fields d_l_fields k_l_fields
  have G_l_fields := ok_l_fields (P := l.prog) (ww := ww) (base := base) F_l_fields T c_l_is_number d_word
  have c_l_fields : Fnc l.prog ww K mg base CX0 2 "_law_fields" (pr2 (p_l_fields K (EC.mk C_Entry C_Within C_At C_Between C_Read C_Joint C_Sifted))) := ⟨_, _, _, G_l_fields, PySem.W.mg_of X G a_l_fields, k_l_fields, F_l_fields.binds (ps := ["_law_entry", "_law_spec_here"]) fun _ _ _ _ _ _ us hl => match us, hl with | [_, _], _ => rfl⟩
  have F_l_right := fun_mk (st := s_l_right) l_l_right d_l_right k_l_right
  have G_l_right := ok_l_right (P := l.prog) (ww := ww) (base := base) F_l_right T c_Table_init c_l_fields c_l_made c_l_no_place c_l_same c_l_spans d_places d_spans
  have c_l_right : Fnc l.prog ww K mg base CX0 8 "_law_right" (pr3 (p_l_right K (EC.mk C_Entry C_Within C_At C_Between C_Read C_Joint C_Sifted) C_Table)) := ⟨_, _, _, G_l_right, PySem.W.mg_of X G a_l_right, k_l_right, F_l_right.binds (ps := ["_law_spec_here", "_law_tables", "_law_others"]) fun _ _ _ _ _ _ us hl => match us, hl with | [_, _, _], _ => rfl⟩
  have F_law := fun_mk (st := s_law) l_law d_law k_law
  have G_law := ok_law (P := l.prog) (ww := ww) (base := base) F_law T c_l_begun c_l_cell c_l_names c_l_pull c_l_right c_l_rows c_l_spec
  exact G_law
theorem walk {l : PySem.W.OpenLaw} {q : Program} {loose : List Str} {XP : (Str → Option Value) → Heap → Prop} {YP : World → Heap → Prop} {d : DefRec} {K : Params → PySem.W.Frag} (hn : l.most = some 63) (hdf : d.params.defaults = [])
    (hY : ∀ (w : World) (h : Heap), YP w h → (K w.params).In h)
    (F : ∀ (w : World) (mg : Str → Option Value) (fa : Addr) (h : Heap), (K w.params).In h → h.Ns mainGlobals mg → mg d.name = some (.ref fa) →
      ∃ fd : FuncData, (∀ (s : Shared) (u : Value), BindsTo s fd ⟨[u], []⟩ [("_law_script", u)]) ∧ ∀ base : Heap, (K w.params).In base → base.Ns mainGlobals mg → FnOk l.prog w (K w.params) mg base CX0 9 fa fd ["_law_script"] (pr1 (p_law (K w.params)))) :
    PySem.W.WalkO q loose XP YP l.row.toRowW d [] (fun f vs => PySem.call f vs) :=
  L2.walk_of (n := 63) (k := 9) (x := "_law_script") (CX := fun _ => CX0) (sp := fun w => pr1 (p_law (K w.params))) hn (by decide) hdf ⟨rfl, by decide, by decide⟩ hY F (fun _ H a ns hl _ hS => ⟨⟨H, H, fun _ _ h => h⟩, _, rfl, rfl, law_in hl hS⟩) fun _ _ _ _ _ z => z
end L
open PySem PySem.W PyProof.Rows in
set_option maxRecDepth 100000 in
set_option maxHeartbeats 0 in
theorem PySem.Challenge.cw_foldlog_k31_entries_by_themselves_holds : PySem.Challenge.rw_foldlog_k31_entries_by_themselves.Holds := by
  w_on; o_law; k_head; (case hw => w_witness2)
  k_fill
  refine L.walk (l := PySem.Challenge.rw_foldlog_k31_entries_by_themselves) rfl rfl (fun w h Y => PySem.W.kIn_of Y) ?F
  case F =>
    intro w mg fa h KX G hmg
    refine' L.all_mk KX G hmg ?g_Entry ?pg_Entry ?hd_Entry ?po_Entry ?sa_Entry ?mk_Entry ?kc_Entry ?ia_Entry ?ib_Entry ?ic_Entry ?id_Entry ?na_Entry_high ?na_Entry_keeps ?na_Entry_known ?na_Entry_low ?na_Entry_name ?na_Entry_part ?na_Entry_place ?g_Within ?pg_Within ?hd_Within ?po_Within ?sa_Within ?mk_Within ?kc_Within ?ia_Within ?ib_Within ?ic_Within ?id_Within ?na_Within_high ?na_Within_keeps ?na_Within_known ?na_Within_low ?na_Within_name ?na_Within_part ?na_Within_place ?g_At ?pg_At ?hd_At ?po_At ?sa_At ?mk_At ?kc_At ?ia_At ?ib_At ?ic_At ?id_At ?na_At_high ?na_At_keeps ?na_At_known ?na_At_low ?na_At_name ?na_At_part ?na_At_place ?g_Between ?pg_Between ?hd_Between ?po_Between ?sa_Between ?mk_Between ?kc_Between ?ia_Between ?ib_Between ?ic_Between ?id_Between ?na_Between_high ?na_Between_keeps ?na_Between_known ?na_Between_low ?na_Between_name ?na_Between_part ?na_Between_place ?g_Table ?pg_Table ?hd_Table ?po_Table ?sa_Table ?mk_Table ?kc_Table ?na_Table_kept_rows ?g_Read ?pg_Read ?hd_Read ?po_Read ?sa_Read ?mk_Read ?kc_Read ?ia_Read ?ib_Read ?ic_Read ?id_Read ?na_Read_high ?na_Read_keeps ?na_Read_known ?na_Read_low ?na_Read_name ?na_Read_part ?na_Read_place ?g_Joint ?pg_Joint ?hd_Joint ?po_Joint ?sa_Joint ?mk_Joint ?kc_Joint ?ia_Joint ?ib_Joint ?ic_Joint ?id_Joint ?na_Joint_high ?na_Joint_keeps ?na_Joint_known ?na_Joint_low ?na_Joint_name ?na_Joint_part ?na_Joint_place ?g_Sifted ?pg_Sifted ?hd_Sifted ?po_Sifted ?sa_Sifted ?mk_Sifted ?kc_Sifted ?ia_Sifted ?ib_Sifted ?ic_Sifted ?id_Sifted ?na_Sifted_high ?na_Sifted_keeps ?na_Sifted_known ?na_Sifted_low ?na_Sifted_name ?na_Sifted_part ?na_Sifted_place ?g_LogError ?rd_LogError ?gs_LogError ?vv_LogError ?xp ?xq ?g_NoEntry ?xl_NoEntry ?xs_NoEntry ?xe_NoEntry ?xt_NoEntry ?xk_NoEntry ?xg_NoEntry ?xh_NoEntry ?xd_NoEntry ?xc_NoEntry ?xo_NoEntry ?xn_NoEntry ?g_NoMoment ?xl_NoMoment ?xs_NoMoment ?xe_NoMoment ?xt_NoMoment ?xk_NoMoment ?xg_NoMoment ?xh_NoMoment ?xd_NoMoment ?xc_NoMoment ?xo_NoMoment ?xn_NoMoment ?g_NoName ?xl_NoName ?xs_NoName ?xe_NoName ?xt_NoName ?xk_NoName ?xg_NoName ?xh_NoName ?xd_NoName ?xc_NoName ?xo_NoName ?xn_NoName ?g_NoPlace ?xl_NoPlace ?xs_NoPlace ?xe_NoPlace ?xt_NoPlace ?xk_NoPlace ?xg_NoPlace ?xh_NoPlace ?xd_NoPlace ?xc_NoPlace ?xo_NoPlace ?xn_NoPlace ?g_NoReading ?xl_NoReading ?xs_NoReading ?xe_NoReading ?xt_NoReading ?xk_NoReading ?xg_NoReading ?xh_NoReading ?xd_NoReading ?xc_NoReading ?xo_NoReading ?xn_NoReading ?g_TooMany ?xl_TooMany ?xs_TooMany ?xe_TooMany ?xt_TooMany ?xk_TooMany ?xg_TooMany ?xh_TooMany ?xd_TooMany ?xc_TooMany ?xo_TooMany ?xn_TooMany ?su_NoPlace_ValueError ?su_NoPlace_NoEntry ?ne_NoPlace_NoEntry ?su_NoPlace_NoMoment ?ne_NoPlace_NoMoment ?su_NoPlace_NoName ?ne_NoPlace_NoName ?su_NoPlace_NoReading ?ne_NoPlace_NoReading ?su_NoPlace_TooMany ?ne_NoPlace_TooMany ?su_NoPlace_LogError ?xe_LogError ?xd_LogError ?xt_LogError ?ty_Entry ?ty_Within ?ty_At ?ty_Between ?ty_Read ?ty_Joint ?ty_Sifted ?su_Entry_Within ?ne_Entry_Within ?su_Entry_At ?ne_Entry_At ?su_Entry_Between ?ne_Entry_Between ?su_Entry_Read ?ne_Entry_Read ?su_Entry_Joint ?ne_Entry_Joint ?su_Entry_Sifted ?ne_Entry_Sifted ?su_Within_Entry ?su_Within_At ?ne_Within_At ?su_Within_Between ?ne_Within_Between ?su_Within_Read ?ne_Within_Read ?su_Within_Joint ?ne_Within_Joint ?su_Within_Sifted ?ne_Within_Sifted ?su_At_Entry ?su_At_Within ?su_At_Between ?ne_At_Between ?su_At_Read ?ne_At_Read ?su_At_Joint ?ne_At_Joint ?su_At_Sifted ?ne_At_Sifted ?su_Between_Entry ?su_Between_Within ?ne_Between_Within ?su_Between_At ?ne_Between_At ?su_Between_Read ?ne_Between_Read ?su_Between_Joint ?ne_Between_Joint ?su_Between_Sifted ?ne_Between_Sifted ?su_Read_Entry ?su_Read_Within ?ne_Read_Within ?su_Read_At ?ne_Read_At ?su_Read_Between ?su_Read_Joint ?ne_Read_Joint ?su_Read_Sifted ?ne_Read_Sifted ?su_Joint_Entry ?su_Joint_Within ?ne_Joint_Within ?su_Joint_At ?ne_Joint_At ?su_Joint_Between ?ne_Joint_Between ?su_Joint_Read ?ne_Joint_Read ?su_Joint_Sifted ?ne_Joint_Sifted ?su_Sifted_Entry ?su_Sifted_Within ?ne_Sifted_Within ?su_Sifted_At ?ne_Sifted_At ?su_Sifted_Between ?ne_Sifted_Between ?su_Sifted_Read ?ne_Sifted_Read ?su_Sifted_Joint ?ne_Sifted_Joint ?a_is_whole ?l_is_whole ?d_is_whole ?k_is_whole ?a_is_moment ?l_is_moment ?d_is_moment ?k_is_moment ?a_is_shift ?l_is_shift ?d_is_shift ?k_is_shift ?a_is_row ?l_is_row ?d_is_row ?k_is_row ?a_fault_at ?l_fault_at ?d_fault_at ?k_fault_at ?a_is_reading ?l_is_reading ?d_is_reading ?k_is_reading ?a_Table_init ?i_Table_init ?l_Table_init ?d_Table_init ?k_Table_init ?a_joined ?l_joined ?d_joined ?k_joined ?a_is_stretch ?l_is_stretch ?d_is_stretch ?k_is_stretch ?a_NoReading_init ?i_NoReading_init ?l_NoReading_init ?d_NoReading_init ?k_NoReading_init ?a_Table_pieces ?i_Table_pieces ?l_Table_pieces ?d_Table_pieces ?k_Table_pieces ?a_spans_of ?l_spans_of ?d_spans_of ?k_spans_of ?a_Table_moments_between ?i_Table_moments_between ?l_Table_moments_between ?d_Table_moments_between ?k_Table_moments_between ?a_is_name ?l_is_name ?d_is_name ?k_is_name ?a_NoName_init ?i_NoName_init ?l_NoName_init ?d_NoName_init ?k_NoName_init ?a_NoPlace_init ?i_NoPlace_init ?l_NoPlace_init ?d_NoPlace_init ?k_NoPlace_init ?a_NoMoment_init ?i_NoMoment_init ?l_NoMoment_init ?d_NoMoment_init ?k_NoMoment_init ?a_Entry_init ?i_Entry_init ?l_Entry_init ?d_Entry_init ?k_Entry_init ?a_Within_init ?i_Within_init ?l_Within_init ?d_Within_init ?k_Within_init ?a_At_init ?i_At_init ?l_At_init ?d_At_init ?k_At_init ?a_Between_init ?i_Between_init ?l_Between_init ?d_Between_init ?k_Between_init ?a_Read_init ?i_Read_init ?l_Read_init ?d_Read_init ?k_Read_init ?a_Entry_places ?i_Entry_places ?l_Entry_places ?d_Entry_places ?k_Entry_places ?a_Between_places ?i_Between_places ?l_Between_places ?d_Between_places ?k_Between_places ?a_Entry_spans ?i_Entry_spans ?l_Entry_spans ?d_Entry_spans ?k_Entry_spans ?a_Within_spans ?i_Within_spans ?l_Within_spans ?d_Within_spans ?k_Within_spans ?a_Between_spans ?i_Between_spans ?l_Between_spans ?d_Between_spans ?k_Between_spans ?a_Entry_word ?i_Entry_word ?l_Entry_word ?d_Entry_word ?k_Entry_word ?a_Within_word ?i_Within_word ?l_Within_word ?d_Within_word ?k_Within_word ?a_At_word ?i_At_word ?l_At_word ?d_At_word ?k_At_word ?a_Between_word ?i_Between_word ?l_Between_word ?d_Between_word ?k_Between_word ?a_Read_word ?i_Read_word ?l_Read_word ?d_Read_word ?k_Read_word ?a_l_cell ?l_l_cell ?d_l_cell ?k_l_cell ?a_l_mix ?l_l_mix ?d_l_mix ?k_l_mix ?a_l_begun ?l_l_begun ?d_l_begun ?k_l_begun ?a_l_pull ?l_l_pull ?d_l_pull ?k_l_pull ?a_l_names ?l_l_names ?d_l_names ?k_l_names ?a_l_shift ?l_l_shift ?d_l_shift ?k_l_shift ?a_l_rows ?l_l_rows ?d_l_rows ?k_l_rows ?a_l_pieces ?l_l_pieces ?d_l_pieces ?k_l_pieces ?a_l_joined ?l_l_joined ?d_l_joined ?k_l_joined ?a_l_shown ?l_l_shown ?d_l_shown ?k_l_shown ?a_l_near ?l_l_near ?d_l_near ?k_l_near ?a_l_spec ?l_l_spec ?d_l_spec ?k_l_spec ?a_l_made ?l_l_made ?d_l_made ?k_l_made ?a_l_spans ?l_l_spans ?d_l_spans ?k_l_spans ?a_l_is_number ?l_l_is_number ?d_l_is_number ?k_l_is_number ?a_l_same ?l_l_same ?d_l_same ?k_l_same ?a_l_no_place ?l_l_no_place ?d_l_no_place ?k_l_no_place ?a_l_fields ?l_l_fields ?d_l_fields ?k_l_fields ?a_l_right ?l_l_right ?d_l_right ?k_l_right ?a_law ?l_law ?d_law ?k_law ?n_ValueError ?n_all ?n_bool ?n_dict ?n_enumerate ?n_int ?n_isinstance ?n_len ?n_list ?n_max ?n_min ?n_range ?n_sorted ?n_str ?n_tuple ?n_zip ?c_FARTHEST_READING ?r_c_FARTHEST_READING ?c_LAST ?r_c_LAST ?c_LETTERS ?r_c_LETTERS ?c_LONGEST_NAME ?r_c_LONGEST_NAME ?c_MOST_ROWS ?r_c_MOST_ROWS ?c_MOST_SHIFT ?r_c_MOST_SHIFT ?rd_Between ?gs_Between ?fc_Between ?rd_Entry ?gs_Entry ?fc_Entry ?rd_Within ?gs_Within ?fc_Within ?a_Within_places ?a_At_places ?a_Read_places ?a_At_spans ?a_Read_spans
    (case g_Entry => k_is)
    (case pg_Entry => k_is)
    (case hd_Entry => k_is)
    (case po_Entry => k_is)
    (case sa_Entry => k_is)
    (case mk_Entry => k_is)
    (case kc_Entry => k_is)
    (case ia_Entry => k_is)
    (case ib_Entry => k_is)
    (case ic_Entry => k_is)
    (case id_Entry => k_is)
    (case na_Entry_high => k_is)
    (case na_Entry_keeps => k_is)
    (case na_Entry_known => k_is)
    (case na_Entry_low => k_is)
    (case na_Entry_name => k_is)
    (case na_Entry_part => k_is)
    (case na_Entry_place => k_is)
    (case g_Within => k_is)
    (case pg_Within => k_is)
    (case hd_Within => k_is)
    (case po_Within => k_is)
    (case sa_Within => k_is)
    (case mk_Within => k_is)
    (case kc_Within => k_is)
    (case ia_Within => k_is)
    (case ib_Within => k_is)
    (case ic_Within => k_is)
    (case id_Within => k_is)
    (case na_Within_high => k_is)
    (case na_Within_keeps => k_is)
    (case na_Within_known => k_is)
    (case na_Within_low => k_is)
    (case na_Within_name => k_is)
    (case na_Within_part => k_is)
    (case na_Within_place => k_is)
    (case g_At => k_is)
    (case pg_At => k_is)
    (case hd_At => k_is)
    (case po_At => k_is)
    (case sa_At => k_is)
    (case mk_At => k_is)
    (case kc_At => k_is)
    (case ia_At => k_is)
    (case ib_At => k_is)
    (case ic_At => k_is)
    (case id_At => k_is)
    (case na_At_high => k_is)
    (case na_At_keeps => k_is)
    (case na_At_known => k_is)
    (case na_At_low => k_is)
    (case na_At_name => k_is)
    (case na_At_part => k_is)
    (case na_At_place => k_is)
    (case g_Between => k_is)
    (case pg_Between => k_is)
    (case hd_Between => k_is)
    (case po_Between => k_is)
    (case sa_Between => k_is)
    (case mk_Between => k_is)
    (case kc_Between => k_is)
    (case ia_Between => k_is)
    (case ib_Between => k_is)
    (case ic_Between => k_is)
    (case id_Between => k_is)
    (case na_Between_high => k_is)
    (case na_Between_keeps => k_is)
    (case na_Between_known => k_is)
    (case na_Between_low => k_is)
    (case na_Between_name => k_is)
    (case na_Between_part => k_is)
    (case na_Between_place => k_is)
    (case g_Table => k_is)
    (case pg_Table => k_is)
    (case hd_Table => k_is)
    (case po_Table => k_is)
    (case sa_Table => k_is)
    (case mk_Table => k_is)
    (case kc_Table => k_is)
    (case na_Table_kept_rows => k_is)
    (case g_Read => k_is)
    (case pg_Read => k_is)
    (case hd_Read => k_is)
    (case po_Read => k_is)
    (case sa_Read => k_is)
    (case mk_Read => k_is)
    (case kc_Read => k_is)
    (case ia_Read => k_is)
    (case ib_Read => k_is)
    (case ic_Read => k_is)
    (case id_Read => k_is)
    (case na_Read_high => k_is)
    (case na_Read_keeps => k_is)
    (case na_Read_known => k_is)
    (case na_Read_low => k_is)
    (case na_Read_name => k_is)
    (case na_Read_part => k_is)
    (case na_Read_place => k_is)
    (case g_Joint => k_is)
    (case pg_Joint => k_is)
    (case hd_Joint => k_is)
    (case po_Joint => k_is)
    (case sa_Joint => k_is)
    (case mk_Joint => k_is)
    (case kc_Joint => k_is)
    (case ia_Joint => k_is)
    (case ib_Joint => k_is)
    (case ic_Joint => k_is)
    (case id_Joint => k_is)
    (case na_Joint_high => k_is)
    (case na_Joint_keeps => k_is)
    (case na_Joint_known => k_is)
    (case na_Joint_low => k_is)
    (case na_Joint_name => k_is)
    (case na_Joint_part => k_is)
    (case na_Joint_place => k_is)
    (case g_Sifted => k_is)
    (case pg_Sifted => k_is)
    (case hd_Sifted => k_is)
    (case po_Sifted => k_is)
    (case sa_Sifted => k_is)
    (case mk_Sifted => k_is)
    (case kc_Sifted => k_is)
    (case ia_Sifted => k_is)
    (case ib_Sifted => k_is)
    (case ic_Sifted => k_is)
    (case id_Sifted => k_is)
    (case na_Sifted_high => k_is)
    (case na_Sifted_keeps => k_is)
    (case na_Sifted_known => k_is)
    (case na_Sifted_low => k_is)
    (case na_Sifted_name => k_is)
    (case na_Sifted_part => k_is)
    (case na_Sifted_place => k_is)
    (case g_LogError => k_is)
    (case rd_LogError => k_is)
    (case gs_LogError => k_is)
    (case vv_LogError => k_is)
    (case xp => k_is)
    (case xq => k_is)
    (case g_NoEntry => k_is)
    (case xl_NoEntry => k_is)
    (case xs_NoEntry => k_is)
    (case xe_NoEntry => k_is)
    (case xt_NoEntry => k_is)
    (case xk_NoEntry => k_is)
    (case xg_NoEntry => k_is)
    (case xh_NoEntry => k_is)
    (case xd_NoEntry => k_is)
    (case xc_NoEntry => k_is)
    (case xo_NoEntry => k_is)
    (case xn_NoEntry => k_is)
    (case g_NoMoment => k_is)
    (case xl_NoMoment => k_is)
    (case xs_NoMoment => k_is)
    (case xe_NoMoment => k_is)
    (case xt_NoMoment => k_is)
    (case xk_NoMoment => k_is)
    (case xg_NoMoment => k_is)
    (case xh_NoMoment => k_is)
    (case xd_NoMoment => k_is)
    (case xc_NoMoment => k_is)
    (case xo_NoMoment => k_is)
    (case xn_NoMoment => k_is)
    (case g_NoName => k_is)
    (case xl_NoName => k_is)
    (case xs_NoName => k_is)
    (case xe_NoName => k_is)
    (case xt_NoName => k_is)
    (case xk_NoName => k_is)
    (case xg_NoName => k_is)
    (case xh_NoName => k_is)
    (case xd_NoName => k_is)
    (case xc_NoName => k_is)
    (case xo_NoName => k_is)
    (case xn_NoName => k_is)
    (case g_NoPlace => k_is)
    (case xl_NoPlace => k_is)
    (case xs_NoPlace => k_is)
    (case xe_NoPlace => k_is)
    (case xt_NoPlace => k_is)
    (case xk_NoPlace => k_is)
    (case xg_NoPlace => k_is)
    (case xh_NoPlace => k_is)
    (case xd_NoPlace => k_is)
    (case xc_NoPlace => k_is)
    (case xo_NoPlace => k_is)
    (case xn_NoPlace => k_is)
    (case g_NoReading => k_is)
    (case xl_NoReading => k_is)
    (case xs_NoReading => k_is)
    (case xe_NoReading => k_is)
    (case xt_NoReading => k_is)
    (case xk_NoReading => k_is)
    (case xg_NoReading => k_is)
    (case xh_NoReading => k_is)
    (case xd_NoReading => k_is)
    (case xc_NoReading => k_is)
    (case xo_NoReading => k_is)
    (case xn_NoReading => k_is)
    (case g_TooMany => k_is)
    (case xl_TooMany => k_is)
    (case xs_TooMany => k_is)
    (case xe_TooMany => k_is)
    (case xt_TooMany => k_is)
    (case xk_TooMany => k_is)
    (case xg_TooMany => k_is)
    (case xh_TooMany => k_is)
    (case xd_TooMany => k_is)
    (case xc_TooMany => k_is)
    (case xo_TooMany => k_is)
    (case xn_TooMany => k_is)
    (case su_NoPlace_ValueError => k_is)
    (case su_NoPlace_NoEntry => k_is)
    (case ne_NoPlace_NoEntry => first | rfl | decide | k_is)
    (case su_NoPlace_NoMoment => k_is)
    (case ne_NoPlace_NoMoment => first | rfl | decide | k_is)
    (case su_NoPlace_NoName => k_is)
    (case ne_NoPlace_NoName => first | rfl | decide | k_is)
    (case su_NoPlace_NoReading => k_is)
    (case ne_NoPlace_NoReading => first | rfl | decide | k_is)
    (case su_NoPlace_TooMany => k_is)
    (case ne_NoPlace_TooMany => first | rfl | decide | k_is)
    (case su_NoPlace_LogError => k_is)
    (case xe_LogError => k_is)
    (case xd_LogError => k_is)
    (case xt_LogError => k_is)
    (case ty_Entry => k_is)
    (case ty_Within => k_is)
    (case ty_At => k_is)
    (case ty_Between => k_is)
    (case ty_Read => k_is)
    (case ty_Joint => k_is)
    (case ty_Sifted => k_is)
    (case su_Entry_Within => k_is)
    (case ne_Entry_Within => first | rfl | decide | k_is)
    (case su_Entry_At => k_is)
    (case ne_Entry_At => first | rfl | decide | k_is)
    (case su_Entry_Between => k_is)
    (case ne_Entry_Between => first | rfl | decide | k_is)
    (case su_Entry_Read => k_is)
    (case ne_Entry_Read => first | rfl | decide | k_is)
    (case su_Entry_Joint => k_is)
    (case ne_Entry_Joint => first | rfl | decide | k_is)
    (case su_Entry_Sifted => k_is)
    (case ne_Entry_Sifted => first | rfl | decide | k_is)
    (case su_Within_Entry => k_is)
    (case su_Within_At => k_is)
    (case ne_Within_At => first | rfl | decide | k_is)
    (case su_Within_Between => k_is)
    (case ne_Within_Between => first | rfl | decide | k_is)
    (case su_Within_Read => k_is)
    (case ne_Within_Read => first | rfl | decide | k_is)
    (case su_Within_Joint => k_is)
    (case ne_Within_Joint => first | rfl | decide | k_is)
    (case su_Within_Sifted => k_is)
    (case ne_Within_Sifted => first | rfl | decide | k_is)
    (case su_At_Entry => k_is)
    (case su_At_Within => k_is)
    (case su_At_Between => k_is)
    (case ne_At_Between => first | rfl | decide | k_is)
    (case su_At_Read => k_is)
    (case ne_At_Read => first | rfl | decide | k_is)
    (case su_At_Joint => k_is)
    (case ne_At_Joint => first | rfl | decide | k_is)
    (case su_At_Sifted => k_is)
    (case ne_At_Sifted => first | rfl | decide | k_is)
    (case su_Between_Entry => k_is)
    (case su_Between_Within => k_is)
    (case ne_Between_Within => first | rfl | decide | k_is)
    (case su_Between_At => k_is)
    (case ne_Between_At => first | rfl | decide | k_is)
    (case su_Between_Read => k_is)
    (case ne_Between_Read => first | rfl | decide | k_is)
    (case su_Between_Joint => k_is)
    (case ne_Between_Joint => first | rfl | decide | k_is)
    (case su_Between_Sifted => k_is)
    (case ne_Between_Sifted => first | rfl | decide | k_is)
    (case su_Read_Entry => k_is)
    (case su_Read_Within => k_is)
    (case ne_Read_Within => first | rfl | decide | k_is)
    (case su_Read_At => k_is)
    (case ne_Read_At => first | rfl | decide | k_is)
    (case su_Read_Between => k_is)
    (case su_Read_Joint => k_is)
    (case ne_Read_Joint => first | rfl | decide | k_is)
    (case su_Read_Sifted => k_is)
    (case ne_Read_Sifted => first | rfl | decide | k_is)
    (case su_Joint_Entry => k_is)
    (case su_Joint_Within => k_is)
    (case ne_Joint_Within => first | rfl | decide | k_is)
    (case su_Joint_At => k_is)
    (case ne_Joint_At => first | rfl | decide | k_is)
    (case su_Joint_Between => k_is)
    (case ne_Joint_Between => first | rfl | decide | k_is)
    (case su_Joint_Read => k_is)
    (case ne_Joint_Read => first | rfl | decide | k_is)
    (case su_Joint_Sifted => k_is)
    (case ne_Joint_Sifted => first | rfl | decide | k_is)
    (case su_Sifted_Entry => k_is)
    (case su_Sifted_Within => k_is)
    (case ne_Sifted_Within => first | rfl | decide | k_is)
    (case su_Sifted_At => k_is)
    (case ne_Sifted_At => first | rfl | decide | k_is)
    (case su_Sifted_Between => k_is)
    (case ne_Sifted_Between => first | rfl | decide | k_is)
    (case su_Sifted_Read => k_is)
    (case ne_Sifted_Read => first | rfl | decide | k_is)
    (case su_Sifted_Joint => k_is)
    (case ne_Sifted_Joint => first | rfl | decide | k_is)
    (case a_is_whole => k_is)
    (case l_is_whole => k_is)
    (case d_is_whole => k_is)
    (case k_is_whole => k_is)
    (case a_is_moment => k_is)
    (case l_is_moment => k_is)
    (case d_is_moment => k_is)
    (case k_is_moment => k_is)
    (case a_is_shift => k_is)
    (case l_is_shift => k_is)
    (case d_is_shift => k_is)
    (case k_is_shift => k_is)
    (case a_is_row => k_is)
    (case l_is_row => k_is)
    (case d_is_row => k_is)
    (case k_is_row => k_is)
    (case a_fault_at => k_is)
    (case l_fault_at => k_is)
    (case d_fault_at => k_is)
    (case k_fault_at => k_is)
    (case a_is_reading => k_is)
    (case l_is_reading => k_is)
    (case d_is_reading => k_is)
    (case k_is_reading => k_is)
    (case a_Table_init => k_is)
    (case i_Table_init => k_is)
    (case l_Table_init => k_is)
    (case d_Table_init => k_is)
    (case k_Table_init => k_is)
    (case a_joined => k_is)
    (case l_joined => k_is)
    (case d_joined => k_is)
    (case k_joined => k_is)
    (case a_is_stretch => k_is)
    (case l_is_stretch => k_is)
    (case d_is_stretch => k_is)
    (case k_is_stretch => k_is)
    (case a_NoReading_init => k_is)
    (case i_NoReading_init => k_is)
    (case l_NoReading_init => k_is)
    (case d_NoReading_init => k_is)
    (case k_NoReading_init => k_is)
    (case a_Table_pieces => k_is)
    (case i_Table_pieces => k_is)
    (case l_Table_pieces => k_is)
    (case d_Table_pieces => k_is)
    (case k_Table_pieces => k_is)
    (case a_spans_of => k_is)
    (case l_spans_of => k_is)
    (case d_spans_of => k_is)
    (case k_spans_of => k_is)
    (case a_Table_moments_between => k_is)
    (case i_Table_moments_between => k_is)
    (case l_Table_moments_between => k_is)
    (case d_Table_moments_between => k_is)
    (case k_Table_moments_between => k_is)
    (case a_is_name => k_is)
    (case l_is_name => k_is)
    (case d_is_name => k_is)
    (case k_is_name => k_is)
    (case a_NoName_init => k_is)
    (case i_NoName_init => k_is)
    (case l_NoName_init => k_is)
    (case d_NoName_init => k_is)
    (case k_NoName_init => k_is)
    (case a_NoPlace_init => k_is)
    (case i_NoPlace_init => k_is)
    (case l_NoPlace_init => k_is)
    (case d_NoPlace_init => k_is)
    (case k_NoPlace_init => k_is)
    (case a_NoMoment_init => k_is)
    (case i_NoMoment_init => k_is)
    (case l_NoMoment_init => k_is)
    (case d_NoMoment_init => k_is)
    (case k_NoMoment_init => k_is)
    (case a_Entry_init => k_is)
    (case i_Entry_init => k_is)
    (case l_Entry_init => k_is)
    (case d_Entry_init => k_is)
    (case k_Entry_init => k_is)
    (case a_Within_init => k_is)
    (case i_Within_init => k_is)
    (case l_Within_init => k_is)
    (case d_Within_init => k_is)
    (case k_Within_init => k_is)
    (case a_At_init => k_is)
    (case i_At_init => k_is)
    (case l_At_init => k_is)
    (case d_At_init => k_is)
    (case k_At_init => k_is)
    (case a_Between_init => k_is)
    (case i_Between_init => k_is)
    (case l_Between_init => k_is)
    (case d_Between_init => k_is)
    (case k_Between_init => k_is)
    (case a_Read_init => k_is)
    (case i_Read_init => k_is)
    (case l_Read_init => k_is)
    (case d_Read_init => k_is)
    (case k_Read_init => k_is)
    (case a_Entry_places => k_is)
    (case i_Entry_places => k_is)
    (case l_Entry_places => k_is)
    (case d_Entry_places => k_is)
    (case k_Entry_places => k_is)
    (case a_Between_places => k_is)
    (case i_Between_places => k_is)
    (case l_Between_places => k_is)
    (case d_Between_places => k_is)
    (case k_Between_places => k_is)
    (case a_Entry_spans => k_is)
    (case i_Entry_spans => k_is)
    (case l_Entry_spans => k_is)
    (case d_Entry_spans => k_is)
    (case k_Entry_spans => k_is)
    (case a_Within_spans => k_is)
    (case i_Within_spans => k_is)
    (case l_Within_spans => k_is)
    (case d_Within_spans => k_is)
    (case k_Within_spans => k_is)
    (case a_Between_spans => k_is)
    (case i_Between_spans => k_is)
    (case l_Between_spans => k_is)
    (case d_Between_spans => k_is)
    (case k_Between_spans => k_is)
    (case a_Entry_word => k_is)
    (case i_Entry_word => k_is)
    (case l_Entry_word => k_is)
    (case d_Entry_word => k_is)
    (case k_Entry_word => k_is)
    (case a_Within_word => k_is)
    (case i_Within_word => k_is)
    (case l_Within_word => k_is)
    (case d_Within_word => k_is)
    (case k_Within_word => k_is)
    (case a_At_word => k_is)
    (case i_At_word => k_is)
    (case l_At_word => k_is)
    (case d_At_word => k_is)
    (case k_At_word => k_is)
    (case a_Between_word => k_is)
    (case i_Between_word => k_is)
    (case l_Between_word => k_is)
    (case d_Between_word => k_is)
    (case k_Between_word => k_is)
    (case a_Read_word => k_is)
    (case i_Read_word => k_is)
    (case l_Read_word => k_is)
    (case d_Read_word => k_is)
    (case k_Read_word => k_is)
    (case a_l_cell => k_is)
    (case l_l_cell => k_is)
    (case d_l_cell => k_is)
    (case k_l_cell => k_is)
    (case a_l_mix => k_is)
    (case l_l_mix => k_is)
    (case d_l_mix => k_is)
    (case k_l_mix => k_is)
    (case a_l_begun => k_is)
    (case l_l_begun => k_is)
    (case d_l_begun => k_is)
    (case k_l_begun => k_is)
    (case a_l_pull => k_is)
    (case l_l_pull => k_is)
    (case d_l_pull => k_is)
    (case k_l_pull => k_is)
    (case a_l_names => k_is)
    (case l_l_names => k_is)
    (case d_l_names => k_is)
    (case k_l_names => k_is)
    (case a_l_shift => k_is)
    (case l_l_shift => k_is)
    (case d_l_shift => k_is)
    (case k_l_shift => k_is)
    (case a_l_rows => k_is)
    (case l_l_rows => k_is)
    (case d_l_rows => k_is)
    (case k_l_rows => k_is)
    (case a_l_pieces => k_is)
    (case l_l_pieces => k_is)
    (case d_l_pieces => k_is)
    (case k_l_pieces => k_is)
    (case a_l_joined => k_is)
    (case l_l_joined => k_is)
    (case d_l_joined => k_is)
    (case k_l_joined => k_is)
    (case a_l_shown => k_is)
    (case l_l_shown => k_is)
    (case d_l_shown => k_is)
    (case k_l_shown => k_is)
    (case a_l_near => k_is)
    (case l_l_near => k_is)
    (case d_l_near => k_is)
    (case k_l_near => k_is)
    (case a_l_spec => k_is)
    (case l_l_spec => k_is)
    (case d_l_spec => k_is)
    (case k_l_spec => k_is)
    (case a_l_made => k_is)
    (case l_l_made => k_is)
    (case d_l_made => k_is)
    (case k_l_made => k_is)
    (case a_l_spans => k_is)
    (case l_l_spans => k_is)
    (case d_l_spans => k_is)
    (case k_l_spans => k_is)
    (case a_l_is_number => k_is)
    (case l_l_is_number => k_is)
    (case d_l_is_number => k_is)
    (case k_l_is_number => k_is)
    (case a_l_same => k_is)
    (case l_l_same => k_is)
    (case d_l_same => k_is)
    (case k_l_same => k_is)
    (case a_l_no_place => k_is)
    (case l_l_no_place => k_is)
    (case d_l_no_place => k_is)
    (case k_l_no_place => k_is)
    (case a_l_fields => k_is)
    (case l_l_fields => k_is)
    (case d_l_fields => k_is)
    (case k_l_fields => k_is)
    (case a_l_right => k_is)
    (case l_l_right => k_is)
    (case d_l_right => k_is)
    (case k_l_right => k_is)
    (case a_law => k_is)
    (case l_law => k_is)
    (case d_law => k_is)
    (case k_law => k_is)
    (case n_ValueError => k_is)
    (case n_all => k_is)
    (case n_bool => k_is)
    (case n_dict => k_is)
    (case n_enumerate => k_is)
    (case n_int => k_is)
    (case n_isinstance => k_is)
    (case n_len => k_is)
    (case n_list => k_is)
    (case n_max => k_is)
    (case n_min => k_is)
    (case n_range => k_is)
    (case n_sorted => k_is)
    (case n_str => k_is)
    (case n_tuple => k_is)
    (case n_zip => k_is)
    (case c_FARTHEST_READING => k_is)
    (case r_c_FARTHEST_READING => first | exact ⟨_, rfl⟩ | exact rfl)
    (case c_LAST => k_is)
    (case r_c_LAST => first | exact ⟨_, rfl⟩ | exact rfl)
    (case c_LETTERS => k_is)
    (case r_c_LETTERS => first | exact ⟨_, rfl⟩ | exact rfl)
    (case c_LONGEST_NAME => k_is)
    (case r_c_LONGEST_NAME => first | exact ⟨_, rfl⟩ | exact rfl)
    (case c_MOST_ROWS => k_is)
    (case r_c_MOST_ROWS => first | exact ⟨_, rfl⟩ | exact rfl)
    (case c_MOST_SHIFT => k_is)
    (case r_c_MOST_SHIFT => first | exact ⟨_, rfl⟩ | exact rfl)
    (case rd_Between => k_is)
    (case gs_Between => k_is)
    (case fc_Between => k_is)
    (case rd_Entry => k_is)
    (case gs_Entry => k_is)
    (case fc_Entry => k_is)
    (case rd_Within => k_is)
    (case gs_Within => k_is)
    (case fc_Within => k_is)
    (case a_Within_places => k_is)
    (case a_At_places => k_is)
    (case a_Read_places => k_is)
    (case a_At_spans => k_is)
    (case a_Read_spans => k_is)
#print axioms PySem.Challenge.cw_foldlog_k31_entries_by_themselves_holds
