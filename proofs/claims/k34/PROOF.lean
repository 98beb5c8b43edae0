import PyProof.Rows.All
import Wide.All
import OpenK.AllK
import Wide.FinOn
import KE.KStateDown
import HandS.Base
import HandS.Call
import HandS.Ends
import HandS.ExcInit
import HandS.ExcField
import HandS.ExcIs
import HandS.Head0
import HandS.Head1
import HandS.Head2
import HandS.HeadEnd
import HandS.HeadHook1
import HandS.HeadHook2
import HandS.HeadHook4
import HandS.HeadWalk
import HandS.ForMost
import HandS.Exc
import HandS.TryOnly
import HandS.ExcOwn
import HandS.WordsExc
import HandS.Flow
import HandS.Style
import HandS.IsInst
import HandS.StrMore
import HandS.SortRule
import HandS.SortInts
import HandS.Wide
import HandS.TupAny
import HandS.Walk
import HandS.Nested
import KE.DataMinMax
import HandS.SortKw
import HandS.More
import HandS.Zip
import HandS.CallLocal
import HandS.Text
import HandS.Replace
import HandS.FStr
import KE.IntTextLaws
import KE.KExcIs
import HandS.DictComp
import HandS.DeepEq
import HandS.Set
import KE.KDictSum
import HandS.ExcValue
import HandS.Finally
import PyProof.Rows.TmSorted
import PyProof.Rows.StrMeet
import HandS.ListItems
import HandS.SetKeys
import HandS.NamedTupSort
import PyProof.InstEq
import PySem.Challenge.RW_foldlog_k34_entries_refused
set_option Elab.async false
set_option linter.all false
set_option maxRecDepth 100000
set_option maxHeartbeats 4000000
set_option linter.all false
set_option maxRecDepth 100000
set_option maxHeartbeats 4000000
namespace Hk
open PySem PySem.Spec PyProof.Rows L2 He
abbrev Fr := PySem.W.Frag
/-- what a list of objects names -/
def nxt (g : Addr → Option Obj) (fr : List Addr) : List Addr := (fr.flatMap fun a => match g a with
  | some o => refsO o
  | none => []).eraseDups
def asB (g : Addr → Option Obj) : Nat → List Addr → List Addr
  | 0, fr => fr
  | n + 1, fr => fr ++ asB g n (nxt g fr)
def obsB (fb : List (List (Fr → Bool))) (fn : List FnD) (K : Fr) : Al := ((fb.all fun l => l.all fun f => f K) && fn.all fun d => (Fa.code d.at_ d.qual).ok K, fn.map fun d => fnObs K d.at_)
def SaysB (fb : List (List (Fr → Bool))) (fn : List FnD) (K : Fr) : Prop := obsB fb fn K = valE fn
def obsBG (n : Nat) (fb : List (List (Fr → Bool))) (fn : List FnD) (g : Addr → Option Obj) : Al := obsB fb fn (frG g (asB g n [mainGlobals] ++ [cStatics]))
def hookB (n : Nat) (fb : List (List (Fr → Bool))) (fn : List FnD) : PySem.W.Hook where
  α := Al
  obs := fun s => obsBG n fb fn s.heap.get?
  val := fun _ => valE fn
  says := fun _ h => ∃ K : Fr, K.In h ∧ SaysB fb fn K
  of := fun _ _ e => ⟨_, frG_in, e⟩
  keeps := fun _ _ _ ⟨K, hK, c⟩ k => ⟨K, PySem.W.Frag.In.keeps hK k, c⟩
theorem obsBG_eq {n : Nat} {fb : List (List (Fr → Bool))} {fn : List FnD} {g : Addr → Option Obj} {s : Shared} (h : ∀ a, g a = s.heap.get? a) : obsBG n fb fn g = (hookB n fb fn).obs s := by
  have e : g = s.heap.get? := funext h
  rw [e] <;> rfl
section
variable {fb : List (List (Fr → Bool))} {fn : List FnD} {K : Fr}
theorem SaysB.fact (c : SaysB fb fn K) (i j : Nat) {l : List (Fr → Bool)} {f : Fr → Bool} (h : fb[i]? = some l := by rfl) (h2 : l[j]? = some f := by rfl) : f K = true := by
  have c1 := (ba (show ((fb.all fun l => l.all fun f => f K) && fn.all fun d => (Fa.code d.at_ d.qual).ok K) = true from congrArg (fun z : Al => z.1) c)).1
  exact List.all_eq_true.mp (List.all_eq_true.mp c1 l (List.mem_of_getElem? h)) f (List.mem_of_getElem? h2)
theorem SaysB.def_ (c : SaysB fb fn K) (i : Nat) {d : FnD} (h : fn[i]? = some d := by rfl) :
    ∃ oc od osl kV doc pm an cdv ct, K.lookup (fAd K d.at_) = some ⟨oc, od, .func (PySem.W.fnOf d.name d.qual d.params d.body d.scope .none kV doc pm an cdv ct), osl⟩ ∧ PySem.W.codeIn K cdv d.qual = true := by
  have c2 := (ba (show ((fb.all fun l => l.all fun f => f K) && fn.all fun d => (Fa.code d.at_ d.qual).ok K) = true from congrArg (fun z : Al => z.1) c)).2
  have e : fn.map (fun d => fnObs K d.at_) = fn.map FnD.val := congrArg (fun z : Al => z.2) c
  have e2 : (fn.map fun d => fnObs K d.at_)[i]? = (fn.map FnD.val)[i]? := by rw [e]
  rw [List.getElem?_map, List.getElem?_map, h] at e2
  exact fn_ok (Option.some.inj e2) (List.all_eq_true.mp c2 d (List.mem_of_getElem? h))
end
/-- a constant of the module -/
def conB (K : Fr) (x : Str) (v : V) : Bool := match PySem.W.nsIn K mainGlobals x with
  | some (some u) => relB v u
  | _ => false
theorem con_ok {K : Fr} {h : Heap} {mg : Str → Option Value} (X : K.In h) (G : h.Ns mainGlobals mg) {x : Str} {v : V} (c : conB K x v = true) : ∃ u, mg x = some u ∧ RelV v u := by
  unfold conB at c
  cases e : PySem.W.nsIn K mainGlobals x with
  | none => rw [e] at c; cases c
  | some o =>
    rw [e] at c
    cases o with
    | none => cases c
    | some u => exact ⟨u, PySem.W.mg_of X G e, relB_ok c⟩
/-- what a class's own look-up finds -/
def fcB (K : Fr) (C : Addr) (x : Str) (v : Value) : Bool := match PySem.W.findCls K (.ref C) (.type "type") x with
  | some (.val u) => decide (u = v)
  | _ => false
theorem fc_ok {K : Fr} {C : Addr} {x : Str} {v : Value} (c : fcB K C x v = true) : PySem.W.findCls K (.ref C) (.type "type") x = some (.val v) := by
  unfold fcB at c
  split at c
  · rename_i u e
    rw [e, of_decide_eq_true c]
  · cases c
/-- an own exception class under ValueError -/
def oexB (K : Fr) (C : Addr) : Bool := (match K.lookup C with
  | some ⟨.type "type", _, .cls cd, sl⟩ => (match cd.mro, sl.toList with
    | .ref C' :: bm, [_, _, _, _, some (.builtin n), _] => C' == C && n == "ValueError.__new__" && !cd.hasDel && PySem.HandSPX.refsVE bm && cd.hasDict
    | _, _ => false)
  | _ => false) && (decide (PySem.W.findIn K (.ref C) "__setattr__" = some (some (.builtin "object.__setattr__"))) && (decide (PySem.W.subIn K (.ref C) (.type "BaseException") = some true) && (decide (PySem.W.typeIn K (.ref C) = some (.type "type")) && PySem.W.keepIn K (.ref C))))
def ecB (K : Fr) (C : Addr) : Bool := xfB K C && (decide (PySem.W.findIn K (.ref C) "__class__" = some (some (.builtin "object.__class__"))) && (decide (PySem.W.specialIn K (.builtin "object.__class__") "__get__" = some (some (.builtin "getset_descriptor.__get__"))) && (decide (PySem.W.takesIn K (.builtin "object.__class__") = some true) && decide (PySem.W.mroIn K C (.type "object") = some true))))
theorem ec_ok {K : Fr} {C : Addr} (h : ecB K C = true) : L2.ExcC K C := by
  obtain ⟨h1, h⟩ := ba h
  obtain ⟨h2, h⟩ := ba h
  obtain ⟨h3, h⟩ := ba h
  obtain ⟨h4, h5⟩ := ba h
  have x := xfB_ok h1
  exact ⟨x.ga, x.gg, x.exC, x.hdC, of_decide_eq_true h2, of_decide_eq_true h3, of_decide_eq_true h4, of_decide_eq_true h5⟩
theorem oex_ok {K : Fr} {C : Addr} (h : oexB K C = true) : OexC K C := by
  obtain ⟨h1, h⟩ := ba h
  obtain ⟨h2, h⟩ := ba h
  obtain ⟨h3, h⟩ := ba h
  obtain ⟨h4, h5⟩ := ba h
  refine ⟨?_, of_decide_eq_true h2, of_decide_eq_true h3, of_decide_eq_true h4, h5⟩
  split at h1
  · rename_i dd cd sl ho
    split at h1
    · rename_i C' bm k0 k1 k2 k3 n k5 hm hs
      simp only [Bool.and_eq_true, beq_iff_eq, Bool.not_eq_true'] at h1
      obtain ⟨⟨⟨⟨rfl, rfl⟩, hdel⟩, hb⟩, hdct⟩ := h1
      obtain ⟨nm, bs, mro, ns, qn, hd, sn, sub, ab, col, del⟩ := cd
      dsimp only at hm hdel hdct
      subst hm hdel hdct
      have hsl : sl = #[k0, k1, k2, k3, some (.builtin "ValueError.__new__"), k5] := by
        obtain ⟨l⟩ := sl
        simp only at hs
        rw [hs]
      subst hsl
      exact ⟨nm, qn, ns, bs, bm, sn, sub, ab, col, dd, k0, k1, k2, k3, k5, ho, hb⟩
    · cases h1
  · cases h1
end Hk
namespace L
open PySem PySem.Spec PyProof.Rows L2
def top (i : Nat) : Stmt := PySem.Challenge.pw_foldlog_k34_entries_refused.main.body.getD i (.Pass ⟨0, 0, 0, 0⟩)
abbrev s_is_whole : Stmt := top 17
abbrev s_is_moment : Stmt := top 18
abbrev s_is_reading : Stmt := top 19
abbrev s_NoReading_init : Stmt := inClass (top 4) 0
abbrev s_is_name : Stmt := top 20
abbrev s_NoName_init : Stmt := inClass (top 6) 0
abbrev s_NoPlace_init : Stmt := inClass (top 7) 0
abbrev s_NoMoment_init : Stmt := inClass (top 3) 0
abbrev s_Entry_init : Stmt := inClass (top 24) 0
abbrev s_Within_init : Stmt := inClass (top 25) 0
abbrev s_At_init : Stmt := inClass (top 26) 0
abbrev s_Between_init : Stmt := inClass (top 27) 0
abbrev s_Read_init : Stmt := inClass (top 28) 0
abbrev s_TooMany_init : Stmt := inClass (top 5) 0
abbrev s_NoEntry_init : Stmt := inClass (top 8) 0
abbrev s_Joint_init : Stmt := inClass (top 29) 0
abbrev s_Sifted_init : Stmt := inClass (top 30) 0
abbrev s_l_cell : Stmt := top 32
abbrev s_l_mix : Stmt := top 33
abbrev s_l_begun : Stmt := top 34
abbrev s_l_pull : Stmt := top 35
abbrev s_l_keeps : Stmt := top 36
abbrev s_l_made : Stmt := top 37
abbrev s_l_refusal : Stmt := top 38
abbrev s_l_is : Stmt := top 39
abbrev s_l_names : Stmt := top 40
abbrev s_l_numbers : Stmt := top 41
abbrev s_l_sorts : Stmt := top 43
abbrev s_l_good : Stmt := top 42
abbrev s_l_spoilt : Stmt := top 44
abbrev s_l_kind_right : Stmt := top 45
abbrev s_law : Stmt := top 46
def Fb : List (List (PySem.W.Frag → Bool)) := [
  [fun K => He.Fa.ok K (.glo "Entry"), fun K => He.Fa.ok K (.cls "Entry"), fun K => He.Fa.ok K (.noat "Entry" "high"), fun K => He.Fa.ok K (.noat "Entry" "keeps"), fun K => He.Fa.ok K (.noat "Entry" "known"), fun K => He.Fa.ok K (.noat "Entry" "low"), fun K => He.Fa.ok K (.noat "Entry" "name"), fun K => He.Fa.ok K (.noat "Entry" "part"), fun K => He.Fa.ok K (.noat "Entry" "place"), fun K => decide (PySem.W.findIn K (.ref (He.ga K "Entry")) "__class__" = some (some (.builtin "object.__class__"))), fun K => decide (PySem.W.specialIn K (.builtin "object.__class__") "__get__" = some (some (.builtin "getset_descriptor.__get__"))), fun K => decide (PySem.W.takesIn K (.builtin "object.__class__") = some true), fun K => decide (PySem.W.mroIn K (He.ga K "Entry") (.type "object") = some true), fun K => He.Fa.ok K (.glo "Within"), fun K => He.Fa.ok K (.cls "Within"), fun K => He.Fa.ok K (.noat "Within" "high"), fun K => He.Fa.ok K (.noat "Within" "keeps"), fun K => He.Fa.ok K (.noat "Within" "known"), fun K => He.Fa.ok K (.noat "Within" "low"), fun K => He.Fa.ok K (.noat "Within" "name")],
  [fun K => He.Fa.ok K (.noat "Within" "part"), fun K => He.Fa.ok K (.noat "Within" "place"), fun K => decide (PySem.W.findIn K (.ref (He.ga K "Within")) "__class__" = some (some (.builtin "object.__class__"))), fun K => decide (PySem.W.mroIn K (He.ga K "Within") (.type "object") = some true), fun K => He.Fa.ok K (.glo "At"), fun K => He.Fa.ok K (.cls "At"), fun K => He.Fa.ok K (.noat "At" "high"), fun K => He.Fa.ok K (.noat "At" "keeps"), fun K => He.Fa.ok K (.noat "At" "known"), fun K => He.Fa.ok K (.noat "At" "low"), fun K => He.Fa.ok K (.noat "At" "name"), fun K => He.Fa.ok K (.noat "At" "part"), fun K => He.Fa.ok K (.noat "At" "place"), fun K => decide (PySem.W.findIn K (.ref (He.ga K "At")) "__class__" = some (some (.builtin "object.__class__"))), fun K => decide (PySem.W.mroIn K (He.ga K "At") (.type "object") = some true), fun K => He.Fa.ok K (.glo "Between"), fun K => He.Fa.ok K (.cls "Between"), fun K => He.Fa.ok K (.noat "Between" "high"), fun K => He.Fa.ok K (.noat "Between" "keeps"), fun K => He.Fa.ok K (.noat "Between" "known")],
  [fun K => He.Fa.ok K (.noat "Between" "low"), fun K => He.Fa.ok K (.noat "Between" "name"), fun K => He.Fa.ok K (.noat "Between" "part"), fun K => He.Fa.ok K (.noat "Between" "place"), fun K => decide (PySem.W.findIn K (.ref (He.ga K "Between")) "__class__" = some (some (.builtin "object.__class__"))), fun K => decide (PySem.W.mroIn K (He.ga K "Between") (.type "object") = some true), fun K => He.Fa.ok K (.glo "Read"), fun K => He.Fa.ok K (.cls "Read"), fun K => He.Fa.ok K (.noat "Read" "high"), fun K => He.Fa.ok K (.noat "Read" "keeps"), fun K => He.Fa.ok K (.noat "Read" "known"), fun K => He.Fa.ok K (.noat "Read" "low"), fun K => He.Fa.ok K (.noat "Read" "name"), fun K => He.Fa.ok K (.noat "Read" "part"), fun K => He.Fa.ok K (.noat "Read" "place"), fun K => decide (PySem.W.findIn K (.ref (He.ga K "Read")) "__class__" = some (some (.builtin "object.__class__"))), fun K => decide (PySem.W.mroIn K (He.ga K "Read") (.type "object") = some true), fun K => He.Fa.ok K (.glo "Joint"), fun K => He.Fa.ok K (.cls "Joint"), fun K => He.Fa.ok K (.noat "Joint" "high")],
  [fun K => He.Fa.ok K (.noat "Joint" "keeps"), fun K => He.Fa.ok K (.noat "Joint" "known"), fun K => He.Fa.ok K (.noat "Joint" "low"), fun K => He.Fa.ok K (.noat "Joint" "name"), fun K => He.Fa.ok K (.noat "Joint" "part"), fun K => He.Fa.ok K (.noat "Joint" "place"), fun K => decide (PySem.W.findIn K (.ref (He.ga K "Joint")) "__class__" = some (some (.builtin "object.__class__"))), fun K => decide (PySem.W.mroIn K (He.ga K "Joint") (.type "object") = some true), fun K => He.Fa.ok K (.glo "Sifted"), fun K => He.Fa.ok K (.cls "Sifted"), fun K => He.Fa.ok K (.noat "Sifted" "high"), fun K => He.Fa.ok K (.noat "Sifted" "keeps"), fun K => He.Fa.ok K (.noat "Sifted" "known"), fun K => He.Fa.ok K (.noat "Sifted" "low"), fun K => He.Fa.ok K (.noat "Sifted" "name"), fun K => He.Fa.ok K (.noat "Sifted" "part"), fun K => He.Fa.ok K (.noat "Sifted" "place"), fun K => decide (PySem.W.findIn K (.ref (He.ga K "Sifted")) "__class__" = some (some (.builtin "object.__class__"))), fun K => decide (PySem.W.mroIn K (He.ga K "Sifted") (.type "object") = some true), fun K => He.Fa.ok K (.glo "LogError")],
  [fun K => PySem.W.readsIn K (He.ga K "LogError") (.type "type"), fun K => decide (PySem.W.specialIn K (.ref (He.ga K "LogError")) "__getattribute__" = some (some (.builtin "type.__getattribute__"))), fun K => Hk.fcB K (He.ga K "LogError") "__init__" (.builtin "ValueError.__init__"), fun K => He.Fa.ok K (.glo "NoBond"), fun K => Hk.oexB K (He.ga K "NoBond"), fun K => L2.xfB K (He.ga K "NoBond"), fun K => Hk.ecB K (He.ga K "NoBond"), fun K => He.Fa.ok K (.noat "NoBond" "found"), fun K => He.Fa.ok K (.glo "NoEntry"), fun K => Hk.oexB K (He.ga K "NoEntry"), fun K => L2.xfB K (He.ga K "NoEntry"), fun K => Hk.ecB K (He.ga K "NoEntry"), fun K => He.Fa.ok K (.noat "NoEntry" "found"), fun K => He.Fa.ok K (.glo "NoMinutes"), fun K => Hk.oexB K (He.ga K "NoMinutes"), fun K => L2.xfB K (He.ga K "NoMinutes"), fun K => Hk.ecB K (He.ga K "NoMinutes"), fun K => He.Fa.ok K (.noat "NoMinutes" "found"), fun K => He.Fa.ok K (.glo "NoMoment"), fun K => Hk.oexB K (He.ga K "NoMoment")],
  [fun K => L2.xfB K (He.ga K "NoMoment"), fun K => Hk.ecB K (He.ga K "NoMoment"), fun K => He.Fa.ok K (.noat "NoMoment" "found"), fun K => He.Fa.ok K (.glo "NoName"), fun K => Hk.oexB K (He.ga K "NoName"), fun K => L2.xfB K (He.ga K "NoName"), fun K => Hk.ecB K (He.ga K "NoName"), fun K => He.Fa.ok K (.noat "NoName" "found"), fun K => He.Fa.ok K (.glo "NoPlace"), fun K => Hk.oexB K (He.ga K "NoPlace"), fun K => L2.xfB K (He.ga K "NoPlace"), fun K => Hk.ecB K (He.ga K "NoPlace"), fun K => He.Fa.ok K (.noat "NoPlace" "found"), fun K => He.Fa.ok K (.glo "NoReading"), fun K => Hk.oexB K (He.ga K "NoReading"), fun K => L2.xfB K (He.ga K "NoReading"), fun K => Hk.ecB K (He.ga K "NoReading"), fun K => He.Fa.ok K (.noat "NoReading" "found"), fun K => He.Fa.ok K (.glo "Taken"), fun K => Hk.oexB K (He.ga K "Taken")],
  [fun K => L2.xfB K (He.ga K "Taken"), fun K => Hk.ecB K (He.ga K "Taken"), fun K => He.Fa.ok K (.noat "Taken" "found"), fun K => He.Fa.ok K (.glo "TooMany"), fun K => Hk.oexB K (He.ga K "TooMany"), fun K => L2.xfB K (He.ga K "TooMany"), fun K => Hk.ecB K (He.ga K "TooMany"), fun K => He.Fa.ok K (.noat "TooMany" "many"), fun K => decide (PySem.W.kitOne K (.ref (He.ga K "NoName")) (.ref (He.ga K "NoName")) = some true), fun K => decide (PySem.W.kitOne K (.ref (He.ga K "NoName")) (.ref (He.ga K "NoMoment")) = some false), fun K => decide (PySem.W.kitOne K (.ref (He.ga K "NoName")) (.ref (He.ga K "NoReading")) = some false), fun K => decide (PySem.W.kitOne K (.ref (He.ga K "NoName")) (.ref (He.ga K "NoEntry")) = some false), fun K => decide (PySem.W.kitOne K (.ref (He.ga K "NoName")) (.ref (He.ga K "TooMany")) = some false), fun K => decide (PySem.W.kitOne K (.ref (He.ga K "NoName")) (.ref (He.ga K "NoBond")) = some false), fun K => decide (PySem.W.kitOne K (.ref (He.ga K "NoName")) (.ref (He.ga K "NoMinutes")) = some false), fun K => decide (PySem.W.kitOne K (.ref (He.ga K "NoName")) (.ref (He.ga K "NoPlace")) = some false), fun K => decide (PySem.W.kitOne K (.ref (He.ga K "NoName")) (.ref (He.ga K "Taken")) = some false), fun K => decide (PySem.W.kitOne K (.ref (He.ga K "NoMoment")) (.ref (He.ga K "NoName")) = some false), fun K => decide (PySem.W.kitOne K (.ref (He.ga K "NoMoment")) (.ref (He.ga K "NoMoment")) = some true), fun K => decide (PySem.W.kitOne K (.ref (He.ga K "NoMoment")) (.ref (He.ga K "NoReading")) = some false)],
  [fun K => decide (PySem.W.kitOne K (.ref (He.ga K "NoMoment")) (.ref (He.ga K "NoEntry")) = some false), fun K => decide (PySem.W.kitOne K (.ref (He.ga K "NoMoment")) (.ref (He.ga K "TooMany")) = some false), fun K => decide (PySem.W.kitOne K (.ref (He.ga K "NoMoment")) (.ref (He.ga K "NoBond")) = some false), fun K => decide (PySem.W.kitOne K (.ref (He.ga K "NoMoment")) (.ref (He.ga K "NoMinutes")) = some false), fun K => decide (PySem.W.kitOne K (.ref (He.ga K "NoMoment")) (.ref (He.ga K "NoPlace")) = some false), fun K => decide (PySem.W.kitOne K (.ref (He.ga K "NoMoment")) (.ref (He.ga K "Taken")) = some false), fun K => decide (PySem.W.kitOne K (.ref (He.ga K "NoReading")) (.ref (He.ga K "NoName")) = some false), fun K => decide (PySem.W.kitOne K (.ref (He.ga K "NoReading")) (.ref (He.ga K "NoMoment")) = some false), fun K => decide (PySem.W.kitOne K (.ref (He.ga K "NoReading")) (.ref (He.ga K "NoReading")) = some true), fun K => decide (PySem.W.kitOne K (.ref (He.ga K "NoReading")) (.ref (He.ga K "NoEntry")) = some false), fun K => decide (PySem.W.kitOne K (.ref (He.ga K "NoReading")) (.ref (He.ga K "TooMany")) = some false), fun K => decide (PySem.W.kitOne K (.ref (He.ga K "NoReading")) (.ref (He.ga K "NoBond")) = some false), fun K => decide (PySem.W.kitOne K (.ref (He.ga K "NoReading")) (.ref (He.ga K "NoMinutes")) = some false), fun K => decide (PySem.W.kitOne K (.ref (He.ga K "NoReading")) (.ref (He.ga K "NoPlace")) = some false), fun K => decide (PySem.W.kitOne K (.ref (He.ga K "NoReading")) (.ref (He.ga K "Taken")) = some false), fun K => decide (PySem.W.kitOne K (.ref (He.ga K "NoEntry")) (.ref (He.ga K "NoName")) = some false), fun K => decide (PySem.W.kitOne K (.ref (He.ga K "NoEntry")) (.ref (He.ga K "NoMoment")) = some false), fun K => decide (PySem.W.kitOne K (.ref (He.ga K "NoEntry")) (.ref (He.ga K "NoReading")) = some false), fun K => decide (PySem.W.kitOne K (.ref (He.ga K "NoEntry")) (.ref (He.ga K "NoEntry")) = some true), fun K => decide (PySem.W.kitOne K (.ref (He.ga K "NoEntry")) (.ref (He.ga K "TooMany")) = some false)],
  [fun K => decide (PySem.W.kitOne K (.ref (He.ga K "NoEntry")) (.ref (He.ga K "NoBond")) = some false), fun K => decide (PySem.W.kitOne K (.ref (He.ga K "NoEntry")) (.ref (He.ga K "NoMinutes")) = some false), fun K => decide (PySem.W.kitOne K (.ref (He.ga K "NoEntry")) (.ref (He.ga K "NoPlace")) = some false), fun K => decide (PySem.W.kitOne K (.ref (He.ga K "NoEntry")) (.ref (He.ga K "Taken")) = some false), fun K => decide (PySem.W.kitOne K (.ref (He.ga K "TooMany")) (.ref (He.ga K "NoName")) = some false), fun K => decide (PySem.W.kitOne K (.ref (He.ga K "TooMany")) (.ref (He.ga K "NoMoment")) = some false), fun K => decide (PySem.W.kitOne K (.ref (He.ga K "TooMany")) (.ref (He.ga K "NoReading")) = some false), fun K => decide (PySem.W.kitOne K (.ref (He.ga K "TooMany")) (.ref (He.ga K "NoEntry")) = some false), fun K => decide (PySem.W.kitOne K (.ref (He.ga K "TooMany")) (.ref (He.ga K "TooMany")) = some true), fun K => decide (PySem.W.kitOne K (.ref (He.ga K "TooMany")) (.ref (He.ga K "NoBond")) = some false), fun K => decide (PySem.W.kitOne K (.ref (He.ga K "TooMany")) (.ref (He.ga K "NoMinutes")) = some false), fun K => decide (PySem.W.kitOne K (.ref (He.ga K "TooMany")) (.ref (He.ga K "NoPlace")) = some false), fun K => decide (PySem.W.kitOne K (.ref (He.ga K "TooMany")) (.ref (He.ga K "Taken")) = some false), fun K => decide (PySem.W.kitOne K (.ref (He.ga K "NoName")) (.type "ValueError") = some true), fun K => decide (PySem.W.kitOne K (.ref (He.ga K "NoMoment")) (.type "ValueError") = some true), fun K => decide (PySem.W.kitOne K (.ref (He.ga K "NoReading")) (.type "ValueError") = some true), fun K => decide (PySem.W.kitOne K (.ref (He.ga K "NoEntry")) (.type "ValueError") = some true), fun K => decide (PySem.W.kitOne K (.ref (He.ga K "TooMany")) (.type "ValueError") = some true), fun K => decide (PySem.W.exmOne K (.ref (He.ga K "NoName")) (.ref (He.ga K "LogError")) = some true), fun K => decide (PySem.W.exmOne K (.ref (He.ga K "NoMoment")) (.ref (He.ga K "LogError")) = some true)],
  [fun K => decide (PySem.W.exmOne K (.ref (He.ga K "NoReading")) (.ref (He.ga K "LogError")) = some true), fun K => decide (PySem.W.exmOne K (.ref (He.ga K "NoEntry")) (.ref (He.ga K "LogError")) = some true), fun K => decide (PySem.W.exmOne K (.ref (He.ga K "TooMany")) (.ref (He.ga K "LogError")) = some true), fun K => decide (PySem.W.kitOne K (.type "NoneType") (.ref (He.ga K "Entry")) = some false), fun K => decide (PySem.W.kitOne K (.type "NoneType") (.ref (He.ga K "Joint")) = some false), fun K => decide (PySem.W.kitOne K (.type "NoneType") (.ref (He.ga K "Within")) = some false), fun K => decide (PySem.W.kitOne K (.type "NoneType") (.ref (He.ga K "Read")) = some false), fun K => decide (PySem.W.kitOne K (.type "bool") (.ref (He.ga K "Entry")) = some false), fun K => decide (PySem.W.kitOne K (.type "bool") (.ref (He.ga K "Joint")) = some false), fun K => decide (PySem.W.kitOne K (.type "bool") (.ref (He.ga K "Within")) = some false), fun K => decide (PySem.W.kitOne K (.type "bool") (.ref (He.ga K "Read")) = some false), fun K => decide (PySem.W.kitOne K (.type "int") (.ref (He.ga K "Entry")) = some false), fun K => decide (PySem.W.kitOne K (.type "int") (.ref (He.ga K "Joint")) = some false), fun K => decide (PySem.W.kitOne K (.type "int") (.ref (He.ga K "Within")) = some false), fun K => decide (PySem.W.kitOne K (.type "int") (.ref (He.ga K "Read")) = some false), fun K => decide (PySem.W.kitOne K (.type "str") (.ref (He.ga K "Entry")) = some false), fun K => decide (PySem.W.kitOne K (.type "str") (.ref (He.ga K "Joint")) = some false), fun K => decide (PySem.W.kitOne K (.type "str") (.ref (He.ga K "Within")) = some false), fun K => decide (PySem.W.kitOne K (.type "str") (.ref (He.ga K "Read")) = some false), fun K => decide (PySem.W.kitOne K (.type "list") (.ref (He.ga K "Entry")) = some false)],
  [fun K => decide (PySem.W.kitOne K (.type "list") (.ref (He.ga K "Joint")) = some false), fun K => decide (PySem.W.kitOne K (.type "list") (.ref (He.ga K "Within")) = some false), fun K => decide (PySem.W.kitOne K (.type "list") (.ref (He.ga K "Read")) = some false), fun K => decide (PySem.W.kitOne K (.type "tuple") (.ref (He.ga K "Entry")) = some false), fun K => decide (PySem.W.kitOne K (.type "tuple") (.ref (He.ga K "Joint")) = some false), fun K => decide (PySem.W.kitOne K (.type "tuple") (.ref (He.ga K "Within")) = some false), fun K => decide (PySem.W.kitOne K (.type "tuple") (.ref (He.ga K "Read")) = some false), fun K => decide (PySem.W.kitOne K (.type "dict") (.ref (He.ga K "Entry")) = some false), fun K => decide (PySem.W.kitOne K (.type "dict") (.ref (He.ga K "Joint")) = some false), fun K => decide (PySem.W.kitOne K (.type "dict") (.ref (He.ga K "Within")) = some false), fun K => decide (PySem.W.kitOne K (.type "dict") (.ref (He.ga K "Read")) = some false), fun K => decide (PySem.W.kitOne K (.ref (He.ga K "Entry")) (.type "list") = some false), fun K => decide (PySem.W.kitOne K (.ref (He.ga K "Entry")) (.type "bool") = some false), fun K => decide (PySem.W.kitOne K (.ref (He.ga K "Within")) (.type "list") = some false), fun K => decide (PySem.W.kitOne K (.ref (He.ga K "Within")) (.type "bool") = some false), fun K => decide (PySem.W.kitOne K (.ref (He.ga K "At")) (.type "list") = some false), fun K => decide (PySem.W.kitOne K (.ref (He.ga K "At")) (.type "bool") = some false), fun K => decide (PySem.W.kitOne K (.ref (He.ga K "Between")) (.type "list") = some false), fun K => decide (PySem.W.kitOne K (.ref (He.ga K "Between")) (.type "bool") = some false), fun K => decide (PySem.W.kitOne K (.ref (He.ga K "Read")) (.type "list") = some false)],
  [fun K => decide (PySem.W.kitOne K (.ref (He.ga K "Read")) (.type "bool") = some false), fun K => decide (PySem.W.kitOne K (.ref (He.ga K "Joint")) (.type "list") = some false), fun K => decide (PySem.W.kitOne K (.ref (He.ga K "Joint")) (.type "bool") = some false), fun K => decide (PySem.W.kitOne K (.ref (He.ga K "Sifted")) (.type "list") = some false), fun K => decide (PySem.W.kitOne K (.ref (He.ga K "Sifted")) (.type "bool") = some false), fun K => decide (PySem.W.findIn K (.ref (He.ga K "Entry")) "__eq__" = some (some (.builtin "object.__eq__"))), fun K => decide (PySem.W.findIn K (.ref (He.ga K "Within")) "__eq__" = some (some (.builtin "object.__eq__"))), fun K => decide (PySem.W.findIn K (.ref (He.ga K "At")) "__eq__" = some (some (.builtin "object.__eq__"))), fun K => decide (PySem.W.findIn K (.ref (He.ga K "Between")) "__eq__" = some (some (.builtin "object.__eq__"))), fun K => decide (PySem.W.findIn K (.ref (He.ga K "Read")) "__eq__" = some (some (.builtin "object.__eq__"))), fun K => decide (PySem.W.findIn K (.ref (He.ga K "Joint")) "__eq__" = some (some (.builtin "object.__eq__"))), fun K => decide (PySem.W.findIn K (.ref (He.ga K "Sifted")) "__eq__" = some (some (.builtin "object.__eq__"))), fun K => He.Fa.ok K (.free "ValueError"), fun K => He.Fa.ok K (.free "all"), fun K => He.Fa.ok K (.free "bool"), fun K => He.Fa.ok K (.free "enumerate"), fun K => He.Fa.ok K (.free "int"), fun K => He.Fa.ok K (.free "isinstance"), fun K => He.Fa.ok K (.free "len"), fun K => He.Fa.ok K (.free "list")],
  [fun K => He.Fa.ok K (.free "max"), fun K => He.Fa.ok K (.free "min"), fun K => He.Fa.ok K (.free "range"), fun K => He.Fa.ok K (.free "str"), fun K => Hk.conB K "FARTHEST_READING" (.int 10000000000), fun K => Hk.conB K "LAST" (.int 1000000000), fun K => Hk.conB K "LETTERS" (.str (Str.ofString "abcdefghijklmnopqrstuvwxyz")), fun K => Hk.conB K "LONGEST_NAME" (.int 8), fun K => Hk.conB K "MOST_PARTS" (.int 8), fun K => Hk.conB K "MOST_SIFTED" (.int 1000), fun K => decide (PySem.W.kitOne K (.ref (He.ga K "Entry")) (.ref (He.ga K "Within")) = some false), fun K => decide (PySem.W.kitOne K (.ref (He.ga K "Entry")) (.ref (He.ga K "At")) = some false), fun K => decide (PySem.W.kitOne K (.ref (He.ga K "Entry")) (.ref (He.ga K "Between")) = some false), fun K => decide (PySem.W.kitOne K (.ref (He.ga K "Entry")) (.ref (He.ga K "Read")) = some false), fun K => decide (PySem.W.kitOne K (.ref (He.ga K "Entry")) (.ref (He.ga K "Joint")) = some false), fun K => decide (PySem.W.kitOne K (.ref (He.ga K "Entry")) (.ref (He.ga K "Sifted")) = some false), fun K => decide (PySem.W.kitOne K (.ref (He.ga K "Within")) (.ref (He.ga K "Entry")) = some true), fun K => decide (PySem.W.kitOne K (.ref (He.ga K "Within")) (.ref (He.ga K "At")) = some false), fun K => decide (PySem.W.kitOne K (.ref (He.ga K "Within")) (.ref (He.ga K "Between")) = some false), fun K => decide (PySem.W.kitOne K (.ref (He.ga K "Within")) (.ref (He.ga K "Read")) = some false)],
  [fun K => decide (PySem.W.kitOne K (.ref (He.ga K "Within")) (.ref (He.ga K "Joint")) = some false), fun K => decide (PySem.W.kitOne K (.ref (He.ga K "Within")) (.ref (He.ga K "Sifted")) = some false), fun K => decide (PySem.W.kitOne K (.ref (He.ga K "At")) (.ref (He.ga K "Entry")) = some true), fun K => decide (PySem.W.kitOne K (.ref (He.ga K "At")) (.ref (He.ga K "Within")) = some true), fun K => decide (PySem.W.kitOne K (.ref (He.ga K "At")) (.ref (He.ga K "Between")) = some false), fun K => decide (PySem.W.kitOne K (.ref (He.ga K "At")) (.ref (He.ga K "Read")) = some false), fun K => decide (PySem.W.kitOne K (.ref (He.ga K "At")) (.ref (He.ga K "Joint")) = some false), fun K => decide (PySem.W.kitOne K (.ref (He.ga K "At")) (.ref (He.ga K "Sifted")) = some false), fun K => decide (PySem.W.kitOne K (.ref (He.ga K "Between")) (.ref (He.ga K "Entry")) = some true), fun K => decide (PySem.W.kitOne K (.ref (He.ga K "Between")) (.ref (He.ga K "Within")) = some false), fun K => decide (PySem.W.kitOne K (.ref (He.ga K "Between")) (.ref (He.ga K "At")) = some false), fun K => decide (PySem.W.kitOne K (.ref (He.ga K "Between")) (.ref (He.ga K "Read")) = some false), fun K => decide (PySem.W.kitOne K (.ref (He.ga K "Between")) (.ref (He.ga K "Joint")) = some false), fun K => decide (PySem.W.kitOne K (.ref (He.ga K "Between")) (.ref (He.ga K "Sifted")) = some false), fun K => decide (PySem.W.kitOne K (.ref (He.ga K "Read")) (.ref (He.ga K "Entry")) = some true), fun K => decide (PySem.W.kitOne K (.ref (He.ga K "Read")) (.ref (He.ga K "Within")) = some false), fun K => decide (PySem.W.kitOne K (.ref (He.ga K "Read")) (.ref (He.ga K "At")) = some false), fun K => decide (PySem.W.kitOne K (.ref (He.ga K "Read")) (.ref (He.ga K "Between")) = some true), fun K => decide (PySem.W.kitOne K (.ref (He.ga K "Read")) (.ref (He.ga K "Joint")) = some false), fun K => decide (PySem.W.kitOne K (.ref (He.ga K "Read")) (.ref (He.ga K "Sifted")) = some false)],
  [fun K => decide (PySem.W.kitOne K (.ref (He.ga K "Joint")) (.ref (He.ga K "Entry")) = some true), fun K => decide (PySem.W.kitOne K (.ref (He.ga K "Joint")) (.ref (He.ga K "Within")) = some false), fun K => decide (PySem.W.kitOne K (.ref (He.ga K "Joint")) (.ref (He.ga K "At")) = some false), fun K => decide (PySem.W.kitOne K (.ref (He.ga K "Joint")) (.ref (He.ga K "Between")) = some false), fun K => decide (PySem.W.kitOne K (.ref (He.ga K "Joint")) (.ref (He.ga K "Read")) = some false), fun K => decide (PySem.W.kitOne K (.ref (He.ga K "Joint")) (.ref (He.ga K "Sifted")) = some false), fun K => decide (PySem.W.kitOne K (.ref (He.ga K "Sifted")) (.ref (He.ga K "Entry")) = some true), fun K => decide (PySem.W.kitOne K (.ref (He.ga K "Sifted")) (.ref (He.ga K "Within")) = some false), fun K => decide (PySem.W.kitOne K (.ref (He.ga K "Sifted")) (.ref (He.ga K "At")) = some false), fun K => decide (PySem.W.kitOne K (.ref (He.ga K "Sifted")) (.ref (He.ga K "Between")) = some false), fun K => decide (PySem.W.kitOne K (.ref (He.ga K "Sifted")) (.ref (He.ga K "Read")) = some false), fun K => decide (PySem.W.kitOne K (.ref (He.ga K "Sifted")) (.ref (He.ga K "Joint")) = some false), fun K => PySem.W.keepIn K (.ref (He.fAd K ("is_whole", none))), fun K => He.Fa.ok K (.glo "is_whole"), fun K => PySem.W.keepIn K (.ref (He.fAd K ("is_moment", none))), fun K => He.Fa.ok K (.glo "is_moment"), fun K => PySem.W.keepIn K (.ref (He.fAd K ("is_reading", none))), fun K => He.Fa.ok K (.glo "is_reading"), fun K => PySem.W.keepIn K (.ref (He.fAd K ("NoReading", some "__init__"))), fun K => decide (PySem.W.findIn K (.ref (He.ga K "NoReading")) "__init__" = some (some (.ref (He.fAd K ("NoReading", some "__init__")))))],
  [fun K => decide (PySem.W.typeIn K (.ref (He.fAd K ("NoReading", some "__init__"))) = some (.type "function")), fun K => PySem.W.keepIn K (.ref (He.fAd K ("is_name", none))), fun K => He.Fa.ok K (.glo "is_name"), fun K => PySem.W.keepIn K (.ref (He.fAd K ("NoName", some "__init__"))), fun K => decide (PySem.W.findIn K (.ref (He.ga K "NoName")) "__init__" = some (some (.ref (He.fAd K ("NoName", some "__init__"))))), fun K => decide (PySem.W.typeIn K (.ref (He.fAd K ("NoName", some "__init__"))) = some (.type "function")), fun K => PySem.W.keepIn K (.ref (He.fAd K ("NoPlace", some "__init__"))), fun K => decide (PySem.W.findIn K (.ref (He.ga K "NoPlace")) "__init__" = some (some (.ref (He.fAd K ("NoPlace", some "__init__"))))), fun K => decide (PySem.W.typeIn K (.ref (He.fAd K ("NoPlace", some "__init__"))) = some (.type "function")), fun K => PySem.W.keepIn K (.ref (He.fAd K ("NoMoment", some "__init__"))), fun K => decide (PySem.W.findIn K (.ref (He.ga K "NoMoment")) "__init__" = some (some (.ref (He.fAd K ("NoMoment", some "__init__"))))), fun K => decide (PySem.W.typeIn K (.ref (He.fAd K ("NoMoment", some "__init__"))) = some (.type "function")), fun K => PySem.W.keepIn K (.ref (He.fAd K ("Entry", some "__init__"))), fun K => He.Fa.ok K (.mkr "Entry"), fun K => PySem.W.readsIn K (He.ga K "Entry") (.type "type"), fun K => decide (PySem.W.specialIn K (.ref (He.ga K "Entry")) "__getattribute__" = some (some (.builtin "type.__getattribute__"))), fun K => Hk.fcB K (He.ga K "Entry") "__init__" (.ref (He.fAd K ("Entry", some "__init__"))), fun K => PySem.W.keepIn K (.ref (He.fAd K ("Within", some "__init__"))), fun K => He.Fa.ok K (.mkr "Within"), fun K => PySem.W.readsIn K (He.ga K "Within") (.type "type")],
  [fun K => decide (PySem.W.specialIn K (.ref (He.ga K "Within")) "__getattribute__" = some (some (.builtin "type.__getattribute__"))), fun K => Hk.fcB K (He.ga K "Within") "__init__" (.ref (He.fAd K ("Within", some "__init__"))), fun K => PySem.W.keepIn K (.ref (He.fAd K ("At", some "__init__"))), fun K => He.Fa.ok K (.mkr "At"), fun K => PySem.W.keepIn K (.ref (He.fAd K ("Between", some "__init__"))), fun K => He.Fa.ok K (.mkr "Between"), fun K => PySem.W.readsIn K (He.ga K "Between") (.type "type"), fun K => decide (PySem.W.specialIn K (.ref (He.ga K "Between")) "__getattribute__" = some (some (.builtin "type.__getattribute__"))), fun K => Hk.fcB K (He.ga K "Between") "__init__" (.ref (He.fAd K ("Between", some "__init__"))), fun K => PySem.W.keepIn K (.ref (He.fAd K ("Read", some "__init__"))), fun K => He.Fa.ok K (.mkr "Read"), fun K => PySem.W.keepIn K (.ref (He.fAd K ("TooMany", some "__init__"))), fun K => decide (PySem.W.findIn K (.ref (He.ga K "TooMany")) "__init__" = some (some (.ref (He.fAd K ("TooMany", some "__init__"))))), fun K => decide (PySem.W.typeIn K (.ref (He.fAd K ("TooMany", some "__init__"))) = some (.type "function")), fun K => PySem.W.keepIn K (.ref (He.fAd K ("NoEntry", some "__init__"))), fun K => decide (PySem.W.findIn K (.ref (He.ga K "NoEntry")) "__init__" = some (some (.ref (He.fAd K ("NoEntry", some "__init__"))))), fun K => decide (PySem.W.typeIn K (.ref (He.fAd K ("NoEntry", some "__init__"))) = some (.type "function")), fun K => PySem.W.keepIn K (.ref (He.fAd K ("Joint", some "__init__"))), fun K => He.Fa.ok K (.mkr "Joint"), fun K => PySem.W.keepIn K (.ref (He.fAd K ("Sifted", some "__init__")))],
  [fun K => He.Fa.ok K (.mkr "Sifted"), fun K => PySem.W.keepIn K (.ref (He.fAd K ("_law_cell", none))), fun K => He.Fa.ok K (.glo "_law_cell"), fun K => PySem.W.keepIn K (.ref (He.fAd K ("_law_mix", none))), fun K => He.Fa.ok K (.glo "_law_mix"), fun K => PySem.W.keepIn K (.ref (He.fAd K ("_law_begun", none))), fun K => He.Fa.ok K (.glo "_law_begun"), fun K => PySem.W.keepIn K (.ref (He.fAd K ("_law_pull", none))), fun K => He.Fa.ok K (.glo "_law_pull"), fun K => PySem.W.keepIn K (.ref (He.fAd K ("_law_keeps", none))), fun K => He.Fa.ok K (.glo "_law_keeps"), fun K => PySem.W.keepIn K (.ref (He.fAd K ("_law_made", none))), fun K => He.Fa.ok K (.glo "_law_made"), fun K => PySem.W.keepIn K (.ref (He.fAd K ("_law_refusal", none))), fun K => He.Fa.ok K (.glo "_law_refusal"), fun K => PySem.W.keepIn K (.ref (He.fAd K ("_law_is", none))), fun K => He.Fa.ok K (.glo "_law_is"), fun K => PySem.W.keepIn K (.ref (He.fAd K ("_law_names", none))), fun K => He.Fa.ok K (.glo "_law_names"), fun K => PySem.W.keepIn K (.ref (He.fAd K ("_law_numbers", none)))],
  [fun K => He.Fa.ok K (.glo "_law_numbers"), fun K => PySem.W.keepIn K (.ref (He.fAd K ("_law_sorts", none))), fun K => He.Fa.ok K (.glo "_law_sorts"), fun K => PySem.W.keepIn K (.ref (He.fAd K ("_law_good", none))), fun K => He.Fa.ok K (.glo "_law_good"), fun K => PySem.W.keepIn K (.ref (He.fAd K ("_law_spoilt", none))), fun K => He.Fa.ok K (.glo "_law_spoilt"), fun K => PySem.W.keepIn K (.ref (He.fAd K ("_law_kind_right", none))), fun K => He.Fa.ok K (.glo "_law_kind_right"), fun K => PySem.W.keepIn K (.ref (He.fAd K ("law", none))), fun K => He.Fa.ok K (.glo "law")]]
def Fn : List He.FnD := [⟨("is_whole", none), "is_whole", "is_whole", defArgs s_is_whole, defBody s_is_whole, defScope s_is_whole⟩, ⟨("is_moment", none), "is_moment", "is_moment", defArgs s_is_moment, defBody s_is_moment, defScope s_is_moment⟩, ⟨("is_reading", none), "is_reading", "is_reading", defArgs s_is_reading, defBody s_is_reading, defScope s_is_reading⟩, ⟨("NoReading", some "__init__"), "__init__", "NoReading.__init__", defArgs s_NoReading_init, defBody s_NoReading_init, defScope s_NoReading_init⟩, ⟨("is_name", none), "is_name", "is_name", defArgs s_is_name, defBody s_is_name, defScope s_is_name⟩, ⟨("NoName", some "__init__"), "__init__", "NoName.__init__", defArgs s_NoName_init, defBody s_NoName_init, defScope s_NoName_init⟩, ⟨("NoPlace", some "__init__"), "__init__", "NoPlace.__init__", defArgs s_NoPlace_init, defBody s_NoPlace_init, defScope s_NoPlace_init⟩, ⟨("NoMoment", some "__init__"), "__init__", "NoMoment.__init__", defArgs s_NoMoment_init, defBody s_NoMoment_init, defScope s_NoMoment_init⟩, ⟨("Entry", some "__init__"), "__init__", "Entry.__init__", defArgs s_Entry_init, defBody s_Entry_init, defScope s_Entry_init⟩, ⟨("Within", some "__init__"), "__init__", "Within.__init__", defArgs s_Within_init, defBody s_Within_init, defScope s_Within_init⟩, ⟨("At", some "__init__"), "__init__", "At.__init__", defArgs s_At_init, defBody s_At_init, defScope s_At_init⟩, ⟨("Between", some "__init__"), "__init__", "Between.__init__", defArgs s_Between_init, defBody s_Between_init, defScope s_Between_init⟩, ⟨("Read", some "__init__"), "__init__", "Read.__init__", defArgs s_Read_init, defBody s_Read_init, defScope s_Read_init⟩, ⟨("TooMany", some "__init__"), "__init__", "TooMany.__init__", defArgs s_TooMany_init, defBody s_TooMany_init, defScope s_TooMany_init⟩, ⟨("NoEntry", some "__init__"), "__init__", "NoEntry.__init__", defArgs s_NoEntry_init, defBody s_NoEntry_init, defScope s_NoEntry_init⟩, ⟨("Joint", some "__init__"), "__init__", "Joint.__init__", defArgs s_Joint_init, defBody s_Joint_init, defScope s_Joint_init⟩, ⟨("Sifted", some "__init__"), "__init__", "Sifted.__init__", defArgs s_Sifted_init, defBody s_Sifted_init, defScope s_Sifted_init⟩, ⟨("_law_cell", none), "_law_cell", "_law_cell", defArgs s_l_cell, defBody s_l_cell, defScope s_l_cell⟩, ⟨("_law_mix", none), "_law_mix", "_law_mix", defArgs s_l_mix, defBody s_l_mix, defScope s_l_mix⟩, ⟨("_law_begun", none), "_law_begun", "_law_begun", defArgs s_l_begun, defBody s_l_begun, defScope s_l_begun⟩, ⟨("_law_pull", none), "_law_pull", "_law_pull", defArgs s_l_pull, defBody s_l_pull, defScope s_l_pull⟩, ⟨("_law_keeps", none), "_law_keeps", "_law_keeps", defArgs s_l_keeps, defBody s_l_keeps, defScope s_l_keeps⟩, ⟨("_law_made", none), "_law_made", "_law_made", defArgs s_l_made, defBody s_l_made, defScope s_l_made⟩, ⟨("_law_refusal", none), "_law_refusal", "_law_refusal", defArgs s_l_refusal, defBody s_l_refusal, defScope s_l_refusal⟩, ⟨("_law_is", none), "_law_is", "_law_is", defArgs s_l_is, defBody s_l_is, defScope s_l_is⟩, ⟨("_law_names", none), "_law_names", "_law_names", defArgs s_l_names, defBody s_l_names, defScope s_l_names⟩, ⟨("_law_numbers", none), "_law_numbers", "_law_numbers", defArgs s_l_numbers, defBody s_l_numbers, defScope s_l_numbers⟩, ⟨("_law_sorts", none), "_law_sorts", "_law_sorts", defArgs s_l_sorts, defBody s_l_sorts, defScope s_l_sorts⟩, ⟨("_law_good", none), "_law_good", "_law_good", defArgs s_l_good, defBody s_l_good, defScope s_l_good⟩, ⟨("_law_spoilt", none), "_law_spoilt", "_law_spoilt", defArgs s_l_spoilt, defBody s_l_spoilt, defScope s_l_spoilt⟩, ⟨("_law_kind_right", none), "_law_kind_right", "_law_kind_right", defArgs s_l_kind_right, defBody s_l_kind_right, defScope s_l_kind_right⟩, ⟨("law", none), "law", "law", defArgs s_law, defBody s_law, defScope s_law⟩]
def nms0 : List Str := ["_wall", "LogError", "NoMoment", "NoReading", "TooMany", "NoName", "NoPlace", "NoEntry", "Taken", "NoMinutes", "NoBond", "LETTERS", "LONGEST_NAME", "LAST", "FARTHEST_READING", "is_whole", "is_moment", "is_reading", "is_name", "MOST_PARTS", "MOST_SIFTED", "Entry", "Within", "At", "Between", "Read", "Joint", "Sifted", "_law_cell", "_law_mix"]
def nms1 : List Str := ["_law_begun", "_law_pull", "_law_keeps", "_law_made", "_law_refusal", "_law_is", "_law_names", "_law_numbers", "_law_good", "_law_sorts", "_law_spoilt", "_law_kind_right"]
def nms : List Str := nms0 ++ nms1
abbrev HR : PySem.W.OpenRow := PySem.W.OpenLaw.row PySem.Challenge.rw_foldlog_k34_entries_refused
abbrev hk : PySem.W.Hook := Hk.hookB 4 Fb Fn
def ob (s : PySem.W.SharedT) : He.Al := Hk.obsBG 4 Fb Fn (HandSHeadRun.getT s)
theorem ob_eq (s : PySem.W.SharedT) : ob s = hk.obs s.abs := Hk.obsBG_eq (HandSHeadRun.getT_eq s)
theorem run (w : World) : HandSHeadRun.RunEq HR (PySem.W.view HR.prog [46]) hk ob 30000 nms w := by
  intro os
  kernel_rfl
end L
set_option Elab.async false
set_option linter.all false
set_option maxRecDepth 100000
set_option maxHeartbeats 4000000
namespace G
open PySem L2
/-- tables of code objects, each with the names that its places have -/
abbrev Tabl := List (Addr × (Nat → Nat → Str))
/-- they stand, and what they tell stands for good -/
def TabW (T : Tabl) (S H : Hp) : Prop := ∀ p ∈ T, S p.1 = none ∧ ∃ ps : Array Value, H p.1 = some (.tbl ps) ∧ TriplesOk ps.toList ∧ ∀ (pos : Pos) (cv : Value), codeAmong pos ps.toList = some cv → ∃ c, cv = .ref c ∧ S c = some (LamX.CodeO c (p.2 pos.line pos.col))
theorem TabW.nil {S H : Hp} : TabW [] S H := fun p hp => absurd hp (by simp)
theorem TabW.step {T : Tabl} {S H S' H' : Hp} (h : TabW T S H) (s : Same S S') (n : ∀ p ∈ T, S' p.1 = S p.1 ∧ H' p.1 = H p.1) : TabW T S' H' := fun p hp => by
  obtain ⟨e, ps, h1, h2, h3⟩ := h p hp
  refine ⟨by rw [(n p hp).1]; exact e, ps, by rw [(n p hp).2]; exact h1, h2, fun pos cv hc => ?_⟩
  obtain ⟨c, e1, e2⟩ := h3 pos cv hc
  exact ⟨c, e1, s _ _ e2⟩
/-- S: what will never change; H: all that stands; T: the tables -/
structure Wd where
  S : Hp
  H : Hp
  ok : Same S H
  T : Tabl
  tb : TabW T S H
/-- no table -/
def Nt (w : Wd) (b : Addr) : Prop := ∀ p ∈ w.T, p.1 ≠ b
/-- from w to v: m the cells that were touched -/
structure Ext (m : Addr → Prop) (w v : Wd) : Prop where
  st : Same w.S v.S
  hp : ∀ b o, ¬ m b → Nt w b → w.H b = some o → v.H b = some o
  nw : ∀ b, ¬ m b → w.S b = none → w.H b ≠ none → v.S b = none
  al : ∀ b, w.H b ≠ none → v.H b ≠ none
  tq : v.T = w.T
theorem Ext.nt {m : Addr → Prop} {w v : Wd} (e : Ext m w v) {b : Addr} (h : Nt w b) : Nt v b := fun p hp => h p (by rw [← e.tq]; exact hp)
theorem Wd.ntN {w : Wd} {b : Addr} (h : w.H b = none) : Nt w b := fun p hp z => by
  obtain ⟨_, ps, e, _⟩ := w.tb p hp
  rw [z, h] at e
  cases e
abbrev Non : Addr → Prop := fun _ => False
abbrev One (l : Addr) : Addr → Prop := fun b => b = l
abbrev Two (l k : Addr) : Addr → Prop := fun b => b = l ∨ b = k
theorem Ext.refl (m : Addr → Prop) (w : Wd) : Ext m w w := ⟨fun _ _ h => h, fun _ _ _ _ h => h, fun _ _ h _ => h, fun _ h => h, rfl⟩
theorem Ext.back {m : Addr → Prop} {w v : Wd} {l : Addr} (e : Ext m w v) (h : v.H l = none) : w.H l = none := by
  cases q : w.H l with
  | none => rfl
  | some o => exact absurd h (e.al l (by rw [q]; exact fun z => by cases z))
theorem Ext.trans {m : Addr → Prop} {u w v : Wd} (a : Ext m u w) (b : Ext m w v) : Ext m u v :=
  ⟨fun c o h => b.st c o (a.st c o h), fun c o n t h => b.hp c o n (a.nt t) (a.hp c o n t h), fun c n h q => b.nw c n (a.nw c n h q) (a.al c q), fun c h => b.al c (a.al c h), b.tq.trans a.tq⟩
/-- a step that touches cells that u does not know, or may be touched -/
theorem Ext.step {m k : Addr → Prop} {u w v : Wd} (a : Ext m u w) (b : Ext k w v) (h : ∀ l, k l → u.H l = none ∨ m l) : Ext m u v := by
  have key : ∀ c, ¬ m c → u.H c ≠ none → ¬ k c := fun c n q z => (h c z).elim q n
  refine ⟨fun c o x => b.st c o (a.st c o x), fun c o n t x => b.hp c o (key c n (by rw [x]; exact fun z => by cases z)) (a.nt t) (a.hp c o n t x), fun c n x q => b.nw c (key c n q) (a.nw c n x q) (a.al c q), fun c x => b.al c (a.al c x), b.tq.trans a.tq⟩
theorem Ext.more {m k : Addr → Prop} {w v : Wd} (a : Ext m w v) (h : ∀ l, m l → w.H l = none ∨ k l) : Ext k w v := (Ext.refl k w).step a h
/-- a cell that is one's own -/
structure Own (w : Wd) (l : Addr) (o : HO) : Prop where
  s : w.S l = none
  h : w.H l = some o
  nt : Nt w l
theorem Own.ext {m : Addr → Prop} {w v : Wd} {l : Addr} {o : HO} (e : Ext m w v) (n : ¬ m l) (h : Own w l o) : Own v l o :=
  ⟨e.nw l n h.s (by rw [h.h]; exact fun z => by cases z), e.hp l o n h.nt h.h, e.nt h.nt⟩
theorem Own.ne {w : Wd} {l p : Addr} {o : HO} (h : Own w l o) (n : w.H p = none) : l ≠ p := ne_of_none h.h n
theorem Own.ne' {w : Wd} {l p : Addr} {o : HO} (h : Own w l o) (n : w.H p = none) : p ≠ l := (ne_of_none h.h n).symm
section
variable {w : Wd} {o u : HO} {l : Addr} {Q : VK} {R : Hp → Prop}
/-- a new stable thing -/
theorem newS (k : ∀ p v, Ext Non w v → w.H p = none → v.S p = some o → Q (.ref p) v.H) : ∀ p, w.H p = none → Q (.ref p) (upd w.H p o) := fun p hp => by
  have sp : w.S p = none := w.ok.free hp
  have np : ∀ q ∈ w.T, q.1 ≠ p := Wd.ntN hp
  refine k p ⟨upd w.S p o, upd w.H p o, fun b q h => ?_, w.T, w.tb.step (fun b q h => ?_) fun q hq => ⟨upd_ne (np q hq), upd_ne (np q hq)⟩⟩ ⟨fun b q h => ?_, fun b q _ _ h => ?_, fun b _ h z => ?_, fun b h => ?_, rfl⟩ hp upd_same
  · by_cases e : b = p
    · subst e
      rw [upd_same] at h
      rw [upd_same]
      exact h
    · rw [upd_ne e] at h
      rw [upd_ne e]
      exact w.ok b q h
  · rw [upd_ne (ne_of_none h sp)]
    exact h
  · show upd w.S p o b = some q
    rw [upd_ne (ne_of_none h sp)]
    exact h
  · show upd w.H p o b = some q
    rw [upd_ne (ne_of_none h hp)]
    exact h
  · have e : b ≠ p := fun e => by rw [e, hp] at z; exact z rfl
    show upd w.S p o b = none
    rw [upd_ne e]
    exact h
  · have e : b ≠ p := fun e => by rw [e, hp] at h; exact h rfl
    show upd w.H p o b ≠ none
    rw [upd_ne e]
    exact h
/-- a new thing of one's own -/
theorem newO (k : ∀ p v, Ext Non w v → w.H p = none → Own v p o → Q (.ref p) v.H) : ∀ p, w.H p = none → Q (.ref p) (upd w.H p o) := fun p hp => by
  have sp : w.S p = none := w.ok.free hp
  have np : ∀ q ∈ w.T, q.1 ≠ p := Wd.ntN hp
  refine k p ⟨w.S, upd w.H p o, fun b q h => ?_, w.T, w.tb.step (fun b q h => h) fun q hq => ⟨rfl, upd_ne (np q hq)⟩⟩ ⟨fun b q h => h, fun b q _ _ h => ?_, fun b _ h z => h, fun b h => ?_, rfl⟩ hp ⟨sp, upd_same, np⟩
  · rw [upd_ne (ne_of_none h sp)]
    exact w.ok b q h
  · show upd w.H p o b = some q
    rw [upd_ne (ne_of_none h hp)]
    exact h
  · have e : b ≠ p := fun e => by rw [e, hp] at h; exact h rfl
    show upd w.H p o b ≠ none
    rw [upd_ne e]
    exact h
/-- a store into a cell of one's own -/
theorem put (h : Own w l o) (k : ∀ v, Ext (One l) w v → Own v l u → R v.H) : R (upd w.H l u) := by
  refine k ⟨w.S, upd w.H l u, fun b q x => ?_, w.T, w.tb.step (fun b q h => h) fun q hq => ⟨rfl, upd_ne (h.nt q hq)⟩⟩ ⟨fun b q x => x, fun b q n _ x => ?_, fun b n x z => x, fun b x => ?_, rfl⟩ ⟨h.s, upd_same, h.nt⟩
  · have e : b ≠ l := fun e => by rw [e, h.s] at x; cases x
    rw [upd_ne e]
    exact w.ok b q x
  · show upd w.H l u b = some q
    rw [upd_ne n]
    exact x
  · show upd w.H l u b ≠ none
    by_cases e : b = l
    · rw [e, upd_same]
      exact fun z => by cases z
    · rw [upd_ne e]
      exact x
/-- what one owns is laid among what never changes -/
theorem lay (h : Own w l o) (k : ∀ v, Ext (One l) w v → v.S l = some o → R v.H) : R w.H := by
  refine k ⟨upd w.S l o, w.H, fun b q x => ?_, w.T, w.tb.step (fun b q x => ?_) fun q hq => ⟨upd_ne (h.nt q hq), rfl⟩⟩ ⟨fun b q x => ?_, fun b q _ _ x => x, fun b n x z => ?_, fun b x => x, rfl⟩ upd_same
  · by_cases e : b = l
    · subst e
      rw [upd_same] at x
      exact (Option.some.inj x) ▸ h.h
    · rw [upd_ne e] at x
      exact w.ok b q x
  · rw [upd_ne (fun e => by rw [e, h.s] at x; cases x)]
    exact x
  · show upd w.S l o b = some q
    rw [upd_ne (fun e => by rw [e, h.s] at x; cases x)]
    exact x
  · show upd w.S l o b = none
    rw [upd_ne n]
    exact x
end
mutual
inductive Rp (S : Hp) : V → PyData → Prop
  | non : Rp S .non .none
  | bl (b : Bool) : Rp S (.bl b) (.bool b)
  | int (i : Int) : Rp S (.int i) (.int i)
  | str (x : Str) : Rp S (.str x) (.str x)
  | lst {a : Addr} {xs : List V} {ds : List PyData} : S a = some (.lst xs) → RpA S xs ds → Rp S (.ref a) (.list ds)
  | tup {a : Addr} {xs : List V} {ds : List PyData} : S a = some (.tup xs) → RpA S xs ds → Rp S (.ref a) (.tuple ds)
  | dct {a : Addr} {kvs : List (Key × V)} : S a = some (.dK kvs) → Rp S (.ref a) (.dict [])
inductive RpA (S : Hp) : List V → List PyData → Prop
  | nil : RpA S [] []
  | cons {v : V} {vs : List V} {d : PyData} {ds : List PyData} : Rp S v d → RpA S vs ds → RpA S (v :: vs) (d :: ds)
end
mutual
theorem Rp.mono {S T : Hp} (e : Same S T) : ∀ (d : PyData) (v : V), Rp S v d → Rp T v d
  | .none, _, h => by cases h; exact .non
  | .bool b, _, h => by cases h; exact .bl b
  | .int i, _, h => by cases h; exact .int i
  | .str x, _, h => by cases h; exact .str x
  | .list ds, _, h => by
    cases h with
    | lst h1 h2 => exact .lst (e _ _ h1) (RpA.mono e ds _ h2)
  | .tuple ds, _, h => by
    cases h with
    | tup h1 h2 => exact .tup (e _ _ h1) (RpA.mono e ds _ h2)
  | .dict _, _, h => by
    cases h with
    | dct h1 => exact .dct (e _ _ h1)
theorem RpA.mono {S T : Hp} (e : Same S T) : ∀ (ds : List PyData) (vs : List V), RpA S vs ds → RpA T vs ds
  | [], _, h => by cases h; exact .nil
  | d :: ds, _, h => by
    cases h with
    | cons h1 h2 => exact .cons (Rp.mono e d _ h1) (RpA.mono e ds _ h2)
end
theorem Rp.go {m : Addr → Prop} {w v : Wd} {x : V} {d : PyData} (e : Ext m w v) (h : Rp w.S x d) : Rp v.S x d := Rp.mono e.st d x h
theorem RpA.go {m : Addr → Prop} {w v : Wd} {x : List V} {d : List PyData} (e : Ext m w v) (h : RpA w.S x d) : RpA v.S x d := RpA.mono e.st d x h
theorem st_go {m : Addr → Prop} {w v : Wd} {a : Addr} {o : HO} (e : Ext m w v) (h : w.S a = some o) : v.S a = some o := e.st _ _ h
section
variable {S : Hp} {v : V} {vs us : List V} {ds es : List PyData} {d : PyData}
theorem Rp.int_inv {i : Int} (h : Rp S v (.int i)) : v = .int i := by cases h; rfl
theorem Rp.str_inv {i : Str} (h : Rp S v (.str i)) : v = .str i := by cases h; rfl
theorem RpA.length : ∀ {vs : List V} {ds : List PyData}, RpA S vs ds → vs.length = ds.length
  | _, _, .nil => rfl
  | _, _, .cons _ t => by rw [List.length_cons, List.length_cons, RpA.length t]
theorem RpA.append : ∀ {vs us : List V} {ds es : List PyData}, RpA S vs ds → RpA S us es → RpA S (vs ++ us) (ds ++ es)
  | _, _, _, _, .nil, h => h
  | _, _, _, _, .cons r t, h => .cons r (RpA.append t h)
theorem RpA.one (h : Rp S v d) : RpA S [v] [d] := .cons h .nil
theorem RpA.ints_inv : ∀ {vs : List V} {ns : List Int}, RpA S vs (ns.map PyData.int) → vs = ns.map V.int
  | _, [], h => by cases h; rfl
  | _, n :: ns, h => by
    cases h with
    | cons h1 h2 =>
      rw [h1.int_inv, RpA.ints_inv h2]
      rfl
theorem RpA.strs_inv : ∀ {vs : List V} {ns : List Str}, RpA S vs (ns.map PyData.str) → vs = ns.map V.str
  | _, [], h => by cases h; rfl
  | _, n :: ns, h => by
    cases h with
    | cons h1 h2 =>
      rw [h1.str_inv, RpA.strs_inv h2]
      rfl
end
/-- no dict within -/
def nd : PyData → Bool
  | .dict _ => false
  | .list ds => ds.attach.all fun ⟨d, _⟩ => nd d
  | .tuple ds => ds.attach.all fun ⟨d, _⟩ => nd d
  | _ => true
mutual
theorem Rp.dp {K : PySem.W.Frag} {S : Hp} : ∀ (d : PyData) (v : V), Rp S v d → nd d = true → Dp K S v d
  | .none, _, h, _ => by cases h; exact .non
  | .bool b, _, h, _ => by cases h; exact .bl b
  | .int i, _, h, _ => by cases h; exact .int i
  | .str x, _, h, _ => by cases h; exact .str x
  | .list ds, _, h, n => by
    cases h with
    | lst h1 h2 =>
      unfold nd at n
      rw [List.all_eq_true] at n
      exact .lst (SqL.of h1) (RpA.dp ds _ h2 fun d hd => n ⟨d, hd⟩ (List.mem_attach ..))
  | .tuple ds, _, h, n => by
    cases h with
    | tup h1 h2 =>
      unfold nd at n
      rw [List.all_eq_true] at n
      exact .tup (SqT.of h1) (RpA.dp ds _ h2 fun d hd => n ⟨d, hd⟩ (List.mem_attach ..))
  | .dict _, _, h, n => by unfold nd at n; cases n
theorem RpA.dp {K : PySem.W.Frag} {S : Hp} : ∀ (ds : List PyData) (vs : List V), RpA S vs ds → (∀ d ∈ ds, nd d = true) → DpAll K S vs ds
  | [], _, h, _ => by cases h; exact .nil
  | d :: ds, _, h, n => by
    cases h with
    | cons h1 h2 => exact .cons (Rp.dp d _ h1 (n d List.mem_cons_self)) (RpA.dp ds _ h2 fun e he => n e (List.mem_cons_of_mem _ he))
end
mutual
theorem dp_mono {K : PySem.W.Frag} {S T : Hp} (e : Same S T) : ∀ (d : PyData) (v : V), Dp K S v d → Dp K T v d
  | .none, _, h => by cases h; exact .non
  | .bool b, _, h => by cases h; exact .bl b
  | .int i, _, h => by cases h; exact .int i
  | .str x, _, h => by cases h; exact .str x
  | .list ds, _, h => by
    cases h with
    | lst h1 h2 => exact .lst (e.seq h1) (dp_monoA e ds _ h2)
  | .tuple ds, _, h => by
    cases h with
    | tup h1 h2 => exact .tup (h1.elim (fun q => q.elim (fun z => SqT.of (e _ _ z)) fun ⟨o, z⟩ => .inl (.inr ⟨o, e _ _ z⟩)) .inr) (dp_monoA e ds _ h2)
  | .dict _, _, h => by cases h
theorem dp_monoA {K : PySem.W.Frag} {S T : Hp} (e : Same S T) : ∀ (ds : List PyData) (vs : List V), DpAll K S vs ds → DpAll K T vs ds
  | [], _, h => by cases h; exact .nil
  | d :: ds, _, h => by
    cases h with
    | cons h1 h2 => exact .cons (dp_mono e d _ h1) (dp_monoA e ds _ h2)
end
theorem sqt_mono {K : PySem.W.Frag} {S T : Hp} (e : Same S T) {a : Addr} {xs : List V} (h : SqT K S a xs) : SqT K T a xs :=
  h.elim (fun q => q.elim (fun z => SqT.of (e _ _ z)) fun ⟨o, z⟩ => .inl (.inr ⟨o, e _ _ z⟩)) .inr
end G
set_option Elab.async false
set_option linter.all false
set_option maxRecDepth 100000
set_option maxHeartbeats 4000000
namespace G
open PySem L2
section
variable {X : Cx}
def gAdd (K : PySem.W.Frag) : R2 := fun x y H Q => match x, y with
  | .int i, .int j => Q (.int (i + j)) H
  | .str i, .str j => i.length + j.length ≤ sizeLine ∧ Q (.str (i ++ j)) H
  | .ref a, .ref b => (∃ xs zs, H a = some (.lst xs) ∧ H b = some (.lst zs) ∧ xs.length + zs.length ≤ sizeLine ∧ ∀ p, H p = none → Q (.ref p) (upd H p (.lst (xs ++ zs)))) ∨ rCatA K (.ref a) (.ref b) H Q
  | _, _ => False
theorem g_add : OpR X (binaryOp .Add) (gAdd X.K) := by
  intro pins s σ H x y v u Q I rx ry h
  cases x <;> cases y <;> first | exact h.elim | skip
  case int.int i j => exact op_add pins s σ H _ _ v u Q I rx ry ⟨i, j, rfl, rfl, h⟩
  case str.str i j => exact op_add_str pins s σ H _ _ v u Q I rx ry ⟨i, j, rfl, rfl, h.1, h.2⟩
  case ref.ref a b =>
    rcases h with ⟨xs, zs, h1, h2, h3, h4⟩ | h
    · exact op_cat pins s σ H _ _ v u Q I rx ry ⟨a, b, xs, zs, rfl, rfl, h1, h2, h3, h4⟩
    · exact op_catA pins s σ H _ _ v u Q I rx ry h
def gMul (K : PySem.W.Frag) : R2 := fun x y H Q => match x, y with
  | .int i, .int j => (CMul i j ∨ CMulW i j) ∧ Q (.int (i * j)) H
  | .ref a, .int k => ∃ xs, H a = some (.lst xs) ∧ -(2 ^ 63) ≤ k ∧ k < 2 ^ 63 ∧ xs.length * k.toNat ≤ sizeLine ∧ ∀ p, H p = none → Q (.ref p) (upd H p (.lst (List.replicate k.toNat xs).flatten))
  | _, _ => False
def gSub : R2 := fun x y H Q => match x, y with
  | .int i, .int j => Q (.int (i - j)) H
  | _, _ => False
theorem g_sub : OpR X (binaryOp .Sub) gSub := by
  intro pins s σ H x y v u Q I rx ry h
  cases x <;> cases y <;> first | exact h.elim | skip
  case int.int i j => exact op_sub pins s σ H _ _ v u Q I rx ry ⟨i, j, rfl, rfl, h⟩
/-- any divisor above nought, of fewer than 9,000 bits -/
def gDiv : R2 := fun x y H Q => match x, y with
  | .int i, .int j => CDivW i j ∧ Q (.int (i / j)) H
  | _, _ => False
theorem g_div : OpR X (binaryOp .FloorDiv) gDiv := by
  intro pins s σ H x y v u Q I rx ry h
  cases x <;> cases y <;> first | exact h.elim | skip
  case int.int i j => exact op_fdivW pins s σ H _ _ v u Q I rx ry ⟨i, j, rfl, rfl, h.1, h.2⟩
def gMod : R2 := fun x y H Q => match x, y with
  | .int i, .int j => 0 < j ∧ Q (.int (i % j)) H
  | _, _ => False
theorem g_mod : OpR X (binaryOp .Mod) gMod := by
  intro pins s σ H x y v u Q I rx ry h
  cases x <;> cases y <;> first | exact h.elim | skip
  case int.int i j => exact op_mod pins s σ H _ _ v u Q I rx ry ⟨i, j, rfl, rfl, h.1, h.2⟩
def gPow : R2 := fun x y H Q => match x, y with
  | .int i, .int j => CPow i j ∧ Q (.int (i ^ j.toNat)) H
  | _, _ => False
theorem g_pow : OpR X (binaryOp .Pow) gPow := by
  intro pins s σ H x y v u Q I rx ry h
  cases x <;> cases y <;> first | exact h.elim | skip
  case int.int i j => exact op_pow pins s σ H _ _ v u Q I rx ry ⟨i, j, rfl, rfl, h.1, h.2⟩
def gLt : R2 := fun x y H Q => match x, y with
  | .int i, .int j => Q (.bl (decide (i < j))) H
  | .str i, .str j => Q (.bl (decide (i.cps.toList < j.cps.toList))) H
  | _, _ => False
theorem g_lt : OpR X (compareOp .Lt) gLt := by
  intro pins s σ H x y v u Q I rx ry h
  cases x <;> cases y <;> first | exact h.elim | skip
  case int.int i j => exact op_lt pins s σ H _ _ v u Q I rx ry ⟨i, j, rfl, rfl, h⟩
  case str.str i j => exact op_lt_str pins s σ H _ _ v u Q I rx ry ⟨i, j, rfl, rfl, h⟩
def gLe : R2 := fun x y H Q => match x, y with
  | .int i, .int j => Q (.bl (decide (i ≤ j))) H
  | .str i, .str j => Q (.bl (!decide (j.cps.toList < i.cps.toList))) H
  | _, _ => False
theorem g_le : OpR X (compareOp .LtE) gLe := by
  intro pins s σ H x y v u Q I rx ry h
  cases x <;> cases y <;> first | exact h.elim | skip
  case int.int i j => exact op_le pins s σ H _ _ v u Q I rx ry ⟨i, j, rfl, rfl, h⟩
  case str.str i j => exact op_le_str pins s σ H _ _ v u Q I rx ry ⟨i, j, rfl, rfl, h⟩
def gGt : R2 := fun x y H Q => match x, y with
  | .int i, .int j => Q (.bl (decide (j < i))) H
  | _, _ => False
theorem g_gt : OpR X (compareOp .Gt) gGt := by
  intro pins s σ H x y v u Q I rx ry h
  cases x <;> cases y <;> first | exact h.elim | skip
  case int.int i j => exact op_gt pins s σ H _ _ v u Q I rx ry ⟨i, j, rfl, rfl, h⟩
def gGe : R2 := fun x y H Q => match x, y with
  | .int i, .int j => Q (.bl (decide (j ≤ i))) H
  | _, _ => False
theorem g_ge : OpR X (compareOp .GtE) gGe := by
  intro pins s σ H x y v u Q I rx ry h
  cases x <;> cases y <;> first | exact h.elim | skip
  case int.int i j => exact op_ge pins s σ H _ _ v u Q I rx ry ⟨i, j, rfl, rfl, h⟩
/-- ==: two plain values, or data -/
def gEq (K : PySem.W.Frag) : R2 := fun x y H Q => rEq x y H Q ∨ rEqD K x y H Q
theorem g_eq (hu : X.A.units + 64 < cLine) : OpR X (compareOp .Eq) (gEq X.K) := op_eq.or (op_eqD hu)
def gNe (K : PySem.W.Frag) : R2 := fun x y H Q => rNe x y H Q ∨ rNeD K x y H Q
theorem g_ne (hu : X.A.units + 64 < cLine) : OpR X (compareOp .NotEq) (gNe X.K) := op_ne.or (op_neD hu)
def gIs : R2 := fun x y H Q => match y with
  | .non => Q (.bl (decide (x = .non))) H
  | .bl b => ∃ a, x = .bl a ∧ Q (.bl (decide (a = b))) H
  | _ => False
theorem g_is : OpR X (compareOp .Is) gIs := by
  intro pins s σ H x y v u Q I rx ry h
  cases y <;> first | exact h.elim | skip
  case non => exact op_isN pins s σ H _ _ v u Q I rx ry ⟨rfl, h⟩
  case bl b =>
    obtain ⟨a, rfl, h⟩ := h
    exact op_isBl pins s σ H _ _ v u Q I rx ry ⟨a, b, rfl, rfl, h⟩
def gIsNot : R2 := fun x y H Q => match y with
  | .non => Q (.bl (!decide (x = .non))) H
  | .bl b => ∃ a, x = .bl a ∧ Q (.bl (!decide (a = b))) H
  | _ => False
theorem g_isnot : OpR X (compareOp .IsNot) gIsNot := by
  intro pins s σ H x y v u Q I rx ry h
  cases y <;> first | exact h.elim | skip
  case non => exact op_notN pins s σ H _ _ v u Q I rx ry ⟨rfl, h⟩
  case bl b =>
    obtain ⟨a, rfl, h⟩ := h
    exact op_notBl pins s σ H _ _ v u Q I rx ry ⟨a, b, rfl, rfl, h⟩
/-- in: a sign in a text; a flat thing in a list or tuple of flat things -/
def gIn (K : PySem.W.Frag) : R2 := fun x y H Q => match x, y with
  | .str a, .str z => ∃ c, a = ⟨#[c]⟩ ∧ Q (.bl (decide (c ∈ z.cps.toList))) H
  | x, y => rIn K false x y H Q
theorem g_in : OpR X (compareOp .In) (gIn X.K) := by
  intro pins s σ H x y v u Q I rx ry h
  have two : (∃ a z, x = .str a ∧ y = .str z) ∨ rIn X.K false x y H Q := by
    cases x <;> cases y <;> first | exact .inl ⟨_, _, rfl, rfl⟩ | exact .inr h
  rcases two with ⟨a, z, rfl, rfl⟩ | h
  · obtain ⟨c, rfl, h⟩ := h
    exact op_in_sign pins s σ H _ _ v u Q I rx ry ⟨c, z, rfl, rfl, h⟩
  · exact op_in_seq pins s σ H _ _ v u Q I rx ry h
/-- x[i] of a list, a tuple, a text -/
def gIx (K : PySem.W.Frag) : R2 := fun x y H Q => match x, y with
  | .ref p, .int i => ∃ xs v, (SqL K H p xs ∨ SqT K H p xs) ∧ atI xs i = some v ∧ Q v H
  | .str z, .int i => ∃ c, z.length ≤ sizeLine ∧ atI z.cps.toList i = some c ∧ Q (.str ⟨#[c]⟩) H
  | _, _ => False
theorem g_ix : IxR X (gIx X.K) := by
  intro value slice pins s σ H x y v u Q I rx ry h hs
  cases x <;> cases y <;> first | exact h.elim | skip
  case ref.int p i =>
    obtain ⟨xs, z, h1 | h1, h2, h3⟩ := h
    · exact ix_list value slice pins s σ H _ _ v u Q I rx ry ⟨p, xs, i, z, rfl, rfl, h1, h2, h3⟩ hs
    · exact ix_tup value slice pins s σ H _ _ v u Q I rx ry ⟨p, xs, i, z, rfl, rfl, h1, h2, h3⟩ hs
  case str.int z i =>
    obtain ⟨c, h1, h2, h3⟩ := h
    exact ix_str value slice pins s σ H _ _ v u Q I rx ry ⟨z, i, c, rfl, rfl, h1, h2, h3⟩ hs
/-- x[lo:hi] -/
def gSl (K : PySem.W.Frag) : V → Option Int → Option Int → Hp → VK → Prop := fun x lo hi H Q => match x with
  | .str z => z.length ≤ sizeLine ∧ Q (.str (cutS z lo hi)) H
  | .ref a => (∃ xs, SqL K H a xs ∧ ∀ p, H p = none → Q (.ref p) (upd H p (.lst (cutV xs lo hi)))) ∨ rSlA K (.ref a) lo hi H Q
  | _ => False
theorem g_sl : SlR X (gSl X.K) := by
  intro pins s σ H x v vl vu lo hi sl Q I rx hs pl pu h
  cases x <;> first | exact h.elim | skip
  case str z => exact sl_str pins s σ H _ v vl vu lo hi sl Q I rx hs pl pu ⟨z, rfl, h.1, h.2⟩
  case ref a =>
    rcases h with ⟨xs, h1, h2⟩ | h
    · exact sl_list pins s σ H _ v vl vu lo hi sl Q I rx hs pl pu ⟨a, xs, rfl, h1, h2⟩
    · exact sl_tupA pins s σ H _ v vl vu lo hi sl Q I rx hs pl pu h
/-- len -/
def gLen (K : PySem.W.Frag) : List V → Hp → VK → Prop := fun vs H Q => match vs with
  | [.ref p] => ∃ n : Nat, ((∃ ys, (SqL K H p ys ∨ SqT K H p ys) ∧ n = ys.length) ∨ ∃ kvs, H p = some (.dK kvs) ∧ n = kvs.length) ∧ Q (.int n) H
  | [.str z] => z.length ≤ sizeLine ∧ Q (.int z.length) H
  | _ => False
theorem g_len : CallR X (.builtin "len") (gLen X.K) := by
  intro pins s σ H xs us Q I r h
  match xs, h with
  | [.ref p], h =>
    obtain ⟨n, ⟨ys, h1, rfl⟩ | ⟨kvs, h1, rfl⟩, h2⟩ := h
    · exact call_len_seq pins s σ H _ us Q I r ⟨p, ys, rfl, h1, h2⟩
    · exact call_lenD pins s σ H _ us Q I r ⟨p, kvs, rfl, h1, h2⟩
  | [.str z], h => exact call_len_str pins s σ H _ us Q I r ⟨z, rfl, h.1, h.2⟩
/-- max of two numbers, or of a list of them -/
def gMax (K : PySem.W.Frag) : List V → Hp → VK → Prop := fun vs H Q => match vs with
  | [.int i, .int j] => Q (.int (max i j)) H
  | vs => rMax K vs H Q
theorem max_if (i j : Int) : (if j > i then j else i) = max i j := by omega
theorem min_if (i j : Int) : (if j < i then j else i) = min i j := by omega
theorem g_max (hc : X.calm = true) : CallR X (.builtin "max") (gMax X.K) := by
  intro pins s σ H xs us Q I r h
  have two : (∃ i j, xs = [.int i, .int j]) ∨ rMax X.K xs H Q := by
    unfold gMax at h
    split at h
    · exact .inl ⟨_, _, rfl⟩
    · exact .inr h
  rcases two with ⟨i, j, rfl⟩ | h
  · exact call_max2 hc pins s σ H _ us Q I r ⟨i, j, rfl, by rw [max_if]; exact h⟩
  · exact cr_max hc pins s σ H _ us Q I r h
def gMin (K : PySem.W.Frag) : List V → Hp → VK → Prop := fun vs H Q => match vs with
  | [.int i, .int j] => Q (.int (min i j)) H
  | vs => rMin K vs H Q
theorem g_min (hc : X.calm = true) : CallR X (.builtin "min") (gMin X.K) := by
  intro pins s σ H xs us Q I r h
  have two : (∃ i j, xs = [.int i, .int j]) ∨ rMin X.K xs H Q := by
    unfold gMin at h
    split at h
    · exact .inl ⟨_, _, rfl⟩
    · exact .inr h
  rcases two with ⟨i, j, rfl⟩ | h
  · exact call_min2 hc pins s σ H _ us Q I r ⟨i, j, rfl, by rw [min_if]; exact h⟩
  · exact cr_min hc pins s σ H _ us Q I r h
/-- list(x): of a list, a tuple -/
def gList (K : PySem.W.Frag) : List V → Hp → VK → Prop := fun vs H Q => match vs with
  | [.ref p] => ∃ ys, (SqL K H p ys ∨ SqT K H p ys) ∧ ∀ l, H l = none → Q (.ref l) (upd H l (.lst ys))
  | _ => False
theorem g_list : CallR X (.type "list") (gList X.K) := by
  intro pins s σ H xs us Q I r h
  match xs, h with
  | [.ref p], h =>
    obtain ⟨ys, h1, h2⟩ := h
    exact call_list_of pins s σ H _ us Q I r ⟨p, ys, rfl, h1, h2⟩
end
end G
set_option Elab.async false
set_option linter.all false
set_option maxRecDepth 100000
set_option maxHeartbeats 4000000
namespace G
open PySem L2
section
variable {X : Cx} {K : PySem.W.Frag}
theorem g_mul : OpR X (binaryOp .Mult) (gMul X.K) := by
  intro pins s σ H x y v u Q I rx ry h
  cases x <;> cases y <;> first | exact h.elim | skip
  case int.int i j =>
    rcases h with ⟨h | h, q⟩
    · exact op_mul pins s σ H _ _ v u Q I rx ry ⟨i, j, rfl, rfl, h, q⟩
    · exact op_mulW pins s σ H _ _ v u Q I rx ry ⟨i, j, rfl, rfl, h, q⟩
  case ref.int a k =>
    obtain ⟨xs, h1, h2, h3, h4, h5⟩ := h
    exact op_rep pins s σ H _ _ v u Q I rx ry ⟨a, k, xs, rfl, rfl, h1, h2, h3, h4, h5⟩
end
def isInt : PyData → Bool | .int _ => true | .bool _ => true | _ => false
def isBool : PyData → Bool | .bool _ => true | _ => false
def isStr : PyData → Bool | .str _ => true | _ => false
def isList : PyData → Bool | .list _ => true | _ => false
def tyN : PyData → String | .none => "NoneType" | .bool _ => "bool" | .int _ => "int" | .str _ => "str" | .list _ => "list" | .tuple _ => "tuple" | .dict _ => "dict"
theorem Rp.ty {K : PySem.W.Frag} {w : Wd} {x : V} {d : PyData} (h : Rp w.S x d) : TyX K w.H x (.type (tyN d)) := by
  cases h with
  | non => exact .base .non
  | bl b => exact .base (.bl b)
  | int i => exact .base (.int i)
  | str s => exact .base (.str s)
  | lst h1 _ => exact .base (.lst (w.ok _ _ h1))
  | tup h1 _ => exact .base (.tup (w.ok _ _ h1))
  | dct h1 => exact .base (.dK (w.ok _ _ h1))
def isT (T : String) (d : PyData) : Option Bool := kitB (tyN d) T
theorem s_isi {K : PySem.W.Frag} {w : Wd} {x : V} {d : PyData} {T : String} {b : Bool} {Q : VK} (h : Rp w.S x d) (e : isT T d = some b) (k : Q (.bl b) w.H) : rIsi K [x, .ty T] w.H Q :=
  ⟨x, .ty T, _, _, b, rfl, .ty T, h.ty, kit_ty e, k⟩
theorem isT_int : ∀ d : PyData, isT "int" d = some (isInt d)
  | .none => (by decide +kernel : kitB "NoneType" "int" = some false)
  | .bool _ => (by decide +kernel : kitB "bool" "int" = some true)
  | .int _ => (by decide +kernel : kitB "int" "int" = some true)
  | .str _ => (by decide +kernel : kitB "str" "int" = some false)
  | .list _ => (by decide +kernel : kitB "list" "int" = some false)
  | .tuple _ => (by decide +kernel : kitB "tuple" "int" = some false)
  | .dict _ => (by decide +kernel : kitB "dict" "int" = some false)
theorem isT_bool : ∀ d : PyData, isT "bool" d = some (isBool d)
  | .none => (by decide +kernel : kitB "NoneType" "bool" = some false)
  | .bool _ => (by decide +kernel : kitB "bool" "bool" = some true)
  | .int _ => (by decide +kernel : kitB "int" "bool" = some false)
  | .str _ => (by decide +kernel : kitB "str" "bool" = some false)
  | .list _ => (by decide +kernel : kitB "list" "bool" = some false)
  | .tuple _ => (by decide +kernel : kitB "tuple" "bool" = some false)
  | .dict _ => (by decide +kernel : kitB "dict" "bool" = some false)
theorem isT_str : ∀ d : PyData, isT "str" d = some (isStr d)
  | .none => (by decide +kernel : kitB "NoneType" "str" = some false)
  | .bool _ => (by decide +kernel : kitB "bool" "str" = some false)
  | .int _ => (by decide +kernel : kitB "int" "str" = some false)
  | .str _ => (by decide +kernel : kitB "str" "str" = some true)
  | .list _ => (by decide +kernel : kitB "list" "str" = some false)
  | .tuple _ => (by decide +kernel : kitB "tuple" "str" = some false)
  | .dict _ => (by decide +kernel : kitB "dict" "str" = some false)
theorem isT_list : ∀ d : PyData, isT "list" d = some (isList d)
  | .none => (by decide +kernel : kitB "NoneType" "list" = some false)
  | .bool _ => (by decide +kernel : kitB "bool" "list" = some false)
  | .int _ => (by decide +kernel : kitB "int" "list" = some false)
  | .str _ => (by decide +kernel : kitB "str" "list" = some false)
  | .list _ => (by decide +kernel : kitB "list" "list" = some true)
  | .tuple _ => (by decide +kernel : kitB "tuple" "list" = some false)
  | .dict _ => (by decide +kernel : kitB "dict" "list" = some false)
section
variable {X : Cx} {K : PySem.W.Frag} {σ σ' : L2.St} {H : Hp} {Q : VK} {v x y : V} {i n : Nat} {ta tb tc te : TE} {t u : TT} {r r' : R2} {D : Ends} {A : TA} {w : Wd} {vs : List V}
theorem s_seq {t u : TS} (k : t { D with nx := u D } σ H) : tSeq t u D σ H := k
theorem s_next (k : D.nx σ H) : tNext D σ H := k
theorem s_asg {g : TG} (k : te σ H fun x H1 => g x σ H1 D.nx) : tAsg te g D σ H := k
theorem s_gname {R : L2.St → Hp → Prop} (e : σ.set i (some v) = σ') (k : R σ' H) : gName i v σ H R := by subst e; exact k
theorem s_drop (k : te σ H fun _ H1 => D.nx σ H1) : tDrop te D σ H := k
theorem s_ret (k : te σ H D.rt) : tRet te D σ H := k
theorem s_ifS {c : TT} {t u : TS} (k : c σ H fun b H1 => if b = true then t D σ H1 else u D σ H1) : tIfS c t u D σ H := k
theorem s_var (e : σ[i]? = some (some v)) (k : Q v H) : tVar i σ H Q := ⟨v, e, k⟩
theorem s_c (k : Q v H) : tC v σ H Q := k
theorem s_op (k : ta σ H fun x H1 => tb σ H1 fun y H2 => r x y H2 Q) : tOp r ta tb σ H Q := k
theorem s_test {R : Bool → Hp → Prop} (k : te σ H fun x H' => ∃ k, x = .bl k ∧ R k H') : tTest te σ H R := k
theorem s_B {R : Bool → Hp → Prop} (k : te σ H fun x H1 => ∃ c, x = .bl c ∧ R c H1) : tB te σ H R := k
theorem s_bl {b : Bool} {P : Bool → Prop} (k : P b) : ∃ c, V.bl b = V.bl c ∧ P c := ⟨b, rfl, k⟩
theorem s_and {R : Bool → Hp → Prop} (k : t σ H fun c H1 => if c = true then u σ H1 R else R false H1) : tAnd t u σ H R := k
theorem s_or {R : Bool → Hp → Prop} (k : t σ H fun c H1 => if c = true then R true H1 else u σ H1 R) : tOr t u σ H R := k
theorem s_not {R : Bool → Hp → Prop} (k : t σ H fun c H1 => R (!c) H1) : tNot t σ H R := k
theorem s_andV (k : ta σ H fun x H1 => ∃ c, x = .bl c ∧ if c = true then tb σ H1 Q else Q (.bl false) H1) : tAndV ta tb σ H Q := k
theorem s_orV (k : ta σ H fun x H1 => ∃ c, x = .bl c ∧ if c = true then Q (.bl true) H1 else tb σ H1 Q) : tOrV ta tb σ H Q := k
theorem s_notV (k : ta σ H fun x H1 => ∃ c, x = .bl c ∧ Q (.bl (!c)) H1) : tNotV ta σ H Q := k
theorem s_chain (k : ta σ H fun x H1 => tb σ H1 fun y H2 => r x y H2 fun z H3 => ∃ k, z = .bl k ∧ (if k = true then tc σ H3 fun w' H4 => r' y w' H4 Q else Q (.bl false) H3)) : tChain r r' ta tb tc σ H Q := k
theorem s_nil {R : List V → Hp → Prop} (k : R [] H) : tNil σ H R := k
theorem s_cons {tr : TA} {R : List V → Hp → Prop} (k : ta σ H fun x H1 => tr σ H1 fun xs H2 => R (x :: xs) H2) : tCons ta tr σ H R := k
theorem s_CB {r : List V → Hp → VK → Prop} (k : A σ H fun vs H1 => r vs H1 Q) : tCB r A σ H Q := k
theorem s_call {sp : L2.Sp} {dvs : List V} {E : XK} (k : A σ H fun vs H1 => sp (vs ++ dvs) H1 Q E) : tCall sp dvs E A σ H Q := k
theorem s_BM {T : String} {r : V → List V → Hp → VK → Prop} {to : TE} (k : to σ H fun x H1 => tyV K T x H1 ∧ A σ H1 fun xs H2 => r x xs H2 Q) : tBM K T r to A σ H Q := k
theorem s_sl {r : V → Option Int → Option Int → Hp → VK → Prop} {tl th : TO} (k : te σ H fun x H1 => tl σ H1 fun l H2 => th σ H2 fun u H3 => r x l u H3 Q) : tSl r te tl th σ H Q := k
theorem s_nopart {R : Option Int → Hp → Prop} (k : R none H) : tNoPart σ H R := k
theorem s_part {R : Option Int → Hp → Prop} (k : te σ H fun x H1 => ∃ i, x = .int i ∧ R (some i) H1) : tPart te σ H R := k
theorem s_int {j : Int} {P : Int → Prop} (k : P j) : ∃ i, V.int j = V.int i ∧ P i := ⟨j, rfl, k⟩
theorem s_add {a b : Int} (k : Q (.int (a + b)) H) : gAdd K (.int a) (.int b) H Q := k
theorem s_sub {a b : Int} (k : Q (.int (a - b)) H) : gSub (.int a) (.int b) H Q := k
theorem s_mul {a b : Int} (h : CMul a b ∨ CMulW a b) (k : Q (.int (a * b)) H) : gMul K (.int a) (.int b) H Q := ⟨h, k⟩
theorem s_div {a b : Int} (h : CDivW a b) (k : Q (.int (a / b)) H) : gDiv (.int a) (.int b) H Q := ⟨h, k⟩
theorem s_mod {a b : Int} (h : 0 < b) (k : Q (.int (a % b)) H) : gMod (.int a) (.int b) H Q := ⟨h, k⟩
theorem s_lt {a b : Int} (k : Q (.bl (decide (a < b))) H) : gLt (.int a) (.int b) H Q := k
theorem s_le {a b : Int} (k : Q (.bl (decide (a ≤ b))) H) : gLe (.int a) (.int b) H Q := k
theorem s_gt {a b : Int} (k : Q (.bl (decide (b < a))) H) : gGt (.int a) (.int b) H Q := k
theorem s_ge {a b : Int} (k : Q (.bl (decide (b ≤ a))) H) : gGe (.int a) (.int b) H Q := k
theorem s_eqI {a b : Int} (k : Q (.bl (decide (a = b))) H) : gEq K (.int a) (.int b) H Q := .inl ⟨rfl, by
  have e : decide (V.int a = V.int b) = decide (a = b) := by by_cases h : a = b <;> simp [h]
  rw [e]; exact k⟩
theorem s_eqS {a b : Str} (k : Q (.bl (decide (a = b))) H) : gEq K (.str a) (.str b) H Q := .inl ⟨rfl, by
  have e : decide (V.str a = V.str b) = decide (a = b) := by by_cases h : a = b <;> simp [h]
  rw [e]; exact k⟩
theorem s_eqB {a b : Bool} (k : Q (.bl (decide (a = b))) H) : gEq K (.bl a) (.bl b) H Q := .inl ⟨rfl, by
  have e : decide (V.bl a = V.bl b) = decide (a = b) := by by_cases h : a = b <;> simp [h]
  rw [e]; exact k⟩
theorem s_isN (k : Q (.bl (decide (x = .non))) H) : gIs x .non H Q := k
theorem s_notN (k : Q (.bl (!decide (x = .non))) H) : gIsNot x .non H Q := k
theorem s_max {a b : Int} (k : Q (.int (max a b)) H) : gMax K [.int a, .int b] H Q := k
theorem s_min {a b : Int} (k : Q (.int (min a b)) H) : gMin K [.int a, .int b] H Q := k
theorem s_ixT {p : Addr} {j : Int} (h : w.S p = some (.tup vs)) (e : atI vs j = some v) (k : Q v w.H) : gIx K (.ref p) (.int j) w.H Q := ⟨vs, v, .inr (SqT.of (w.ok _ _ h)), e, k⟩
theorem s_ixL {p : Addr} {j : Int} (h : w.S p = some (.lst vs)) (e : atI vs j = some v) (k : Q v w.H) : gIx K (.ref p) (.int j) w.H Q := ⟨vs, v, .inl (SqL.of (w.ok _ _ h)), e, k⟩
theorem s_ixO {p : Addr} {j : Int} (h : Own w p (.lst vs)) (e : atI vs j = some v) (k : Q v w.H) : gIx K (.ref p) (.int j) w.H Q := ⟨vs, v, .inl (SqL.of h.h), e, k⟩
theorem s_lenL {p : Addr} (h : w.S p = some (.lst vs)) (k : Q (.int vs.length) w.H) : gLen K [.ref p] w.H Q := ⟨_, .inl ⟨vs, .inl (SqL.of (w.ok _ _ h)), rfl⟩, k⟩
theorem s_lenK {p : Addr} (h : SqL K w.H p vs) (k : Q (.int vs.length) w.H) : gLen K [.ref p] w.H Q := ⟨_, .inl ⟨vs, .inl h, rfl⟩, k⟩
theorem s_setL {l : Addr} {j : Int} {m : Nat} {R : Hp → Prop} (h : Own w l (.lst vs)) (e : ixN vs.length j = some m) (k : ∀ u, Ext (One l) w u → Own u l (.lst (vs.set m v)) → R u.H) : rSetL (.ref l) (.int j) v w.H R :=
  ⟨l, vs, j, m, rfl, rfl, h.h, e, put (R := R) h k⟩
theorem ite_b {A B : Prop} {c : Bool} (k1 : c = true → A) (k2 : c = false → B) : if c = true then A else B := by
  cases c with
  | true => exact k1 rfl
  | false => exact k2 rfl
theorem ite_d {A B p : Prop} [Decidable p] (k1 : p → A) (k2 : ¬ p → B) : if decide p = true then A else B := by
  by_cases h : p
  · rw [decide_eq_true h]; exact k1 h
  · rw [decide_eq_false h]; exact k2 h
theorem ite_nd {A B p : Prop} [Decidable p] (k1 : ¬ p → A) (k2 : p → B) : if (!decide p) = true then A else B := by
  by_cases h : p
  · rw [decide_eq_true h]; exact k2 h
  · rw [decide_eq_false h]; exact k1 h
theorem ite_n {A B : Prop} {c : Bool} (k1 : c = false → A) (k2 : c = true → B) : if (!c) = true then A else B := by
  cases c with
  | true => exact k2 rfl
  | false => exact k1 rfl
end
/-- an iterator by worlds -/
structure WWalk (J : It) (n : Nat) (G : Wd → Prop) (Y : Nat → Wd → V → Wd → Prop) : Prop where
  goes : ∀ i w, i < n → G w → J.go i w.H
  stops : ∀ w, G w → J.stop n w.H
  yields : ∀ i w x H', i < n → G w → J.yld i w.H x H' → ∃ v : Wd, v.H = H' ∧ Y i w x v
def wds (P : L2.St → Wd → Prop) : L2.St → Hp → Prop := fun σ H => ∃ u : Wd, u.H = H ∧ P σ u
theorem wds_i {P : L2.St → Wd → Prop} {σ : L2.St} {w : Wd} (h : P σ w) : wds P σ w.H := ⟨w, rfl, h⟩
section
variable {J : It} {n : Nat} {G : Wd → Prop} {Y : Nat → Wd → V → Wd → Prop} {K : PySem.W.Frag}
theorem forW (k : WWalk J n G Y) {g : TG} {tb : TS} {D : Ends} {σ : L2.St} {w : Wd} (Pv : Nat → L2.St → Wd → Prop) (h0 : Pv 0 σ w) (hG : ∀ i σ w, i ≤ n → Pv i σ w → G w)
    (hs : ∀ i x σ w v, i < n → Pv i σ w → Y i w x v → g x σ v.H fun σ2 H2 => tb { D with nx := wds (Pv (i + 1)), ct := wds (Pv (i + 1)), bk := D.nx } σ2 H2) (hd : ∀ σ w, Pv n σ w → D.nx σ w.H) :
    ∃ W : Nat → Nat → L2.St → Hp → Prop, (∃ m, W 0 m σ w.H) ∧ ∀ i m σ H, W i m σ H →
      (J.stop i H ∧ D.nx σ H) ∨ (J.go i H ∧ ∃ N : L2.St → Hp → Prop, (∀ σ' H', N σ' H' → ∃ m', m' < m ∧ W (i + 1) m' σ' H') ∧ ∀ x H', J.yld i H x H' → g x σ H' fun σ2 H2 => tb { D with nx := N, ct := N, bk := D.nx } σ2 H2) := by
  refine ⟨fun i m σ H => m = n - i ∧ i ≤ n ∧ wds (Pv i) σ H, ⟨n, by simp, Nat.zero_le _, w, rfl, h0⟩, ?_⟩
  rintro i m σ H ⟨rfl, hi, u, rfl, p⟩
  have q := hG i σ u hi p
  by_cases hlt : i < n
  · refine .inr ⟨k.goes i u hlt q, wds (Pv (i + 1)), fun σ' H' p' => ⟨n - (i + 1), by omega, rfl, hlt, p'⟩, fun x H' y => ?_⟩
    obtain ⟨v, rfl, yv⟩ := k.yields i u x H' hlt q y
    exact hs i x σ u v hlt p yv
  · have e : i = n := by omega
    subst e
    exact .inl ⟨k.stops u q, hd σ u p⟩
/-- a comprehension: the new list at D holds acc -/
def lcN (D : Addr) (P : Wd → List V → Prop) : Hp → Prop := fun H => ∃ (u : Wd) (acc : List V), u.H = H ∧ Own u D (.lst acc) ∧ P u acc
theorem lcN_i {D : Addr} {P : Wd → List V → Prop} {u : Wd} {acc : List V} (o : Own u D (.lst acc)) (h : P u acc) : lcN D P u.H := ⟨u, acc, rfl, o, h⟩
theorem lc_put {D : Addr} {P : Wd → List V → Prop} {u : Wd} {acc : List V} {y : V} (o : Own u D (.lst acc)) (z : acc.length < sizeLine) (k : ∀ v, Ext (One D) u v → Own v D (.lst (acc ++ [y])) → P v (acc ++ [y])) :
    ∃ acc, u.H D = some (.lst acc) ∧ acc.length < sizeLine ∧ lcN D P (upd u.H D (.lst (acc ++ [y]))) :=
  ⟨acc, o.h, z, put (R := lcN D P) o fun v e ov => ⟨v, _, rfl, ov, k v e ov⟩⟩
theorem lcW (k : WWalk J n G Y) {g : TG} {tt : TT} {te : TE} {vs : List Nat} {σ : L2.St} {w : Wd} {D : Addr} {Qd : Hp → Prop} (Pv : Nat → Wd → List V → Prop) (hD : w.H D = none)
    (h0 : ∀ u, Ext Non w u → Own u D (.lst []) → Pv 0 u []) (hG : ∀ i u acc, i ≤ n → Pv i u acc → G u)
    (hs : ∀ i x u v acc, i < n → Own u D (.lst acc) → Pv i u acc → Y i u x v → g x (wipe σ vs) v.H fun σ2 H2 => wipe σ2 vs = wipe σ vs ∧ tt σ2 H2 fun b H3 =>
      if b = true then te σ2 H3 fun y H4 => ∃ acc, H4 D = some (.lst acc) ∧ acc.length < sizeLine ∧ lcN D (Pv (i + 1)) (upd H4 D (.lst (acc ++ [y]))) else lcN D (Pv (i + 1)) H3)
    (hd : ∀ u acc, Pv n u acc → Own u D (.lst acc) → Qd u.H) :
    ∃ W : Nat → Nat → Hp → Prop, (∃ m, W 0 m (upd w.H D (.lst []))) ∧ ∀ i m H, W i m H →
      (J.stop i H ∧ Qd H) ∨ (J.go i H ∧ ∃ Nx : Hp → Prop, (∀ H', Nx H' → ∃ m', m' < m ∧ W (i + 1) m' H') ∧ ∀ x H', J.yld i H x H' → g x (wipe σ vs) H' fun σ2 H2 => wipe σ2 vs = wipe σ vs ∧ tt σ2 H2 fun b H3 =>
        if b = true then te σ2 H3 fun y H4 => ∃ acc, H4 D = some (.lst acc) ∧ acc.length < sizeLine ∧ Nx (upd H4 D (.lst (acc ++ [y]))) else Nx H3) := by
  refine ⟨fun i m H => m = n - i ∧ i ≤ n ∧ lcN D (Pv i) H, ⟨n, by simp, Nat.zero_le _, ?_⟩, ?_⟩
  · have z := newO (w := w) (o := .lst []) (Q := fun _ H => H = upd w.H D (.lst []) → lcN D (Pv 0) (upd w.H D (.lst []))) (fun p v e hp o hq => ?_) D hD rfl
    · exact z
    · have ep : p = D := by
        by_cases ep : p = D
        · exact ep
        · have h1 : v.H p = some (.lst []) := o.h
          rw [hq, upd_ne ep, hp] at h1
          cases h1
      subst ep
      exact ⟨v, [], hq, o, h0 v e o⟩
  rintro i m H ⟨rfl, hi, u, acc, rfl, o, p⟩
  have q := hG i u acc hi p
  by_cases hlt : i < n
  · refine .inr ⟨k.goes i u hlt q, lcN D (Pv (i + 1)), fun H' p' => ⟨n - (i + 1), by omega, rfl, hlt, p'⟩, fun x H' y => ?_⟩
    obtain ⟨v, rfl, yv⟩ := k.yields i u x H' hlt q y
    exact hs i x u v acc hlt o p yv
  · have e : i = n := by omega
    subst e
    exact .inl ⟨k.stops u q, hd u acc p o⟩
theorem s_Lc {wi : TI} {g : TG} {tt : TT} {te : TE} {vs : List Nat} {σ : L2.St} {H : Hp} {Q : VK} (k : wi σ H fun J H1 => ∀ D, H1 D = none → ∃ W : Nat → Nat → Hp → Prop, (∃ m, W 0 m (upd H1 D (.lst []))) ∧ ∀ i m H, W i m H →
  (J.stop i H ∧ Q (.ref D) H) ∨ (J.go i H ∧ ∃ Nx : Hp → Prop, (∀ H', Nx H' → ∃ m', m' < m ∧ W (i + 1) m' H') ∧ ∀ x H', J.yld i H x H' → g x (wipe σ vs) H' fun σ2 H2 => wipe σ2 vs = wipe σ vs ∧ tt σ2 H2 fun b H3 =>
    if b = true then te σ2 H3 fun y H4 => ∃ acc, H4 D = some (.lst acc) ∧ acc.length < sizeLine ∧ Nx (upd H4 D (.lst (acc ++ [y]))) else Nx H3)) : tLc wi g tt te vs σ H Q := k
def YI (xs : List V) : Nat → Wd → V → Wd → Prop := fun i w x v => v = w ∧ xs[i]? = some x
theorem ww_list {a : Addr} {xs : List V} : WWalk (Itl K a) xs.length (fun w => SqL K w.H a xs) (YI xs) :=
  ⟨fun i w h q => (walk_list (K := K)).goes i w.H h q, fun w q => (walk_list (K := K)).stops w.H q, fun i w x H' h q y => by
    obtain ⟨e, h2⟩ := (walk_list (K := K)).yields i w.H x H' h q y
    exact ⟨w, e.symm, rfl, h2⟩⟩
theorem ww_tup {a : Addr} {xs : List V} : WWalk (Itt K a) xs.length (fun w => SqT K w.H a xs) (YI xs) :=
  ⟨fun i w h q => (walk_tup (K := K)).goes i w.H h q, fun w q => (walk_tup (K := K)).stops w.H q, fun i w x H' h q y => by
    obtain ⟨e, h2⟩ := (walk_tup (K := K)).yields i w.H x H' h q y
    exact ⟨w, e.symm, rfl, h2⟩⟩
theorem ww_range {lo : Int} {m : Nat} : WWalk (Itr lo m) m (fun _ => True) (fun i w x v => v = w ∧ x = .int (lo + i)) :=
  ⟨fun i w h q => walk_range.goes i w.H h q, fun w q => walk_range.stops w.H q, fun i w x H' h q y => by
    obtain ⟨e, h2⟩ := walk_range.yields i w.H x H' h q y
    exact ⟨w, e.symm, rfl, h2⟩⟩
theorem ww_str {z : Str} : WWalk (Its z) z.cps.size (fun _ => True) (fun i w x v => v = w ∧ ∃ c, z.cps[i]? = some c ∧ x = .str ⟨#[c]⟩) :=
  ⟨fun i w h q => walk_str.goes i w.H h q, fun w q => walk_str.stops w.H q, fun i w x H' h q y => by
    obtain ⟨e, h2⟩ := walk_str.yields i w.H x H' h q y
    exact ⟨w, e.symm, rfl, h2⟩⟩
theorem s_for {wi : TI} {g : TG} {tb : TS} {D : Ends} {σ : L2.St} {H : Hp} (k : wi σ H fun J H1 => ∃ W : Nat → Nat → L2.St → Hp → Prop, (∃ m, W 0 m σ H1) ∧ ∀ i m σ H, W i m σ H →
  (J.stop i H ∧ D.nx σ H) ∨ (J.go i H ∧ ∃ N : L2.St → Hp → Prop, (∀ σ' H', N σ' H' → ∃ m', m' < m ∧ W (i + 1) m' σ' H') ∧ ∀ x H', J.yld i H x H' → g x σ H' fun σ2 H2 => tb { D with nx := N, ct := N, bk := D.nx } σ2 H2)) : tFor wi g tb D σ H := k
theorem s_iList {te : TE} {σ : L2.St} {H : Hp} {R : It → Hp → Prop} (k : te σ H fun x H1 => ∃ a, x = .ref a ∧ (∃ xs, SqL K H1 a xs) ∧ R (Itl K a) H1) : iList K te σ H R := k
theorem s_iTup {te : TE} {σ : L2.St} {H : Hp} {R : It → Hp → Prop} (k : te σ H fun x H1 => ∃ a, x = .ref a ∧ (∃ xs, SqT K H1 a xs) ∧ R (Itt K a) H1) : iTup K te σ H R := k
theorem s_iRng1 {ta : TA} {σ : L2.St} {H : Hp} {R : It → Hp → Prop} (k : ta σ H fun vs H1 => ∃ j : Int, vs = [.int j] ∧ -(2 ^ 62) ≤ j ∧ j < 2 ^ 62 ∧ R (Itr 0 j.toNat) H1) : iRng1 ta σ H R := k
theorem s_iStr {te : TE} {σ : L2.St} {H : Hp} {R : It → Hp → Prop} (k : te σ H fun v H1 => ∃ x, v = .str x ∧ R (Its x) H1) : iStr te σ H R := k
end
end G
namespace G
open PySem L2
theorem nm_one {l k : Addr} (h : l ≠ k) : ¬ One k l := h
theorem sq_go {K : PySem.W.Frag} {w v : Wd} {a : Addr} {xs : List V} {m : Addr → Prop} (e : Ext m w v) (h : SqL K w.S a xs) : SqL K v.S a xs := e.st.seq h
theorem tch_one {u : Wd} {m : Addr → Prop} {k : Addr} (h : u.H k = none ∨ m k) : ∀ l, One k l → u.H l = none ∨ m l := fun l e => by
  have e : l = k := e
  rw [e]; exact h
theorem ite_tt {A B : Prop} (k : A) : if true = true then A else B := by rw [if_pos rfl]; exact k
theorem ite_ff {A B : Prop} (k : B) : if false = true then A else B := by rw [if_neg (by decide)]; exact k
def pr0 (P : Wd → VK → XK → Prop) : L2.Sp := fun vs H Q E => ∃ w : Wd, w.H = H ∧ vs = [] ∧ P w Q E
def pr1 (P : Wd → V → VK → XK → Prop) : L2.Sp := fun vs H Q E => ∃ (w : Wd) (a : V), w.H = H ∧ vs = [a] ∧ P w a Q E
def pr2 (P : Wd → V → V → VK → XK → Prop) : L2.Sp := fun vs H Q E => ∃ (w : Wd) (a b : V), w.H = H ∧ vs = [a, b] ∧ P w a b Q E
def pr3 (P : Wd → V → V → V → VK → XK → Prop) : L2.Sp := fun vs H Q E => ∃ (w : Wd) (a b c : V), w.H = H ∧ vs = [a, b, c] ∧ P w a b c Q E
def pr4 (P : Wd → V → V → V → V → VK → XK → Prop) : L2.Sp := fun vs H Q E => ∃ (w : Wd) (a b c d : V), w.H = H ∧ vs = [a, b, c, d] ∧ P w a b c d Q E
section
variable {vs : List V} {H : Hp} {Q : VK} {E : XK} {w : Wd} {a b c d : V}
theorem len0 {P} (h : pr0 P vs H Q E) : vs.length = 0 := by obtain ⟨_, _, rfl, _⟩ := h; rfl
theorem len1 {P} (h : pr1 P vs H Q E) : vs.length = 1 := by obtain ⟨_, _, _, rfl, _⟩ := h; rfl
theorem len2 {P} (h : pr2 P vs H Q E) : vs.length = 2 := by obtain ⟨_, _, _, _, rfl, _⟩ := h; rfl
theorem len3 {P} (h : pr3 P vs H Q E) : vs.length = 3 := by obtain ⟨_, _, _, _, _, rfl, _⟩ := h; rfl
theorem len4 {P} (h : pr4 P vs H Q E) : vs.length = 4 := by obtain ⟨_, _, _, _, _, _, rfl, _⟩ := h; rfl
theorem s_pr0 {P} (h : P w Q E) : pr0 P ([] ++ []) w.H Q E := ⟨w, rfl, rfl, h⟩
theorem s_pr1 {P} (h : P w a Q E) : pr1 P ([a] ++ []) w.H Q E := ⟨w, a, rfl, rfl, h⟩
theorem s_pr2 {P} (h : P w a b Q E) : pr2 P ([a, b] ++ []) w.H Q E := ⟨w, a, b, rfl, rfl, h⟩
theorem s_pr3 {P} (h : P w a b c Q E) : pr3 P ([a, b, c] ++ []) w.H Q E := ⟨w, a, b, c, rfl, rfl, h⟩
theorem s_pr4 {P} (h : P w a b c d Q E) : pr4 P ([a, b, c, d] ++ []) w.H Q E := ⟨w, a, b, c, d, rfl, rfl, h⟩
end
structure Fnc (P : Program) (w : World) (K : PySem.W.Frag) (mg : Str → Option Value) (base : Heap) (CX : CXT) (k : Nat) (x : Str) (sp : L2.Sp) : Prop where
  ex : ∃ (f : Addr) (fd : FuncData) (ps : List Str), FnOk P w K mg base CX k f fd ps sp ∧ mg x = some (.ref f) ∧ PySem.W.keepIn K (.ref f) = true ∧ Binds K fd ps []
section
variable {X : Cx} {k j : Nat} {x : Str} {sp : L2.Sp} {p pos : Pos} {e : Expr} {es : List Expr} {t : TA} {CX : CXT} {E : XK}
theorem pe_fn (c : Fnc X.prog X.w X.K X.mg X.base CX k x sp) (hr : Room j X.A) (hk : k ≤ j) (hx : Passes CX X E) (ha : PA X (e :: es) t) (hg : Gl X x := by rfl)
    (he : starEach (e :: es) X.env = (false, eval e X.env) :: starEach es X.env := by rfl) (hpl : (backTo pos (starEach es X.env)).any (·.1) = false := by rfl) (hd : (x == ("__debug__" : Str)) = false := by decide) :
    PE X (.Call (.Name x p) (e :: es) [] pos) (tCall sp [] E t) := by
  obtain ⟨f, fd, ps, F, hm, hkp, hb⟩ := c.ex
  exact pe_call F (hr.mono hk) hg hm hkp hb .nil hx ha hd he hpl
theorem pe_fn0 (c : Fnc X.prog X.w X.K X.mg X.base CX k x sp) (hr : Room j X.A) (hk : k ≤ j) (hx : Passes CX X E) (hg : Gl X x := by rfl) (hd : (x == ("__debug__" : Str)) = false := by decide) :
    PE X (.Call (.Name x p) [] [] pos) (tCall sp [] E tNil) := by
  obtain ⟨f, fd, ps, F, hm, hkp, hb⟩ := c.ex
  exact pe_call0 F (hr.mono hk) hg hm hkp hb .nil hx hd
end
end G
namespace G
open PySem L2
section
variable {X : Cx}
theorem kAdd (K : PySem.W.Frag) (e : X.K = K := by rfl) : OpR X (binaryOp .Add) (gAdd K) := e ▸ g_add
theorem kMul (K : PySem.W.Frag) (e : X.K = K := by rfl) : OpR X (binaryOp .Mult) (gMul K) := e ▸ g_mul
theorem kEq (K : PySem.W.Frag) (hu : X.A.units + 64 < cLine) (e : X.K = K := by rfl) : OpR X (compareOp .Eq) (gEq K) := e ▸ g_eq hu
theorem kNe (K : PySem.W.Frag) (hu : X.A.units + 64 < cLine) (e : X.K = K := by rfl) : OpR X (compareOp .NotEq) (gNe K) := e ▸ g_ne hu
theorem kIn (K : PySem.W.Frag) (e : X.K = K := by rfl) : OpR X (compareOp .In) (gIn K) := e ▸ g_in
theorem kIx (K : PySem.W.Frag) (e : X.K = K := by rfl) : IxR X (gIx K) := e ▸ g_ix
theorem kSl (K : PySem.W.Frag) (e : X.K = K := by rfl) : SlR X (gSl K) := e ▸ g_sl
theorem kLen (K : PySem.W.Frag) (e : X.K = K := by rfl) : CallR X (.builtin "len") (gLen K) := e ▸ g_len
theorem kMax (K : PySem.W.Frag) (hc : X.calm = true) (e : X.K = K := by rfl) : CallR X (.builtin "max") (gMax K) := e ▸ g_max hc
theorem kMin (K : PySem.W.Frag) (hc : X.calm = true) (e : X.K = K := by rfl) : CallR X (.builtin "min") (gMin K) := e ▸ g_min hc
theorem kAll (K : PySem.W.Frag) (hc : X.calm = true) (e : X.K = K := by rfl) : CallR X (.builtin "all") (rAll K) := e ▸ cr_all hc
theorem kList (K : PySem.W.Frag) (e : X.K = K := by rfl) : CallR X (.type "list") (gList K) := e ▸ g_list
theorem kIsi (K : PySem.W.Frag) (e : X.K = K := by rfl) : CallR X (.builtin "isinstance") (rIsi K) := e ▸ call_isi
theorem kIsiT (K : PySem.W.Frag) (e : X.K = K := by rfl) : CallR X (.builtin "isinstance") (rIsiT K) := e ▸ call_isiT
theorem kpList (K : PySem.W.Frag) {tg l : Expr} {tl : TE} (hl : PE X l tl) (e : X.K = K := by rfl) : PI X tg l (iList K tl) := e ▸ pi_list hl
theorem kpTup (K : PySem.W.Frag) {tg l : Expr} {tl : TE} (hl : PE X l tl) (e : X.K = K := by rfl) : PI X tg l (iTup K tl) := e ▸ pi_tup hl
theorem kgTup (K : PySem.W.Frag) {es : List Expr} {k : Nat} {t : TGs} {n : Nat} {pos : Pos} (hc : X.calm = true) (h : PGs X es t) (e : X.K = K := by rfl) (hn : (assignEach es X.env).length = n := by rfl)
    (hst : (assignEach es X.env).findIdx? (·.1) = none := by rfl) : PG X (.Tuple es k pos) (gTup K n t) := e ▸ pg_tup hc h hn hst
end
end G
set_option Elab.async false
set_option linter.all false
set_option maxRecDepth 100000
set_option maxHeartbeats 4000000
namespace G
open PySem L2
theorem kb_NoneType_bool : kitB "NoneType" "bool" = some false := by decide +kernel
theorem kb_NoneType_list : kitB "NoneType" "list" = some false := by decide +kernel
theorem kb_bool_int : kitB "bool" "int" = some true := by decide +kernel
theorem kb_bool_bool : kitB "bool" "bool" = some true := by decide +kernel
theorem kb_bool_list : kitB "bool" "list" = some false := by decide +kernel
theorem kb_int_bool : kitB "int" "bool" = some false := by decide +kernel
theorem kb_int_list : kitB "int" "list" = some false := by decide +kernel
theorem kb_str_bool : kitB "str" "bool" = some false := by decide +kernel
theorem kb_str_list : kitB "str" "list" = some false := by decide +kernel
theorem kb_list_bool : kitB "list" "bool" = some false := by decide +kernel
theorem kb_list_list : kitB "list" "list" = some true := by decide +kernel
theorem kb_tuple_bool : kitB "tuple" "bool" = some false := by decide +kernel
theorem kb_tuple_list : kitB "tuple" "list" = some false := by decide +kernel
theorem kb_dict_bool : kitB "dict" "bool" = some false := by decide +kernel
theorem kb_dict_list : kitB "dict" "list" = some false := by decide +kernel
section
variable {K : PySem.W.Frag} {w : Wd} {H : Hp} {Q : VK} {T : String} {b : Bool} {x : V} {d : PyData}
theorem sd_int (h : Rp w.S x d) (k : Q (.bl (isInt d)) w.H) : rIsi K [x, .ty "int"] w.H Q := s_isi h (isT_int d) k
theorem sd_bool (h : Rp w.S x d) (k : Q (.bl (isBool d)) w.H) : rIsi K [x, .ty "bool"] w.H Q := s_isi h (isT_bool d) k
theorem sd_str (h : Rp w.S x d) (k : Q (.bl (isStr d)) w.H) : rIsi K [x, .ty "str"] w.H Q := s_isi h (isT_str d) k
theorem sd_list (h : Rp w.S x d) (k : Q (.bl (isList d)) w.H) : rIsi K [x, .ty "list"] w.H Q := s_isi h (isT_list d) k
theorem si_lst {p : Addr} {vs : List V} (h : w.S p = some (.lst vs)) (e : kitB "list" T = some b) (k : Q (.bl b) w.H) : rIsi K [.ref p, .ty T] w.H Q := ⟨_, .ty T, _, _, b, rfl, .ty T, .base (.lst (w.ok _ _ h)), kit_ty e, k⟩
end
theorem isStr_inv {d : PyData} (h : isStr d = true) : ∃ ds, d = .str ds := by cases d <;> first | exact ⟨_, rfl⟩ | cases h
def isNum (d : PyData) : Bool := isInt d && !isBool d
theorem isNum_inv {d : PyData} (h : isNum d = true) : ∃ i, d = .int i := by cases d <;> first | exact ⟨_, rfl⟩ | cases h
theorem sqt_of {K : PySem.W.Frag} {w : Wd} {p : Addr} {vs : List V} (h : w.S p = some (.tup vs)) : SqT K w.H p vs := SqT.of (w.ok _ _ h)
theorem sql_of {K : PySem.W.Frag} {w : Wd} {p : Addr} {vs : List V} (h : w.S p = some (.lst vs)) : SqL K w.H p vs := SqL.of (w.ok _ _ h)
theorem s_yes {σ : L2.St} {H : Hp} {R : Bool → Hp → Prop} (k : R true H) : tYes σ H R := k
/-- each item's plain value is told: ys -/
theorem lc_pure {J : It} {n : Nat} {G : Wd → Prop} {xs : List V} (k : WWalk J n G (YI xs)) {te : TE} {j : Nat} {σ : L2.St} {w : Wd} {D : Addr} {Qd : Hp → Prop} (ys : List V) (hD : w.H D = none) (hG : ∀ u, Ext (One D) w u → G u) (hn : ys.length = n) (hz : n < sizeLine)
    (hw : ∀ x, wipe ((wipe σ [j]).set j (some x)) [j] = wipe σ [j])
    (hs : ∀ i x y u, i < n → xs[i]? = some x → ys[i]? = some y → Ext (One D) w u → ∀ R : VK, (∀ v, Ext Non u v → R y v.H) → te ((wipe σ [j]).set j (some x)) u.H R)
    (hd : ∀ u, Ext Non w u → w.H D = none → Own u D (.lst ys) → Qd u.H) :
    ∃ W : Nat → Nat → Hp → Prop, (∃ m, W 0 m (upd w.H D (.lst []))) ∧ ∀ i m H, W i m H →
      (J.stop i H ∧ Qd H) ∨ (J.go i H ∧ ∃ Nx : Hp → Prop, (∀ H', Nx H' → ∃ m', m' < m ∧ W (i + 1) m' H') ∧ ∀ x H', J.yld i H x H' → gName j x (wipe σ [j]) H' fun σ2 H2 => wipe σ2 [j] = wipe σ [j] ∧ tYes σ2 H2 fun b H3 =>
        if b = true then te σ2 H3 fun y H4 => ∃ acc, H4 D = some (.lst acc) ∧ acc.length < sizeLine ∧ Nx (upd H4 D (.lst (acc ++ [y]))) else Nx H3) := by
  refine lcW k (fun i u acc => Ext (One D) w u ∧ acc = ys.take i) hD (fun u e o => ⟨e.more fun _ z => z.elim, by simp⟩) (fun i u acc _ p => hG u p.1) ?_ ?_
  · rintro i x u v acc hi o ⟨e, ha⟩ ⟨rfl, hx⟩
    refine ⟨hw x, s_yes (ite_tt ?_)⟩
    have hy : i < ys.length := by omega
    refine hs i x ys[i] v hi hx (by simp [hy]) e _ fun t et => ?_
    have ha2 : acc.length < sizeLine := by rw [ha, List.length_take]; omega
    refine lc_put (o.ext et fun z => z) ha2 fun z ez oz => ⟨(e.step et fun _ z => z.elim).step ez fun l hl => .inr hl, ?_⟩
    rw [ha, List.take_succ]
    simp [hy]
  · rintro u acc ⟨e, ha⟩ o
    refine hd u (e.more fun l hl => .inl (by rw [show l = D from hl]; exact hD)) hD ?_
    rw [ha, ← hn, List.take_length] at o
    exact o
end G
set_option Elab.async false
set_option linter.all false
set_option maxRecDepth 100000
set_option maxHeartbeats 4000000
namespace G
open PySem L2
section
variable {K : PySem.W.Frag} {w : Wd} {H : Hp} {Q : VK} {σ : L2.St} {v x y : V} {vs : List V} {D : Ends}
theorem s_allO {p : Addr} {bs : List Bool} (h : Own w p (.lst (bs.map V.bl))) (k : Q (.bl (bs.all id)) w.H) : rAll K [.ref p] w.H Q := ⟨p, bs, rfl, SqL.of h.h, k⟩
end
/-- of numbers below 2 ^ 200 -/
theorem divW {i j : Int} (h : 0 < j) (h2 : j < 2 ^ 200) : CDivW i j := ⟨h, by
  have : j.natAbs < 2 ^ 200 := by omega
  exact Nat.lt_of_lt_of_le (PySem.Flt.log2_lt_of (by decide) this) (by decide)⟩
theorem atI_nn {α : Type} {xs : List α} {i : Int} (h : 0 ≤ i) (h2 : i < xs.length) : atI xs i = xs[i.toNat]? := by
  unfold atI ixN
  rw [if_pos h, if_pos h2]
  rfl
theorem atI_of {α : Type} {xs : List α} {i : Int} {v : α} (h : 0 ≤ i) (h2 : xs[i.toNat]? = some v) : atI xs i = some v := by
  have h3 := (List.getElem?_eq_some_iff.mp h2).1
  rw [atI_nn h (by omega), h2]
theorem ixN_nn {n : Nat} {i : Int} (h : 0 ≤ i) (h2 : i < n) : ixN n i = some i.toNat := by
  unfold ixN
  rw [if_pos h, if_pos h2]
end G
set_option Elab.async false
set_option linter.all false
set_option maxRecDepth 100000
set_option maxHeartbeats 4000000
namespace G
open PySem L2
section
variable {K : PySem.W.Frag} {w : Wd} {H : Hp} {Q : VK} {σ : L2.St} {v x y : V} {d1 d2 : PyData} {vs xs ys : List V} {a b : Addr} {lo hi : Option Int}
theorem s_catS (h1 : w.H a = some (.lst xs)) (h2 : w.H b = some (.lst ys)) (z : xs.length + ys.length ≤ sizeLine) (k : ∀ p v, Ext Non w v → w.H p = none → v.S p = some (.lst (xs ++ ys)) → Q (.ref p) v.H) : gAdd K (.ref a) (.ref b) w.H Q :=
  .inl ⟨xs, ys, h1, h2, z, newS k⟩
theorem s_slS (h : SqL K w.H a xs) (k : ∀ p v, Ext Non w v → w.H p = none → v.S p = some (.lst (cutV xs lo hi)) → Q (.ref p) v.H) : gSl K (.ref a) lo hi w.H Q := .inl ⟨xs, h, newS k⟩
theorem s_listS (h : SqL K w.H a xs ∨ SqT K w.H a xs) (k : ∀ p v, Ext Non w v → w.H p = none → v.S p = some (.lst xs) → Q (.ref p) v.H) : gList K [.ref a] w.H Q := ⟨xs, h, newS k⟩
theorem s_listO (h : SqL K w.H a xs ∨ SqT K w.H a xs) (k : ∀ p v, Ext Non w v → w.H p = none → Own v p (.lst xs) → Q (.ref p) v.H) : gList K [.ref a] w.H Q := ⟨xs, h, newO k⟩
theorem s_eqD (h1 : Dp K w.H x d1) (h2 : Dp K w.H y d2) (s1 : SeqAt.shaped d1 = true) (s2 : SeqAt.shaped d2 = true) (k : Q (.bl (PyData.eqv d1 d2)) w.H) : gEq K x y w.H Q := .inr ⟨d1, d2, h1, h2, s1, s2, k⟩
theorem s_neD (h1 : Dp K w.H x d1) (h2 : Dp K w.H y d2) (s1 : SeqAt.shaped d1 = true) (s2 : SeqAt.shaped d2 = true) (k : Q (.bl (!PyData.eqv d1 d2)) w.H) : gNe K x y w.H Q := .inr ⟨d1, d2, h1, h2, s1, s2, k⟩
/-- a tuple as a target -/
theorem s_gtup {n : Nat} {t : TGs} {R : L2.St → Hp → Prop} (h : w.S a = some (.tup vs)) (e : vs.length = n) (k : t vs σ w.H R) : gTup K n t (.ref a) σ w.H R := ⟨a, vs, rfl, sqt_of h, e, k⟩
theorem s_gcons {t : TG} {u : TGs} {R : L2.St → Hp → Prop} (k : t v σ H fun σ' H' => u vs σ' H' R) : gCons t u (v :: vs) σ H R := ⟨v, vs, rfl, k⟩
theorem s_gnil {R : L2.St → Hp → Prop} (k : R σ H) : gNil [] σ H R := ⟨rfl, k⟩
theorem s_gsub {to ti : TE} {t : TSet} {R : L2.St → Hp → Prop} (k : to σ H fun o H1 => ti σ H1 fun i H2 => t o i v H2 fun H3 => R σ H3) : L2.gSub to ti t v σ H R := k
end
theorem Rp.dpH {K : PySem.W.Frag} {w : Wd} {v : V} {d : PyData} (h : Rp w.S v d) (n : nd d = true) : Dp K w.H v d := dp_mono w.ok d v (Rp.dp d v h n)
section
variable {K : PySem.W.Frag} {w : Wd} {H : Hp} {Q : VK} {σ : L2.St} {v x y : V} {vs xs ys : List V} {l : Addr} {P : Prop}
theorem s_m1 {r : V → List V → Hp → VK → Prop} {to te : TE} (k : to σ H fun x H1 => (∃ a, x = .str a) ∧ te σ H1 fun y H2 => r x [y] H2 Q) : tM1 r to te σ H Q := k
theorem s_isS {z : Str} (k : P) : (∃ a, V.str z = .str a) ∧ P := ⟨⟨z, rfl⟩, k⟩
end
section
variable {K : PySem.W.Frag} {w : Wd} {H : Hp} {Q : VK} {vs : List V} {p : Addr} {a b c j : Int}
theorem s_powN (h : CPow a b) (e : a ^ b.toNat = c) (k : Q (.int c) H) : gPow (.int a) (.int b) H Q := ⟨h, by rw [e]; exact k⟩
theorem at_mem {α : Type} {xs : List α} (h0 : 0 ≤ j) (h1 : j < xs.length) : ∃ v, xs[j.toNat]? = some v ∧ atI xs j = some v ∧ v ∈ xs := by
  have hd : xs[j.toNat]? = some xs[j.toNat] := List.getElem?_eq_getElem (by omega)
  exact ⟨_, hd, atI_of h0 hd, List.getElem_mem _⟩
theorem s_ixSm (h : w.S p = some (.lst vs)) (h0 : 0 ≤ j) (h1 : j < vs.length) (k : ∀ v, vs[j.toNat]? = some v → v ∈ vs → Q v w.H) : gIx K (.ref p) (.int j) w.H Q := by
  obtain ⟨v, h2, h3, h4⟩ := at_mem h0 h1
  exact s_ixL h h3 (k v h2 h4)
end
theorem p10_6 : (10 : Int) ^ (6 : Int).toNat = 1000000 := by decide
theorem p10_9 : (10 : Int) ^ (9 : Int).toNat = 1000000000 := by decide
theorem p10_10 : (10 : Int) ^ (10 : Int).toNat = 10000000000 := by decide
theorem p10_18 : (10 : Int) ^ (18 : Int).toNat = 1000000000000000000 := by decide
theorem p10_29 : (10 : Int) ^ (29 : Int).toNat = 100000000000000000000000000000 := by decide
section
variable {K : PySem.W.Frag} {w : Wd} {H : Hp} {Q : VK} {vs xs : List V} {p a : Addr} {σ : L2.St} {A : TA}
/-- a new tuple, a new list: what is wanted of it -/
def mkT (Q : VK) (xs : List V) (H : Hp) : Prop := xs.length ≤ sizeLine ∧ ∀ p, H p = none → Q (.ref p) (upd H p (.tup xs))
def mkL (Q : VK) (xs : List V) (H : Hp) : Prop := xs.length ≤ sizeLine ∧ ∀ p, H p = none → Q (.ref p) (upd H p (.lst xs))
theorem t_tup (k : A σ H (mkT Q)) : tTup A σ H Q := k
theorem t_lst (k : A σ H (mkL Q)) : tLst A σ H Q := k
theorem t_newT (h : vs.length ≤ sizeLine) (k : ∀ p v, Ext Non w v → w.H p = none → v.S p = some (.tup vs) → Q (.ref p) v.H) : mkT Q vs w.H := ⟨h, newS k⟩
theorem t_newL (h : vs.length ≤ sizeLine) (k : ∀ p v, Ext Non w v → w.H p = none → Own v p (.lst vs) → Q (.ref p) v.H) : mkL Q vs w.H := ⟨h, newO k⟩
theorem t_newLS (h : vs.length ≤ sizeLine) (k : ∀ p v, Ext Non w v → w.H p = none → v.S p = some (.lst vs) → Q (.ref p) v.H) : mkL Q vs w.H := ⟨h, newS k⟩
end
section
variable {xs ys : List V} {n m : Nat} {lo hi : Option Int}
theorem len_app (h : xs.length ≤ n) (h2 : ys.length ≤ m) : (xs ++ ys).length ≤ n + m := by rw [List.length_append]; omega
theorem len_cut (h : xs.length ≤ n) : (cutV xs lo hi).length ≤ n := Nat.le_trans (cutV_length _ _ _) h
theorem z_cat (h1 : xs.length ≤ n) (h2 : ys.length ≤ m) (k : n + m ≤ sizeLine) : xs.length + ys.length ≤ sizeLine := by omega
end
end G
namespace G
open PySem L2
mutual
theorem nd_can : ∀ d : PyData, d.canLay0 = true → nd d = true
  | .none, _ => by unfold nd; rfl
  | .bool _, _ => by unfold nd; rfl
  | .int _, _ => by unfold nd; rfl
  | .str _, _ => by unfold nd; rfl
  | .list ds, h => by
    unfold nd
    rw [List.all_eq_true]
    rintro ⟨d, hd⟩ _
    exact nd_canA ds (by simpa [PyData.canLay0] using h) d hd
  | .tuple ds, h => by
    unfold nd
    rw [List.all_eq_true]
    rintro ⟨d, hd⟩ _
    exact nd_canA ds (by simpa [PyData.canLay0] using h) d hd
  | .dict _, h => by simp [PyData.canLay0] at h
theorem nd_canA : ∀ ds : List PyData, PyData.canLayAll0 ds = true → ∀ d ∈ ds, nd d = true
  | [], _, d, h => by cases h
  | x :: xs, h, d, hd => by
    have h' : x.canLay0 = true ∧ PyData.canLayAll0 xs = true := by simpa [PyData.canLayAll0] using h
    cases hd with
    | head => exact nd_can x h'.1
    | tail _ hd => exact nd_canA xs h'.2 d hd
end
theorem s_dnewS {w : Wd} {Q : VK} {σ : L2.St} (k : ∀ p v, Ext Non w v → w.H p = none → v.S p = some (.dK []) → Q (.ref p) v.H) : tDNewK σ w.H Q := newS k
theorem ite_nt {A B : Prop} (k : B) : if (!true) = true then A else B := k
theorem ite_nf {A B : Prop} (k : A) : if (!false) = true then A else B := k
theorem nd_shaped {d : PyData} (h : SeqAt.shaped d = true) : nd d = true := nd_can d (SeqAt.canLay_of_shaped h)
section
variable {K : PySem.W.Frag} {w : Wd} {x y : V} {d1 d2 : PyData} {Q : VK}
theorem s_eqR (h1 : Rp w.S x d1) (h2 : Rp w.S y d2) (s1 : SeqAt.shaped d1 = true) (s2 : SeqAt.shaped d2 = true) (k : Q (.bl (PyData.eqv d1 d2)) w.H) : gEq K x y w.H Q := s_eqD (h1.dpH (nd_shaped s1)) (h2.dpH (nd_shaped s2)) s1 s2 k
theorem eqv_self {d : PyData} (h : SeqAt.shaped d = true) : PyData.eqv d d = true := SeqAt.eqv_refl d (SeqAt.canLay_of_shaped h)
end
end G
namespace G
open PySem L2
section
variable {K : PySem.W.Frag} {w u v : Wd} {a p : Addr} {o : HO} {m : Addr → Prop} {vs : List V} {Q : VK} {x y : V}
/-- what stands at a, for good or owned: may be read -/
def Rd (w : Wd) (a : Addr) (o : HO) : Prop := w.S a = some o ∨ Own w a o
theorem Rd.h (r : Rd w a o) : w.H a = some o := r.elim (fun s => w.ok _ _ s) Own.h
theorem s_ixA {i : Nat} (r : Rd w a (.lst vs)) (e : vs[i]? = some y) (k : Q y w.H) : gIx K (.ref a) (.int (i : Int)) w.H Q :=
  have hi : i < vs.length := (List.getElem?_eq_some_iff.mp e).1
  ⟨_, y, .inl (SqL.of r.h), by rw [atI_nn (Int.natCast_nonneg i) (by omega)]; simpa using e, k⟩
theorem rd_dp {ds : List PyData} (r : Rd w a (.lst vs)) (h : RpA w.S vs ds) (n : nd (.list ds) = true) : Dp K w.H (.ref a) (.list ds) := by
  unfold nd at n
  rw [List.all_eq_true] at n
  exact .lst (SqL.of r.h) (dp_monoA w.ok ds vs (RpA.dp ds vs h fun d hd => n ⟨d, hd⟩ (List.mem_attach ..)))
theorem s_neL {b : Addr} {us : List V} {ds es : List PyData} (r1 : Rd w a (.lst vs)) (h1 : RpA w.S vs ds) (r2 : Rd w b (.lst us)) (h2 : RpA w.S us es) (s1 : SeqAt.shaped (.list ds) = true) (s2 : SeqAt.shaped (.list es) = true)
    (k : Q (.bl (!PyData.eqv (.list ds) (.list es))) w.H) : gNe K (.ref a) (.ref b) w.H Q := s_neD (rd_dp r1 h1 (nd_shaped s1)) (rd_dp r2 h2 (nd_shaped s2)) s1 s2 k
theorem filter_all {α : Type} (l : List α) : l.filter (fun _ => true) = l := by
  induction l with
  | nil => rfl
  | cons x r ih => rw [List.filter_cons_of_pos rfl, ih]
end
section
variable {K : PySem.W.Frag} {w : Wd} {a : Addr} {vs : List V} {Q : VK} {rows : List (Int × Int)}
/-- a comprehension over items told by rows -/
theorem lc_gen {α : Type} {rows : List α} {J : It} {n : Nat} {G : Wd → Prop} {xs : List V} (k : WWalk J n G (YI xs)) {g : TG} {tt : TT} {te : TE} {js : List Nat} {σ : L2.St} {D : Addr} {Qd : Hp → Prop} (f : α → Bool) (gd : α → PyData) (hD : w.H D = none)
    (hlen : rows.length = n) (hz : n < sizeLine) (hG : ∀ u, Ext (One D) w u → G u)
    (hs : ∀ i x q u, i < n → xs[i]? = some x → rows[i]? = some q → Ext (One D) w u → ∀ (R : VK) (Z : Hp → Prop), (∀ v y, Ext Non u v → f q = true → Rp v.S y (gd q) → R y v.H) → (∀ v, Ext Non u v → f q = false → Z v.H) →
      g x (wipe σ js) u.H fun σ2 H2 => wipe σ2 js = wipe σ js ∧ tt σ2 H2 fun b H3 => if b = true then te σ2 H3 R else Z H3)
    (hd : ∀ u acc, Ext Non w u → w.H D = none → Own u D (.lst acc) → RpA u.S acc ((rows.filter f).map gd) → Qd u.H) :
    ∃ W : Nat → Nat → Hp → Prop, (∃ m, W 0 m (upd w.H D (.lst []))) ∧ ∀ i m H, W i m H →
      (J.stop i H ∧ Qd H) ∨ (J.go i H ∧ ∃ Nx : Hp → Prop, (∀ H', Nx H' → ∃ m', m' < m ∧ W (i + 1) m' H') ∧ ∀ x H', J.yld i H x H' → g x (wipe σ js) H' fun σ2 H2 => wipe σ2 js = wipe σ js ∧ tt σ2 H2 fun b H3 =>
        if b = true then te σ2 H3 fun y H4 => ∃ acc, H4 D = some (.lst acc) ∧ acc.length < sizeLine ∧ Nx (upd H4 D (.lst (acc ++ [y]))) else Nx H3) := by
  refine lcW k (fun i u acc => Ext (One D) w u ∧ RpA u.S acc (((rows.take i).filter f).map gd)) hD (fun u e o => ⟨e.more fun _ z => z.elim, .nil⟩) (fun i u acc _ p => hG u p.1) ?_ ?_
  · rintro i x u0 u acc hi o ⟨e, ha2⟩ ⟨rfl, hx⟩
    have hi' : i < rows.length := by omega
    have ht : rows.take (i + 1) = rows.take i ++ [rows[i]] := by rw [List.take_add_one, List.getElem?_eq_getElem hi']; rfl
    have hal : acc.length < sizeLine := by
      have h1 := ha2.length
      rw [List.length_map] at h1
      have h2 := List.length_filter_le f (rows.take i)
      rw [List.length_take] at h2
      omega
    refine hs i x rows[i] u hi hx (List.getElem?_eq_getElem hi') e _ _ (fun t y et hf hy => ?_) (fun t et hf => ?_)
    · refine lc_put (o.ext et fun z => z) hal fun z ez oz => ⟨(e.step et fun _ z => z.elim).step ez fun l hl => .inr hl, ?_⟩
      rw [ht, List.filter_append, List.filter_cons_of_pos hf, List.filter_nil, List.map_append]
      exact RpA.append ((ha2.go et).go ez) (.one (hy.go ez))
    · refine lcN_i (o.ext et fun z => z) ⟨e.step et fun _ z => z.elim, ?_⟩
      rw [ht, List.filter_append, List.filter_cons_of_neg (by rw [hf]; decide), List.filter_nil, List.append_nil]
      exact ha2.go et
  · rintro u acc ⟨e, ha2⟩ o
    refine hd u acc (e.more fun l hl => .inl (by rw [show l = D from hl]; exact hD)) hD o ?_
    rw [← hlen, List.take_length] at ha2
    exact ha2
end
end G
namespace G
open PySem L2
theorem cut_to {xs : List V} {d : Int} (h : 0 ≤ d) : cutV xs none (some d) = xs.take d.toNat := by
  have e : HT.sIx xs.length 0 none = 0 := rfl
  unfold cutV
  rw [e, List.drop_zero, Nat.sub_zero]
  by_cases hd : d ≤ xs.length
  · have e2 : HT.sIx xs.length xs.length (some d) = d.toNat := by
      show (if d < 0 then _ else min d.toNat _) = _
      rw [if_neg (by omega)]
      omega
    rw [e2]
  · have e2 : HT.sIx xs.length xs.length (some d) = xs.length := by
      show (if d < 0 then _ else min d.toNat _) = _
      rw [if_neg (by omega)]
      omega
    rw [e2, List.take_length, List.take_of_length_le (by omega)]
theorem cut_from {xs : List V} {d : Int} (h : 0 ≤ d) : cutV xs (some d) none = xs.drop d.toNat := by
  have e : HT.sIx xs.length xs.length none = xs.length := rfl
  unfold cutV
  rw [e]
  by_cases hd : d ≤ xs.length
  · have e2 : HT.sIx xs.length 0 (some d) = d.toNat := by
      show (if d < 0 then _ else min d.toNat _) = _
      rw [if_neg (by omega)]
      omega
    rw [e2]
    exact List.take_of_length_le (by rw [List.length_drop]; omega)
  · have e2 : HT.sIx xs.length 0 (some d) = xs.length := by
      show (if d < 0 then _ else min d.toNat _) = _
      rw [if_neg (by omega)]
      omega
    rw [e2, List.drop_eq_nil_of_le (Nat.le_refl _), List.drop_eq_nil_of_le (by omega), List.take_nil]
end G
namespace G
open PySem L2
end G
namespace G
open PySem L2
section
variable {K : PySem.W.Frag} {w : Wd} {a b : Addr} {vs us : List V} {Q : VK} {x y : V} {d : PyData} {ds : List PyData}
theorem s_neLs (s : SeqAt.shaped (.list ds) = true) (r1 : Rd w a (.lst vs)) (h1 : RpA w.S vs ds) (r2 : Rd w b (.lst us)) (h2 : RpA w.S us ds) (k : Q (.bl false) w.H) : gNe K (.ref a) (.ref b) w.H Q := s_neL r1 h1 r2 h2 s s (by rw [eqv_self s]; exact k)
end
end G
namespace G
open PySem L2 PyProof.Rows RZ
end G
namespace G
open PySem L2 PyProof.Rows
structure Mkr (P : Program) (w : World) (K : PySem.W.Frag) (mg : Str → Option Value) (base : Heap) (CX : CXT) (C : Addr) (k : Nat) (sp : L2.Sp) : Prop where
  ex : ∃ (f : Addr) (fd : FuncData) (ps : List Str), FnOk P w K mg base CX k f fd ps sp ∧ Mk K C f ∧ Binds K fd ps []
section
variable {K : PySem.W.Frag} {w : Wd} {a C dx : Addr} {fs gs : List (Str × V)} {f m : Str} {y v : V} {vs : List V} {Q : VK} {E : XK} {σ : L2.St} {H : Hp} {to te : TE} {t : TA} {D : Ends} {sp : L2.Sp}
def rFld (K : PySem.W.Frag) (f : Str) (x : V) (H1 : Hp) (Q : VK) : Prop := ∃ a C dx fs v, x = .ref a ∧ H1 a = some (.ins C dx fs) ∧ Cls K C ∧ NoAttr K C f ∧ fs.lookup f = some v ∧ Q v H1
theorem s_fld (k : te σ H fun x H1 => rFld K f x H1 Q) : tFld K te f σ H Q := k
theorem s_rfld (h : w.H a = some (.ins C dx fs)) (c : Cls K C) (n : NoAttr K C f) (l : fs.lookup f = some v) (k : Q v w.H) : rFld K f (.ref a) w.H Q := ⟨a, C, dx, fs, v, rfl, h, c, n, l, k⟩
def rSfl (K : PySem.W.Frag) (f : Str) (y : V) (D : Ends) (σ : L2.St) (x : V) (H2 : Hp) : Prop := ∃ a C dx fs, x = .ref a ∧ H2 a = some (.ins C dx fs) ∧ Cls K C ∧ NoAttr K C f ∧ fs.length < 1000 ∧ D.nx σ (upd H2 a (.ins C dx (putF f y fs)))
theorem s_sfld (k : te σ H fun y H1 => to σ H1 fun x H2 => rSfl K f y D σ x H2) : sFld K to te f D σ H := k
theorem s_rsfl (h : Own w a (.ins C dx fs)) (c : Cls K C) (n : NoAttr K C f) (z : fs.length < 1000) (e : putF f y fs = gs) (k : ∀ v, Ext (One a) w v → Own v a (.ins C dx gs) → D.nx σ v.H) : rSfl K f y D σ (.ref a) w.H := by
  subst e
  exact ⟨a, C, dx, fs, rfl, h.h, c, n, z, put (R := D.nx σ) h k⟩
def rMake (C : Addr) (sp : L2.Sp) (E : XK) (Q : VK) (vs : List V) (H1 : Hp) : Prop := ∀ x dx, H1 x = none → H1 dx = none → dx ≠ x → sp (.ref x :: (vs ++ [])) (upd (upd H1 dx (.own x)) x (.ins C dx [])) (fun v H2 => v = .non ∧ Q (.ref x) H2) E
theorem s_rmake (k : ∀ x dx v, Ext Non w v → w.H x = none → Own v x (.ins C dx []) → sp (.ref x :: (vs ++ [])) v.H (fun r H2 => r = .non ∧ Q (.ref x) H2) E) : rMake C sp E Q vs w.H := fun x dx hx hdx hne => by
  refine newO (w := w) (o := .own x) (Q := fun r H1 => ∀ y, r = .ref y → H1 x = none → sp (.ref x :: (vs ++ [])) (upd H1 x (.ins C y [])) (fun v H2 => v = .non ∧ Q (.ref x) H2) E) (fun p v e n o y hy hxv => ?_) dx hdx dx rfl (by rw [upd_ne (Ne.symm hne)]; exact hx)
  cases hy
  refine newO (w := v) (o := .ins C p []) (Q := fun r H1 => r = .ref x → sp (.ref x :: (vs ++ [])) H1 (fun v H2 => v = .non ∧ Q (.ref x) H2) E) (fun q u e2 n2 o2 hq => ?_) x hxv rfl
  cases hq
  exact k x p u (e.step e2 fun _ z => z.elim) hx o2
theorem s_pm2 {b : V} {P : Wd → V → V → VK → XK → Prop} (h : P w y b Q E) : pr2 P (y :: ([b] ++ [])) w.H Q E := ⟨w, y, b, rfl, rfl, h⟩
theorem s_pm3 {b c : V} {P : Wd → V → V → V → VK → XK → Prop} (h : P w y b c Q E) : pr3 P (y :: ([b, c] ++ [])) w.H Q E := ⟨w, y, b, c, rfl, rfl, h⟩
theorem lk_hd {r : List (Str × V)} : List.lookup f ((f, v) :: r) = some v := by simp [List.lookup]
theorem lk_tl {g : Str} {r : List (Str × V)} {o : Option V} (h : (f == g) = false) (t : r.lookup f = o) : List.lookup f ((g, v) :: r) = o := by
  rw [List.lookup_cons, h]
  exact t
theorem lk_nil : List.lookup f ([] : List (Str × V)) = none := rfl
theorem pf_nil : putF f y [] = [(f, y)] := rfl
theorem pf_tl {g : Str} {r r' : List (Str × V)} (h : ¬ g = f) (t : putF f y r = r') : putF f y ((g, v) :: r) = (g, v) :: r' := by
  show (if g = f then _ else _) = _
  rw [if_neg h, t]
theorem kit_any2 {t u1 u2 : Value} {b1 b2 : Bool} (h1 : PySem.W.kitOne K t u1 = some b1) (h2 : PySem.W.kitOne K t u2 = some b2) : PySem.W.kitAny K t [u1, u2] = some (b1 || b2) := by
  unfold PySem.W.kitAny
  rw [h1]
  cases b1
  · show PySem.W.kitAny K t [u2] = _
    unfold PySem.W.kitAny
    rw [h2]
    cases b2 <;> rfl
  · rfl
end
end G
namespace G
open PySem L2
end G
namespace G
open PySem L2
end G
namespace G
open PySem L2
end G
namespace G
open PySem L2
/-- what may be lent: a cell of one's own that is no code object -/
structure Lnd (w : Wd) (l : Addr) : Prop where
  ex : ∃ o, Own w l o ∧ ∀ q, o ≠ LamX.CodeO l q
theorem Own.lnd {w : Wd} {l : Addr} {vs : List V} (h : Own w l (.lst vs)) : Lnd w l := ⟨_, h, fun q z => by unfold LamX.CodeO at z; cases z⟩
end G
namespace G
open PySem L2
end G
namespace G
open PySem L2
theorem pe_gco {X : Cx} {x : Str} {v : V} {pos : Pos} (hg : Gl X x) (c : ∃ u, X.mg x = some u ∧ RelV v u) (hd : (x == ("__debug__" : Str)) = false := by decide) : PE X (.Name x pos) (tC v) := by
  obtain ⟨u, hm, r⟩ := c
  exact pe_glob hg hm r hd
/-- at most n signs, all of the first 128 -/
def Tx (n : Nat) (z : Str) : Prop := z.length ≤ n ∧ ∀ c ∈ z.cps.toList, c < 128
section
variable {a b z : Str} {n m : Nat}
theorem Tx.mono (h : Tx n z) (k : n ≤ m) : Tx m z := ⟨Nat.le_trans h.1 k, h.2⟩
theorem Tx.one {c : Nat} (h : c < 128) : Tx 1 ⟨#[c]⟩ := ⟨Nat.le_refl _, fun d hd => by
  have : d = c := by simpa using hd
  rw [this]; exact h⟩
theorem Tx.ok (h : Tx n z) : PyData.strOk z = true := by
  unfold PyData.strOk
  rw [Array.all_eq_true_iff_forall_mem]
  intro c hc
  have := h.2 c (by simpa using hc)
  exact decide_eq_true (by omega)
end
section
variable {K : PySem.W.Frag} {H : Hp} {Q : VK} {a b z : Str}
theorem s_lenZ (h : z.length ≤ sizeLine) (k : Q (.int z.length) H) : gLen K [.str z] H Q := ⟨h, k⟩
theorem s_inZ {c : Nat} (k : Q (.bl (decide (c ∈ z.cps.toList))) H) : gIn K (.str ⟨#[c]⟩) (.str z) H Q := ⟨c, rfl, k⟩
def zV (z : Str) : List V := z.cps.toList.map fun c => .str ⟨#[c]⟩
theorem ww_strI : WWalk (Its z) z.cps.size (fun _ => True) (YI (zV z)) :=
  ⟨fun i w h q => ww_str.goes i w h q, fun w q => ww_str.stops w q, fun i w x H' h q y => by
    obtain ⟨v, e, e1, c, e2, rfl⟩ := ww_str.yields i w x H' h q y
    refine ⟨v, e, e1, ?_⟩
    unfold zV
    rw [List.getElem?_map, Array.getElem?_toList, e2]
    rfl⟩
end
end G
namespace G
open PySem L2
theorem Tx.sz {n : Nat} {z : Str} (h : Tx n z) (k : n ≤ 16777216) : z.length ≤ sizeLine := by
  rw [sizeLine_eq]
  exact Nat.le_trans h.1 k
end G
namespace G
open PySem L2
section
variable {w : Wd}
/-- a comprehension over a range whose items touch m, I holding all along -/
theorem lc_rngI {α : Type} {P : α → Prop} {gd : α → PyData} (m : Addr → Prop) (I : Wd → Prop) {n : Nat} {lo : Int} {g : TG} {te : TE} {js : List Nat} {σ : L2.St} {D : Addr} {Qd : Hp → Prop} (hD : w.H D = none) (hmD : ¬ m D) (hz : n < sizeLine) (hI0 : ∀ u, Ext Non w u → I u) (hI : ∀ u v, I u → Ext (One D) u v → I v)
    (hs : ∀ i u, i < n → Ext (fun l => m l ∨ l = D) w u → I u → ∀ (R : VK) (Z : Hp → Prop), (∀ v y d, Ext m u v → I v → P d → Rp v.S y (gd d) → R y v.H) →
      g (.int (lo + i)) (wipe σ js) u.H fun σ2 H2 => wipe σ2 js = wipe σ js ∧ tYes σ2 H2 fun b H3 => if b = true then te σ2 H3 R else Z H3)
    (hd : ∀ u acc (ds : List α), Ext m w u → I u → w.H D = none → Own u D (.lst acc) → RpA u.S acc (ds.map gd) → ds.length = n → (∀ d ∈ ds, P d) → Qd u.H) :
    ∃ W : Nat → Nat → Hp → Prop, (∃ m, W 0 m (upd w.H D (.lst []))) ∧ ∀ i m H, W i m H →
      ((Itr lo n).stop i H ∧ Qd H) ∨ ((Itr lo n).go i H ∧ ∃ Nx : Hp → Prop, (∀ H', Nx H' → ∃ m', m' < m ∧ W (i + 1) m' H') ∧ ∀ x H', (Itr lo n).yld i H x H' → g x (wipe σ js) H' fun σ2 H2 => wipe σ2 js = wipe σ js ∧ tYes σ2 H2 fun b H3 =>
        if b = true then te σ2 H3 fun y H4 => ∃ acc, H4 D = some (.lst acc) ∧ acc.length < sizeLine ∧ Nx (upd H4 D (.lst (acc ++ [y]))) else Nx H3) := by
  refine lcW (ww_range (lo := lo) (m := n)) (fun i u acc => Ext (fun l => m l ∨ l = D) w u ∧ I u ∧ ∃ ds : List α, RpA u.S acc (ds.map gd) ∧ ds.length = i ∧ ∀ d ∈ ds, P d) hD (fun u e o => ⟨e.more fun _ z => z.elim, hI0 u e, [], .nil, rfl, fun d h => by cases h⟩) (fun _ _ _ _ _ => trivial) ?_ ?_
  · rintro i x u0 u acc hi o ⟨e, iu, ds, hr, hl, hp⟩ ⟨rfl, rfl⟩
    have hal : acc.length < sizeLine := by
      have h1 := hr.length
      rw [List.length_map] at h1
      omega
    refine hs i u hi e iu _ _ fun v y d ev iv hd hy => ?_
    refine lc_put (o.ext ev hmD) hal fun t et ot => ⟨(e.step ev fun l hl => .inr (.inl hl)).step et fun l hl => .inr (.inr hl), hI v t iv et, ds ++ [d], ?_, by simp [hl], fun d' hd' => ?_⟩
    · rw [List.map_append]
      exact RpA.append ((hr.go ev).go et) (.one (hy.go et))
    · rcases List.mem_append.mp hd' with h | h
      · exact hp d' h
      · rw [List.mem_singleton.mp h]; exact hd
  · rintro u acc ⟨e, iu, ds, hr, hl, hp⟩ o
    exact hd u acc ds (e.more fun l hl => hl.elim .inr fun h => .inl (by rw [h]; exact hD)) iu hD o hr hl hp
end
end G
namespace G
open PySem L2
theorem tx_sum : ∀ {zs : List Str}, (∀ z ∈ zs, Tx 1 z) → (zs.map (·.length)).sum ≤ zs.length
  | [], _ => by simp
  | z :: r, h => by
    have h1 := tx_sum (zs := r) fun y hy => h y (List.mem_cons_of_mem _ hy)
    have h2 := (h z List.mem_cons_self).1
    simp only [List.map_cons, List.sum_cons, List.length_cons]
    omega
end G
namespace G
open PySem L2
end G
namespace G
open PySem L2
end G
namespace G
open PySem L2
/-- a def's name as a value; a call of a local name that holds a def -/
abbrev Hd (P : Program) (w : World) (K : PySem.W.Frag) (mg : Str → Option Value) (base : Heap) (k : Nat) : Addr → L2.Sp → Prop := fun f sp => Held P w K mg base k f sp
def tFnV (A : Addr → L2.Sp → Prop) (sp : L2.Sp) : TE := fun _ H Q => ∀ f, A f sp → Q (.ref f) H
section
variable {X : Cx} {k k0 i : Nat} {x : Str} {sp : L2.Sp} {p pos : Pos} {e : Expr} {es : List Expr} {t : TA}
theorem pe_fnv (c : Fnc X.prog X.w X.K X.mg X.base CX0 k0 x sp) (hk : k0 ≤ k) (hg : Gl X x := by rfl) (hd : (x == ("__debug__" : Str)) = false := by decide) : PE X (.Name x pos) (tFnV (Hd X.prog X.w X.K X.mg X.base k) sp) := by
  obtain ⟨f, fd, ps, F, hm, hkp, hb⟩ := c.ex
  exact ⟨fun pins s σ H Q I h => (pe_glob (v := .ref f) hg hm rfl hd).run pins s σ H Q I (h f ⟨fd, ps, F.mono hk, hkp, hb⟩)⟩
end
section
variable {A : Addr → L2.Sp → Prop} {σ : L2.St} {H : Hp} {Q : VK} {sp : L2.Sp} {t : TA} {i : Nat} {f : Addr}
theorem s_fnv (k : ∀ f, A f sp → Q (.ref f) H) : tFnV A sp σ H Q := k
end
end G
set_option linter.all false
set_option maxRecDepth 100000
namespace G
open PySem L2 TL
section
variable {K : PySem.W.Frag} {w : Wd} {H : Hp} {Q : VK} {σ : L2.St} {a b z : Str}
theorem s_ixZe {j : Int} (hz : z.length ≤ sizeLine) (h0 : 0 ≤ j) (h1 : j < z.length) (k : ∀ c, (tl z)[j.toNat]? = some c → Q (.str ⟨#[c]⟩) H) : gIx K (.str z) (.int j) H Q := by
  have hl : j.toNat < (tl z).length := by
    have := len_tl z
    omega
  refine ⟨(tl z)[j.toNat], hz, ?_, k _ (List.getElem?_eq_getElem hl)⟩
  have hl' : j.toNat < z.cps.toList.length := hl
  rw [atI_nn h0 (by omega)]
  exact List.getElem?_eq_getElem hl'
theorem s_repM {p : Addr} {vs : List V} {n : Int} (h : w.H p = some (.lst vs)) (h0 : 0 ≤ n) (h1 : n < 1000000) (h3 : vs.length * n.toNat ≤ sizeLine) (k : ∀ p v ys, Ext Non w v → w.H p = none → v.S p = some (.lst ys) → ys.length = n.toNat * vs.length → ys = (List.replicate n.toNat vs).flatten → Q (.ref p) v.H) : gMul K (.ref p) (.int n) w.H Q :=
  ⟨vs, h, by omega, by omega, h3, newS fun p v e n' s => k p v _ e n' s (by
    have : ∀ m : Nat, (List.replicate m vs).flatten.length = m * vs.length := by
      intro m
      induction m with
      | zero => simp
      | succ m ih => rw [List.replicate_succ, List.flatten_cons, List.length_append, ih, Nat.succ_mul, Nat.add_comm]
    exact this _) rfl⟩
theorem s_isNN (k : Q (.bl true) H) : gIs .non .non H Q := s_isN (by rw [decide_eq_true rfl]; exact k)
theorem s_isRN {n : Addr} (k : Q (.bl false) H) : gIs (.ref n) .non H Q := s_isN (by rw [decide_eq_false (fun z => by cases z)]; exact k)
theorem s_notNN (k : Q (.bl false) H) : gIsNot .non .non H Q := s_notN (by rw [decide_eq_true rfl]; exact k)
/-- a text in a written tuple of texts -/
theorem s_inT {p : Addr} {vs : List V} (h : w.S p = some (.tup vs)) (f : vs.all flatV = true) (k : Q (.bl (inV (.str z) vs)) w.H) : gIn K (.str z) (.ref p) w.H Q := ⟨p, vs, rfl, .inr (sqt_of h), rfl, f, k⟩
end
end G
set_option linter.all false
set_option maxRecDepth 100000
namespace G
open PySem L2 TL
theorem kpEnum {X : Cx} (K : PySem.W.Frag) {e : Expr} {ta : TA} {p pos tpos : Pos} {elts : List Expr} {kk : Nat} (hg : Gl X "enumerate") (hm : X.mg "enumerate" = none) (ha : PA X [e] ta) (eK : X.K = K := by rfl) (hs : starEach [e] X.env = [(false, eval e X.env)] := by rfl) :
    PI X (.Tuple elts kk tpos) (.Call (.Name "enumerate" p) [e] [] pos) (iEnum K ta) := eK ▸ pi_enum hg hm ha hs
section
variable {K : PySem.W.Frag} {w : Wd} {a C dx : Addr} {xs : List V} {Q : VK}
theorem s_iEnum {ta : TA} {σ : L2.St} {H : Hp} {R : It → Hp → Prop} (k : ta σ H fun vs H1 => ∃ a xs, vs = [.ref a] ∧ SqL K H1 a xs ∧ R (Ite K a) H1) : iEnum K ta σ H R := k
def YE (xs : List V) : Nat → Wd → V → Wd → Prop := fun i w x v => ∃ T x1, x = .ref T ∧ Ext Non w v ∧ w.H T = none ∧ v.S T = some (.tup [.int (i : Nat), x1]) ∧ xs[i]? = some x1
theorem ye_of {w : Wd} {T : Addr} {x1 : V} {i : Nat} (hT : w.H T = none) (h1 : xs[i]? = some x1) : ∃ v : Wd, v.H = upd w.H T (.tup [.int (i : Nat), x1]) ∧ YE xs i w (.ref T) v := by
  refine newS (w := w) (o := .tup [.int (i : Nat), x1]) (Q := fun r H' => r = .ref T → ∃ v : Wd, v.H = H' ∧ YE xs i w (.ref T) v) (fun p v e n s hq => ?_) T hT rfl
  cases hq
  exact ⟨v, rfl, T, x1, rfl, e, n, s, h1⟩
theorem ww_enum : WWalk (Ite K a) xs.length (fun w => SqL K w.H a xs) (YE xs) :=
  ⟨fun i w h q => ⟨xs, xs[i], q, List.getElem?_eq_getElem h⟩, fun w q => ⟨xs, q, Nat.le_refl _⟩, fun i w x H' h q y => by
    obtain ⟨T, x1, rfl, hT, rfl, h1⟩ := y
    exact ye_of hT (h1 xs q)⟩
structure ClsI (K : PySem.W.Frag) (C : Addr) : Prop where
  ha : PySem.W.findIn K (.ref C) "__class__" = some (some (.builtin "object.__class__"))
  hn : PySem.W.specialIn K (.builtin "object.__class__") "__get__" = some (some (.builtin "getset_descriptor.__get__"))
  ht : PySem.W.takesIn K (.builtin "object.__class__") = some true
  hm : PySem.W.mroIn K C (.type "object") = some true
end
end G
set_option linter.all false
set_option maxRecDepth 100000
set_option maxHeartbeats 1000000
namespace G
open PySem L2 PyProof.Rows
section
variable {X : Cx} {o e : Expr} {es : List Expr} {to te : TE} {ta : TA} {p p' p1 p2 pos : Pos}
/-- B.__init__(self, ..), B an own class that has its __init__ of ValueError -/
theorem pe_xinit {pl : Sem Bool} {C0 : Addr} {mc : Value} (he0 : PE X o (tC (.ref C0))) (rd : PySem.W.readsIn X.K C0 mc = true) (ga : PySem.W.specialIn X.K (.ref C0) "__getattribute__" = some (some (.builtin "type.__getattribute__")))
    (vV : PySem.W.findCls X.K (.ref C0) mc "__init__" = some (.val (.builtin "ValueError.__init__"))) (ha : PA X (e :: es) ta)
    (hc : eval (.Call (.Attribute o "__init__" p2) (e :: es) [] pos) X.env = (do
      let ov ← eval o X.env
      standAt p2.atName
      let (f, first) ← holding [ov] (getMethod ov "__init__" pl)
      callWith pos f first (backTo pos (starEach (e :: es) X.env)) (backToKw pos (keywordEach [] X.env))) := by rfl)
    (he : starEach (e :: es) X.env = (false, eval e X.env) :: starEach es X.env := by rfl) (hpl : (backTo pos (starEach es X.env)).any (·.1) = false := by rfl) :
    PE X (.Call (.Attribute o "__init__" p2) (e :: es) [] pos) (tVeI X.K ta) := by
  refine ⟨fun pins s σ H Q I h => ?_⟩
  refine PySem.W.methodCall_KW (pl := pl) (thn (he0.run pins s σ H (fun x H1 => x = .ref C0 ∧ tVeI X.K ta σ H1 Q) I ⟨rfl, h⟩) fun u s1 ⟨x, H1, I1, rx, ex, q0⟩ => ?_) hc
  subst ex
  obtain rfl : u = Value.ref C0 := rx
  refine PySem.W.method_cls I1.kIn ga (PySem.W.cls_value I1.kIn rd vV (by rfl) ?_)
  show wpAny _ _ (callWith pos (Value.builtin "ValueError.__init__") [] (backTo pos (starEach (e :: es) X.env)) []) _ _ _
  refine PyProof.Rows.callWith_method1 (thn (ha.run pos pins _ σ H1 _ (I1.tok _) q0) fun us s2 ⟨vs, H2, I2, r1, a, C, ws, ev, hl, T, ea, q⟩ => ?_) he hpl
  subst ev
  cases r1 with
  | @cons _ u0 _ ur ra rw' =>
    obtain rfl : u0 = Value.ref a := ra
    have hlen : ur.length ≤ sizeLine := by
      rw [← Paired.length rw', sizeLine_eq]
      omega
    exact oinit_ok T I2 ea hlen fun s' J => ⟨.non, H2, J, rfl, q⟩
end
/-- an exception class: what raise C(e) needs -/
structure Mxr (P : Program) (w : World) (K : PySem.W.Frag) (mg : Str → Option Value) (base : Heap) (C : Addr) (k : Nat) (sp : L2.Sp) : Prop where
  ex : ∃ (f : Addr) (fd : FuncData) (ps : List Str), FnOk P w K mg base CX0 k f fd ps sp ∧ OexC K C ∧ PySem.W.findIn K (.ref C) "__init__" = some (some (.ref f)) ∧ PySem.W.typeIn K (.ref f) = some (.type "function") ∧ Binds K fd ps []
def tRaiseX (C : Addr) (sp : L2.Sp) (W : WX) (ta : TA) : TS := fun _ σ H => tMkO C sp [] ta σ H fun cls d H' => W cls d σ H'
theorem ps_raiseX {X : Cx} {W : WX} {x : Str} {C : Addr} {k j : Nat} {sp : L2.Sp} {e : Expr} {ta : TA} {p pos pos2 : Pos} (hc : X.calm = true) (tk : Takes X W) (c : Mxr X.prog X.w X.K X.mg X.base C k sp) (hr : Room j X.A) (hk : k + 1 ≤ j) (hm : X.mg x = some (.ref C)) (ha : PA X [e] ta) (hg : Gl X x := by rfl)
    (hdb : (x == ("__debug__" : Str)) = false := by decide) (he : starEach [e] X.env = (false, eval e X.env) :: starEach [] X.env := by rfl) (hpl : (backTo pos (starEach [] X.env)).any (·.1) = false := by rfl) :
    PS X (.Raise (some (.Call (.Name x p) [e] [] pos)) none pos2) (tRaiseX C sp W ta) := by
  obtain ⟨f, fd, ps, F, T, iC, tI, hb⟩ := c.ex
  exact ps_raise hc tk (pmk_oex T iC tI F (hr.mono hk) hb .nil pass0 hg hm ha hdb he hpl)
/-- an __init__'s promise: it keeps its argument in the field f, nothing else -/
def initX (f : Str) (C : Addr) (w : Wd) (a b : V) (Q : VK) (_ : XK) : Prop := ∃ x, a = .ref x ∧ w.H x = some (exo x C none) ∧ ∀ dx, w.H dx = none → dx ≠ x → Q .non (upd (upd w.H dx (exd dx [(f, b)])) x (exo x C (some dx)))
section
variable {w : Wd} {K : PySem.W.Frag} {C : Addr} {f : Str} {y : V} {Q : VK} {σ : L2.St} {W : WX} {D : Ends}
theorem s_raiseX {ta : TA} {P : Wd → V → V → VK → XK → Prop} (hP : P = initX f C) (k : ta σ w.H fun vs H1 => vs.length ≤ 1000 ∧ ∀ a, H1 a = none → pr2 P (.ref a :: (vs ++ [])) (upd H1 a (exo a C none))
    (fun v H2 => v = .non ∧ ∃ (d : Addr) (fs : List (Str × V)), H2 a = some (exo a C (some d)) ∧ H2 d = some (exd d fs) ∧ H1 d = none ∧ W (.ref C) (some d) σ (upd (del H2 a) d (.xd fs))) (fun _ _ _ => False)) : tRaiseX C (pr2 P) W ta D σ w.H := k
/-- the raise itself: told by what holds where it is caught -/
theorem s_raised (k : ∀ d v, Ext Non w v → w.H d = none → Own v d (.xd [(f, y)]) → W (.ref C) (some d) σ v.H) : [y].length ≤ 1000 ∧ ∀ a, w.H a = none → pr2 (initX f C) (.ref a :: ([y] ++ [])) (upd w.H a (exo a C none))
    (fun v H2 => v = .non ∧ ∃ (d : Addr) (fs : List (Str × V)), H2 a = some (exo a C (some d)) ∧ H2 d = some (exd d fs) ∧ w.H d = none ∧ W (.ref C) (some d) σ (upd (del H2 a) d (.xd fs))) (fun _ _ _ => False) := by
  refine ⟨by simp, fun a ha => ?_⟩
  refine ⟨⟨w.S, upd w.H a (exo a C none), fun b q x => ?_, w.T, w.tb.step (fun b q h => h) fun q hq => ⟨rfl, upd_ne (Wd.ntN ha q hq)⟩⟩, .ref a, y, rfl, rfl, a, rfl, upd_same, fun dx hdx hne => ⟨rfl, dx, [(f, y)], upd_same, ?_, ?_, ?_⟩⟩
  · have hb : b ≠ a := fun e => by
      have := w.ok b q x
      rw [e, ha] at this
      cases this
    rw [upd_ne hb]
    exact w.ok b q x
  · rw [upd_ne hne, upd_same]
  · have : upd w.H a (exo a C none) dx = none := hdx
    rw [upd_ne hne] at this
    exact this
  · have hdn : w.H dx = none := by
      have : upd w.H a (exo a C none) dx = none := hdx
      rw [upd_ne hne] at this
      exact this
    have e : upd (del (upd (upd (upd w.H a (exo a C none)) dx (exd dx [(f, y)])) a (exo a C (some dx))) a) dx (.xd [(f, y)]) = upd w.H dx (.xd [(f, y)]) := by
      funext b
      by_cases hb : b = dx
      · subst hb
        rw [upd_same, upd_same]
      · rw [upd_ne hb, upd_ne hb]
        by_cases hb2 : b = a
        · subst hb2
          rw [del_same, ha]
        · rw [del_ne hb2, upd_ne hb2, upd_ne hb, upd_ne hb2]
    show W (.ref C) (some dx) σ (upd (del (upd (upd (upd w.H a (exo a C none)) dx (exd dx [(f, y)])) a (exo a C (some dx))) a) dx (.xd [(f, y)]))
    rw [e]
    refine newO (w := w) (o := .xd [(f, y)]) (Q := fun r H' => ∀ d, r = .ref d → W (.ref C) (some d) σ H') (fun p v e n o d hd => ?_) dx hdn dx rfl
    cases hd
    exact k p v e n o
end
/-- isinstance in an except suite: of the exception, or of anything else -/
def rIsX (K : PySem.W.Frag) (a : Addr) (cls : Value) (d : Option Addr) : List V → Hp → VK → Prop := fun xs H Q => ∃ (E dd : Addr) (fs : List (Str × V)) (c : V) (cv : Value) (b : Bool), cls = .ref E ∧ d = some dd ∧ ExcC K E ∧ xs = [.ref a, c] ∧ (∀ u, RelV c u → u = cv) ∧ PySem.W.kitOne K (.ref E) cv = some b ∧
  H dd = some (.xd fs) ∧ Q (.bl b) H
def rIsU (K : PySem.W.Frag) (a : Addr) (cls : Value) (d : Option Addr) : List V → Hp → VK → Prop := fun xs H Q => rIsi K xs H Q ∨ rIsX K a cls d xs H Q
theorem call_isX {X : Cx} {a : Addr} {cls : Value} {d : Option Addr} {oe : Obj} {pn : List (Addr × Obj)} (hz : Zc cls d oe) (hf : ∃ vs, oe.data = .fields vs) : CallR (X.suite a ((a, oe) :: pn)) (.builtin "isinstance") (rIsX X.K a cls d) := by
  intro pins s σ H xs us Q I r h
  obtain ⟨E, dd, fs, c, cv, b, rfl, rfl, C, rfl, hcv, e, ea, q⟩ := h
  cases r with
  | cons rx rr =>
    cases rr with
    | cons rt rr =>
      cases rr
      cases rx
      have ec := hcv _ rt
      subst ec
      obtain ⟨hget, _⟩ := I.pin (a, oe) (List.mem_append.mpr (.inl List.mem_cons_self))
      obtain ⟨vs, hv⟩ := hf
      have hx : ObjOk X.prog X.w H s.heap dd (.xd fs) := I.hok dd _ ea
      obtain ⟨mA, hns, hr⟩ := hx
      obtain ⟨od, ho, hlk⟩ := lookIn_ns hns
      have J : PySem.W.InstAt s.heap a oe E (some od) := ⟨hget, hz.1, by unfold PySem.W.notCls; rw [hv] <;> rfl, by rw [hz.2]; exact ho⟩
      obtain ⟨cd, hcl, _⟩ := PySem.W.any_some C.hd
      exact PySem.W.kia_one (PySem.W.kitx_exc (by rw [hcl]; rfl) C.hg C.hk C.hs C.ha C.hn C.ht C.hm) I.kIn J e (fun z => nomatch z) fun tk => ⟨.bl b, H, I.kept (t' := tk) fun _ _ z => z, rfl, q⟩
theorem call_isU {X : Cx} {K : PySem.W.Frag} (eK : X.K = K) {a : Addr} {cls : Value} {d : Option Addr} {oe : Obj} {pn : List (Addr × Obj)} (hz : Zc cls d oe) (hf : ∃ vs, oe.data = .fields vs) : CallR (X.suite a ((a, oe) :: pn)) (.builtin "isinstance") (rIsU K a cls d) := by
  subst eK
  intro pins s σ H xs us Q I r h
  rcases h with h | h
  · exact call_isi pins s σ H xs us Q I r h
  · exact call_isX hz hf pins s σ H xs us Q I r h
/-- e.f in an except suite, whatever the class -/
def tXg (K : PySem.W.Frag) (a : Addr) (cls : Value) (d : Option Addr) (f : Str) (te : TE) : TE := fun σ H Q => te σ H fun x H1 => ∃ C : Addr, x = .ref a ∧ cls = .ref C ∧ XfC K C ∧ PySem.W.findIn K (.ref C) f = some none ∧ ∃ (dd : Addr) (fs : List (Str × V)) (v : V), d = some dd ∧ H1 dd = some (.xd fs) ∧ fs.lookup f = some v ∧ Q v H1
theorem pe_xg {X : Cx} {K : PySem.W.Frag} (eK : X.K = K) {a : Addr} {oe : Obj} {cls : Value} {d : Option Addr} {pn : List (Addr × Obj)} {e : Expr} {te : TE} {pos : Pos} {n : Str}
    (hz : Zc cls d oe) (hf : ∃ vs, oe.data = .fields vs) (he : PE (X.suite a ((a, oe) :: pn)) e te) (hb : attributeBase e n X.env (eval e X.env) = eval e X.env := by rfl) :
    PE (X.suite a ((a, oe) :: pn)) (.Attribute e n pos) (tXg K a cls d n te) := by
  subst eK
  refine ⟨fun pins s σ H Q I h => ?_⟩
  refine attr_of hb (thn (he.run pins s σ H _ I h) fun u s1 hh => ?_)
  obtain ⟨x, H1, I1, rx, C, ex, ec, T, hno, dd, fs, v, ed, ea, l, q⟩ := hh
  subst ex
  obtain rfl : u = Value.ref a := rx
  subst ec
  subst ed
  obtain ⟨ha, _⟩ := I1.pin (a, oe) (List.mem_append_left _ List.mem_cons_self)
  obtain ⟨vs, hd⟩ := hf
  have hx : ObjOk X.prog X.w H1 s1.heap dd (.xd fs) := I1.hok dd _ ea
  obtain ⟨mA, hns, hr⟩ := hx
  obtain ⟨od, ho, hl⟩ := lookIn_ns hns
  obtain ⟨u, hu, ru⟩ := RelO.some_of (v := v) (o := mA n) (by rw [← l]; exact hr n)
  have J : PySem.W.InstAt s1.heap a oe C (some od) := ⟨ha, hz.1, by unfold PySem.W.notCls; rw [hd] <;> rfl, by rw [hz.2]; exact ho⟩
  exact HandSPX.exc_get I1.kIn J T.ga T.gg T.exC (PySem.W.findObj_own T.hdC hno rfl (by rw [hl, hu])) (handed_of ru) ⟨v, H1, I1.tok _, ru, q⟩
section
variable {X : Cx} {k j : Nat} {x m : Str} {C : Addr} {sp : L2.Sp} {p pos apos : Pos} {o e : Expr} {es : List Expr} {to : TE} {t : TA} {W : WX}
def tCallX (sp : L2.Sp) (W : WX) (t : TA) : TE := fun σ H Q => t σ H fun vs H1 => sp (vs ++ []) H1 Q (fun cls d H' => W cls d σ H')
theorem pe_fnX (tk : Takes X W) (c : Fnc X.prog X.w X.K X.mg X.base (L2.CX X.prog X.w) k x sp) (hr : Room j X.A) (hk : k ≤ j) (ha : PA X (e :: es) t) (hg : Gl X x := by rfl)
    (he : starEach (e :: es) X.env = (false, eval e X.env) :: starEach es X.env := by rfl) (hpl : (backTo pos (starEach es X.env)).any (·.1) = false := by rfl) (hd : (x == ("__debug__" : Str)) = false := by decide) :
    PE X (.Call (.Name x p) (e :: es) [] pos) (tCallX sp W t) := by
  obtain ⟨f, fd, ps, F, hm, hkp, hb⟩ := c.ex
  refine ⟨fun pins s σ H Q I h => ?_⟩
  refine (pe_callS (E := fun σ cls d H => W cls d σ H) F (hr.mono hk) hg hm hkp hb (passAt tk) ha hd he hpl).run pins s σ H Q I ?_
  have e : tCallX sp W t = tCallS sp (fun σ cls d H => W cls d σ H) t := by
    funext σ H Q
    unfold tCallX tCallS
    congr 1
    funext vs H1
    rw [List.append_nil]
  rw [← e]
  exact h
end
section
variable {K : PySem.W.Frag} {w : Wd} {H : Hp} {Q : VK} {σ : L2.St} {sp : L2.Sp} {W : WX} {to te : TE} {t : TA} {C a dd : Addr} {m f : Str} {cls : Value} {d : Option Addr} {D : Ends}
theorem s_callX (k : t σ H fun vs H1 => sp (vs ++ []) H1 Q (fun cls d H' => W cls d σ H')) : tCallX sp W t σ H Q := k
/-- caught -/
theorem s_wAs {c : Value} {i : Nat} {ts : Addr → Value → Option Addr → TS} {Wout : WX} (e : PySem.W.exmOne K cls c = some true) (k : ∀ a, H a = none → ts a cls d { nx := fun σ' H' => D.nx (σ'.set i none) H', rt := D.rt, bk := fun σ' H' => D.bk (σ'.set i none) H', ct := fun σ' H' => D.ct (σ'.set i none) H' } (σ.set i (some (.ref a))) H) :
    wAs K c i ts Wout D cls d σ H := ⟨true, e, fun _ a ha => k a ha, fun z => by cases z⟩
theorem s_isXc {E2 : Addr} {fs : List (Str × V)} {cC : Addr} {b : Bool} (c : ExcC K E2) (e : PySem.W.kitOne K (.ref E2) (.ref cC) = some b) (h : w.H dd = some (.xd fs)) (k : Q (.bl b) w.H) : rIsU K a (.ref E2) (some dd) [.ref a, .ref cC] w.H Q :=
  .inr ⟨E2, dd, fs, .ref cC, .ref cC, b, rfl, rfl, c, rfl, fun u r => r, e, h, k⟩
theorem s_isXt {E2 : Addr} {fs : List (Str × V)} {T : String} {b : Bool} (c : ExcC K E2) (e : PySem.W.kitOne K (.ref E2) (.type T) = some b) (h : w.H dd = some (.xd fs)) (k : Q (.bl b) w.H) : rIsU K a (.ref E2) (some dd) [.ref a, .ty T] w.H Q :=
  .inr ⟨E2, dd, fs, .ty T, .type T, b, rfl, rfl, c, rfl, fun u r => r, e, h, k⟩
def gXg (K : PySem.W.Frag) (a : Addr) (cls : Value) (d : Option Addr) (f : Str) (x : V) (H1 : Hp) (Q : VK) : Prop := ∃ C : Addr, x = .ref a ∧ cls = .ref C ∧ XfC K C ∧ PySem.W.findIn K (.ref C) f = some none ∧ ∃ (dd : Addr) (fs : List (Str × V)) (v : V), d = some dd ∧ H1 dd = some (.xd fs) ∧ fs.lookup f = some v ∧ Q v H1
theorem s_xg (k : te σ H fun x H1 => gXg K a cls d f x H1 Q) : tXg K a cls d f te σ H Q := k
theorem s_xgv {v : V} {C : Addr} (h : w.H dd = some (.xd [(f, v)])) (x : XfC K C) (n : PySem.W.findIn K (.ref C) f = some none) (k : Q v w.H) : gXg K a (.ref C) (some dd) f (.ref a) w.H Q :=
  ⟨C, rfl, rfl, x, n, dd, _, v, rfl, h, by simp [List.lookup], k⟩
theorem s_ost (k : te σ H fun y H1 => to σ H1 fun x H2 => ∃ a C : Addr, x = .ref a ∧ OexC K C ∧ PySem.W.findIn K (.ref C) f = some none ∧
  ((H2 a = some (exo a C none) ∧ ∀ dx, H2 dx = none → dx ≠ a → D.nx σ (upd (upd H2 dx (exd dx [(f, y)])) a (exo a C (some dx)))) ∨
    ∃ (dx : Addr) (fs : List (Str × V)), H2 a = some (exo a C (some dx)) ∧ H2 dx = some (exd dx fs) ∧ fs.length ≤ 900 ∧ D.nx σ (upd H2 dx (exd dx ((f, y) :: fs))))) : tOst K f to te D σ H := k
/-- the __init__ of an exception class -/
theorem s_veI {ta : TA} (k : ta σ H fun vs H1 => ∃ (a C : Addr) (ws : List V), vs = .ref a :: ws ∧ ws.length ≤ 1000 ∧ OexC K C ∧ H1 a = some (exo a C none) ∧ Q .non H1) : tVeI K ta σ H Q := k
end
theorem kit_self {K : PySem.W.Frag} {A : Addr} : PySem.W.kitOne K (.ref A) (.ref A) = some true := by unfold PySem.W.kitOne; simp
end G
set_option linter.all false
set_option maxRecDepth 100000
namespace G
open PySem L2 TL NumText
def TxD (d : PyData) : Prop := ∀ z, d = .str z → Tx 1000 z
end G
namespace G
open PySem L2
def lastHi (l : Option Int) : List (Int × Int) → Option Int
  | [] => l
  | p :: r => lastHi (some p.2) r
def Sp : Option Int → List (Int × Int) → Prop
  | _, [] => True
  | l, q :: r => q.1 ≤ q.2 ∧ (∀ h, l = some h → h + 2 ≤ q.1) ∧ Sp (some q.2) r
def ins (rows : List (Int × Int)) (n : Int) : Prop := ∃ q ∈ rows, q.1 ≤ n ∧ n ≤ q.2
end G
namespace G
open PySem L2
theorem RpA.bools_inv {S : Hp} {α : Type} {f : α → Bool} : ∀ {vs : List V} {ns : List α}, RpA S vs (ns.map fun q => .bool (f q)) → vs = (ns.map f).map V.bl
  | _, [], h => by cases h; rfl
  | _, n :: ns, h => by
    cases h with
    | cons h1 h2 =>
      cases h1
      rw [RpA.bools_inv h2]
      rfl
end G
set_option linter.all false
set_option maxRecDepth 100000
namespace G
open PySem L2 TL NumText
end G
set_option linter.all false
set_option maxRecDepth 100000
namespace G
open PySem L2 TL NumText
end G
set_option linter.all false
set_option maxRecDepth 100000
namespace G
open PySem L2 TL NumText
end G
set_option linter.all false
set_option maxRecDepth 100000
namespace G
open PySem L2 TL
def wholeB (d : PyData) (lo hi : Int) : Bool := match d with
  | .int n => decide (lo ≤ n) && decide (n ≤ hi)
  | _ => false
theorem whole_no {d : PyData} {lo hi : Int} (h : isNum d = false) : wholeB d lo hi = false := by
  cases d <;> first | rfl | cases h
theorem whole_yes {d : PyData} {lo hi : Int} (h : wholeB d lo hi = true) : ∃ n : Int, d = .int n ∧ lo ≤ n ∧ n ≤ hi := by
  cases d <;> first | cases h | skip
  rename_i n
  unfold wholeB at h
  rw [Bool.and_eq_true, decide_eq_true_eq, decide_eq_true_eq] at h
  exact ⟨n, rfl, h⟩
end G
set_option linter.all false
set_option maxRecDepth 100000
namespace G
open PySem L2
end G
set_option linter.all false
set_option maxRecDepth 100000
namespace L2
open PySem PySem.Spec PyProof.Rows
end L2
namespace G
open PySem L2
end G
set_option linter.all false
set_option maxRecDepth 100000
namespace L2
open PySem PySem.Spec PyProof.Rows
end L2
namespace G
open PySem L2
end G
set_option linter.all false
set_option maxRecDepth 100000
namespace L2
open PySem PySem.Spec PyProof.Rows
section
variable {X : Cx} {f : Addr} {fd : FuncData} {C : Addr} {sp : L2.Sp} {k : Nat} {ps : List Str} {E : St → XK} {CX : CXT}
theorem run_makeS {pins : List (Addr × Obj)} {σ : St} {H : Hp} {s : Shared} {Q : VK} {us : List Value} {vs : List V} (M : Mk X.K C f) (F : FnOk X.prog X.w X.K X.mg X.base CX k f fd ps sp) (hr : Room (k + 1) X.A) (hb : Binds X.K fd ps [])
    (hx : PassesAt CX X σ (E σ)) (I : Inv X pins σ H s) (r : Vals vs us)
    (h : ∀ x dx, H x = none → H dx = none → dx ≠ x → sp (.ref x :: (vs ++ [])) (upd (upd H dx (.own x)) x (.ins C dx [])) (fun v H2 => v = .non ∧ Q (.ref x) H2) (E σ)) :
    wpAny (model X.prog X.w) X.A (call (.ref C) us) (EP X pins σ Q) X.xe s := by
  have hq := h (s.heap.objs.size + 1) s.heap.objs.size (I.hok.fresh (Nat.le_succ _)) (I.hok.fresh (Nat.le_refl _)) (Nat.ne_of_lt (Nat.lt_succ_self _))
  have I2 := Inv.made (C := C) I
  have r2 : Vals (V.ref (s.heap.objs.size + 1) :: (vs ++ [])) (Value.ref (s.heap.objs.size + 1) :: (us ++ [])) := .cons rfl (r.append .nil)
  have hl : (Value.ref (s.heap.objs.size + 1) :: us ++ []).length = ps.length := by
    have e := r2.length
    rw [F.len _ _ _ _ hq] at e
    exact e.symm
  refine wpAny_call (make_map (f := f) I.kIn M.makes M.init (beq_iff_eq.mp M.fn) (codeAny_mono (F.run _ X.stack _ _ ⟨Value.ref (s.heap.objs.size + 1) :: us, []⟩ (Value.ref (s.heap.objs.size + 1) :: (us ++ [])) _ _ (E σ) (hr.make C us [])
    (I2.env0.make C us []) (by have b := hb _ (Value.ref (s.heap.objs.size + 1) :: us) I2.kIn hl; rw [List.cons_append] at b; exact b) r2 hq) fun r s' hq' => ?_))
  cases r with
  | error e => exact hx pins _ _ e s' I2 hq'
  | ok fl =>
    cases fl with
    | ret u =>
      obtain ⟨v, H', I3, rv, ev, q3⟩ := I2.after hq'
      subst ev
      exact ⟨rv, ⟨V.ref (s.heap.objs.size + 1), H', I3, rfl, q3⟩⟩
    | next => exact False.elim hq'
    | brk => exact False.elim hq'
    | cont => exact False.elim hq'
end
end L2
namespace G
open PySem L2 PyProof.Rows
section
variable {X : Cx} {k j : Nat} {x : Str} {C : Addr} {sp : L2.Sp} {p pos : Pos} {e : Expr} {es : List Expr} {t : TA} {W : WX}
def tMakeX (C : Addr) (sp : L2.Sp) (W : WX) (t : TA) : TE := fun σ H Q => t σ H fun vs H1 => rMake C sp (fun cls d H' => W cls d σ H') Q vs H1
theorem pe_mkX (tk : Takes X W) (c : Mkr X.prog X.w X.K X.mg X.base (L2.CX X.prog X.w) C k sp) (hr : Room j X.A) (hk : k + 1 ≤ j) (hm : X.mg x = some (.ref C)) (ha : PA X (e :: es) t) (hg : Gl X x := by rfl)
    (hdb : (x == ("__debug__" : Str)) = false := by decide) (he : starEach (e :: es) X.env = (false, eval e X.env) :: starEach es X.env := by rfl) (hpl : (backTo pos (starEach es X.env)).any (·.1) = false := by rfl) :
    PE X (.Call (.Name x p) (e :: es) [] pos) (tMakeX C sp W t) := by
  obtain ⟨f, fd, ps, F, M, hb⟩ := c.ex
  refine ⟨fun pins s σ H Q I h => ?_⟩
  refine wpAny_Call_Name_kw (ld_glob I hg hm ?_ hdb)
  refine PySem.W.callWith_K (h₀ := X.base) I.ok.mod.kin M.kp (thn (ha.run pos pins s σ H _ I h) fun us s1 ⟨vs, H1, I1, r, q⟩ => ⟨I1.kIn, ?_⟩) he hpl
  exact run_makeS (E := fun σ cls d H => W cls d σ H) M F (hr.mono hk) hb (passAt tk σ) I1 r q
end
section
variable {H : Hp} {Q : VK} {σ : L2.St} {sp : L2.Sp} {W : WX} {t : TA} {C : Addr}
theorem s_makeX (k : t σ H fun vs H1 => rMake C sp (fun cls d H' => W cls d σ H') Q vs H1) : tMakeX C sp W t σ H Q := k
end
end G
set_option linter.all false
set_option maxRecDepth 100000
set_option maxHeartbeats 1000000
namespace G
open PySem L2 PyProof.Rows
/-- B.__init__ read off the class B: an own def -/
structure Bin (P : Program) (w : World) (K : PySem.W.Frag) (mg : Str → Option Value) (base : Heap) (CX : CXT) (C : Addr) (k : Nat) (sp : L2.Sp) : Prop where
  ex : ∃ (f : Addr) (fd : FuncData) (ps : List Str), FnOk P w K mg base CX k f fd ps sp ∧ PySem.W.readsIn K C (.type "type") = true ∧ PySem.W.specialIn K (.ref C) "__getattribute__" = some (some (.builtin "type.__getattribute__")) ∧
    PySem.W.findCls K (.ref C) (.type "type") "__init__" = some (.val (.ref f)) ∧ PySem.W.keepIn K (.ref f) = true ∧ Binds K fd ps []
section
variable {X : Cx} {k j : Nat} {C0 : Addr} {sp : L2.Sp} {p2 pos : Pos} {o e : Expr} {es : List Expr} {t : TA} {W : WX}
theorem pe_bin {pl : Sem Bool} (tk : Takes X W) (c : Bin X.prog X.w X.K X.mg X.base (L2.CX X.prog X.w) C0 k sp) (hr : Room j X.A) (hk : k ≤ j) (he0 : PE X o (tC (.ref C0))) (ha : PA X (e :: es) t)
    (hc : eval (.Call (.Attribute o "__init__" p2) (e :: es) [] pos) X.env = (do
      let ov ← eval o X.env
      standAt p2.atName
      let (f, first) ← holding [ov] (getMethod ov "__init__" pl)
      callWith pos f first (backTo pos (starEach (e :: es) X.env)) (backToKw pos (keywordEach [] X.env))) := by rfl)
    (he : starEach (e :: es) X.env = (false, eval e X.env) :: starEach es X.env := by rfl) (hpl : (backTo pos (starEach es X.env)).any (·.1) = false := by rfl) :
    PE X (.Call (.Attribute o "__init__" p2) (e :: es) [] pos) (tCallX sp W t) := by
  obtain ⟨f, fd, ps, F, rd, ga, fc, kp, hb⟩ := c.ex
  refine ⟨fun pins s σ H Q I h => ?_⟩
  refine PySem.W.methodCall_KW (pl := pl) (thn (he0.run pins s σ H (fun x H1 => x = .ref C0 ∧ tCallX sp W t σ H1 Q) I ⟨rfl, h⟩) fun u s1 ⟨x, H1, I1, rx, ex, q0⟩ => ?_) hc
  subst ex
  obtain rfl : u = Value.ref C0 := rx
  refine PySem.W.method_cls I1.kIn ga (PySem.W.cls_value I1.kIn rd fc (by rfl) ?_)
  refine PySem.W.callWith_K (first := []) (h₀ := X.base) I.ok.mod.kin kp (thn (ha.run pos pins _ σ H1 _ (I1.tok _) q0) fun us s2 ⟨vs, H2, I2, r, q2⟩ => ⟨I2.kIn, ?_⟩) he hpl
  have q3 : sp vs H2 Q (fun cls d H' => W cls d σ H') := by
    have q4 : sp (vs ++ []) H2 Q (fun cls d H' => W cls d σ H') := q2
    rw [List.append_nil] at q4
    exact q4
  exact run_fnS (E := fun σ cls d H => W cls d σ H) (us := us) (vs := vs) F (hr.mono hk) hb (passAt tk σ) I2 r q3
end
section
variable {K : PySem.W.Frag} {w : Wd} {H : Hp} {Q : VK} {σ : L2.St} {W : WX} {to : TE} {t : TA} {a C dx C2 : Addr} {m : Str} {fs : List (Str × V)} {E : XK} {b b1 b2 : Bool} {tp : Addr}
/-- isinstance of an instance of C, asked of the class C2 -/
theorem s_isiCC (h : w.H a = some (.ins C dx fs)) (c : Cls K C) (i : ClsI K C) (e : PySem.W.kitOne K (.ref C) (.ref C2) = some b) (k : Q (.bl b) w.H) : rIsi K [.ref a, .ref C2] w.H Q :=
  ⟨.ref a, .ref C2, .ref C, .ref C2, b, rfl, .own C2, .base (.ins h c i.ha i.hn i.ht i.hm), e, k⟩
/-- .. of two classes -/
theorem s_isiC2 {A B : Addr} (s : w.S tp = some (.tup [.ref A, .ref B])) (h : w.H a = some (.ins C dx fs)) (c : Cls K C) (i : ClsI K C) (e1 : PySem.W.kitOne K (.ref C) (.ref A) = some b1) (e2 : PySem.W.kitOne K (.ref C) (.ref B) = some b2) (k : Q (.bl (b1 || b2)) w.H) :
    rIsiT K [.ref a, .ref tp] w.H Q :=
  ⟨.ref a, tp, _, .ref C, [.ref A, .ref B], _, rfl, w.ok _ _ s, .cons (.own A) (.cons (.own B) .nil), .base (.ins h c i.ha i.hn i.ht i.hm), kit_any2 e1 e2, k⟩
end
end G
set_option linter.all false
set_option maxRecDepth 100000
namespace G
open PySem L2
end G
set_option linter.all false
set_option maxRecDepth 100000
namespace G
open PySem L2
/-- lists of one's own, what they hold -/
structure OL (w : Wd) (ps : List Addr) (ds : List (List PyData)) : Prop where
  l : ps.length = ds.length
  n : ps.Nodup
  o : ∀ (i : Nat) (p : Addr) (d : List PyData), ps[i]? = some p → ds[i]? = some d → ∃ vs, Own w p (.lst vs) ∧ RpA w.S vs d
theorem OL.mem {w : Wd} {ps : List Addr} {ds : List (List PyData)} (h : OL w ps ds) {p : Addr} (hp : p ∈ ps) : ∃ vs, ∃ d ∈ ds, Own w p (.lst vs) ∧ RpA w.S vs d := by
  obtain ⟨i, hi⟩ := List.getElem?_of_mem hp
  have hlt : i < ps.length := (List.getElem?_eq_some_iff.mp hi).1
  obtain ⟨d, hd⟩ : ∃ d, ds[i]? = some d := ⟨_, List.getElem?_eq_getElem (by rw [← h.l]; exact hlt)⟩
  obtain ⟨vs, o, r⟩ := h.o i p d hi hd
  exact ⟨vs, d, List.mem_of_getElem? hd, o, r⟩
/-- the cells of a list of lists -/
def cellsOf (r : Addr) (ps : List Addr) : Addr → Prop := fun b => b = r ∨ b ∈ ps
theorem OL.none {w : Wd} {r : Addr} {ps : List Addr} {xs : List V} {ds : List (List PyData)} (h : OL w ps ds) (o : Own w r (.lst xs)) : ∀ l, cellsOf r ps l → Lnd w l := fun l hl => by
  rcases hl with rfl | hl
  · exact o.lnd
  · obtain ⟨vs, d, _, o, _⟩ := h.mem hl
    exact o.lnd
end G
set_option linter.all false
set_option maxRecDepth 100000
namespace L2
open PySem PySem.Spec PyProof.Rows
end L2
namespace G
open PySem L2
end G
set_option linter.all false
set_option maxRecDepth 100000
namespace L2
open PySem PySem.Spec PyProof.Rows
end L2
namespace L2
open PySem PySem.Spec PyProof.Rows
end L2
namespace L2
open PySem PySem.Spec PyProof.Rows
end L2
namespace G
open PySem L2
end G
set_option linter.all false
set_option maxRecDepth 100000
namespace SU
open PySem PySem.Spec PyProof.Rows L2
end SU
namespace G
open PySem L2 TL SU
end G
set_option linter.all false
set_option maxRecDepth 100000
namespace SU
open PySem PySem.Spec PyProof.Rows L2
end SU
namespace G
open PySem L2 TL SU
end G
set_option linter.all false
set_option maxRecDepth 100000
namespace G
open PySem L2 TL NumText
end G
set_option linter.all false
set_option maxRecDepth 100000
namespace G
open PySem L2 TL NumText
end G
set_option linter.all false
set_option maxRecDepth 100000
namespace G
open PySem L2 TL NumText
def lastOf (R : List (Int × Int)) (i : Nat) : Int := match R[i + 1]? with
  | some q => q.1 - 1
  | none => 1000000000
def pcAt (R : List (Int × Int)) (i : Nat) : Int × Int × Int := ((R.getD i (0, 0)).1, lastOf R i, (R.getD i (0, 0)).2)
end G
set_option linter.all false
set_option maxRecDepth 100000
namespace G
open PySem L2 TL
def stR (R : List (Int × Int)) (lo hi : Int) (i : Nat) : Int × Int := (max (pcAt R i).1 (lo - (pcAt R i).2.2), min (pcAt R i).2.1 (hi - (pcAt R i).2.2))
def strsR (R : List (Int × Int)) (lo hi : Int) (n : Nat) : List (Int × Int) := (List.range n).map (stR R lo hi)
def ne2 (p : Int × Int) : Bool := decide (p.1 ≤ p.2)
structure DInv (R : List (Int × Int)) (lo hi : Int) (i : Nat) (fs : List (Int × Int)) : Prop where
  sp : Sp none fs
  m : ∀ n, ins fs n ↔ ins ((strsR R lo hi i).filter ne2) n
  b : ∀ x, lastHi none fs = some x → ∀ p, R[i]? = some p → x < p.1
  l : fs.length ≤ i
theorem DInv.nil {R : List (Int × Int)} {lo hi : Int} : DInv R lo hi 0 [] := ⟨trivial, fun n => Iff.rfl, (fun x h => by cases h), Nat.le_refl _⟩
end G
set_option linter.all false
set_option maxRecDepth 100000
namespace G
open PySem L2 TL
/-- a good name: one to eight small letters -/
def NmOk0 (z : Str) : Prop := (tl z).length ≤ 8 ∧ tl z ≠ [] ∧ ∀ c ∈ tl z, 97 ≤ c ∧ c ≤ 122
inductive Kd | any | within | att | between | read | joint | sifted
deriving DecidableEq
/-- the classes' addresses -/
structure EC where
  any : Addr
  within : Addr
  att : Addr
  between : Addr
  read : Addr
  joint : Addr
  sifted : Addr
  /-- the kinds that the text has -/
  kds : Kd → Prop
  /-- what closures keep -/
  kp : Hp → Addr → (Int → Bool) → Prop
/-- no closures -/
abbrev noKp : Hp → Addr → (Int → Bool) → Prop := fun _ _ _ => False
def EC.of (c : EC) : Kd → Addr
  | .any => c.any
  | .within => c.within
  | .att => c.att
  | .between => c.between
  | .read => c.read
  | .joint => c.joint
  | .sifted => c.sifted
/-- class a lies under class b -/
def subK : Kd → Kd → Bool
  | _, .any => true
  | .att, .within => true
  | .read, .between => true
  | a, b => decide (a = b)
/-- what an entry's class must have -/
structure Ecl (K : PySem.W.Frag) (C : Addr) : Prop where
  cl : Cls K C
  ci : ClsI K C
  name : NoAttr K C "name"
  place : NoAttr K C "place"
  low : NoAttr K C "low"
  high : NoAttr K C "high"
  known : NoAttr K C "known"
  part : NoAttr K C "part"
  keeps : NoAttr K C "keeps"
def simple : Kd → Prop
  | .joint | .sifted => False
  | _ => True
instance : DecidablePred simple := fun k => by cases k <;> first | exact isTrue trivial | exact isFalse id
abbrev kdAll : Kd → Prop := fun _ => True
structure EK (K : PySem.W.Frag) (c : EC) : Prop where
  sm : ∀ k, simple k → c.kds k
  clA : ∀ k, c.kds k → Ecl K (c.of k)
  kitA : ∀ a b, c.kds a → c.kds b → PySem.W.kitOne K (.ref (c.of a)) (.ref (c.of b)) = some (subK a b)
theorem EK.cl {K : PySem.W.Frag} {c : EC} (h : EK K c) (k : Kd) (s : simple k) : Ecl K (c.of k) := h.clA k (h.sm k s)
theorem EK.kit {K : PySem.W.Frag} {c : EC} (h : EK K c) (a b : Kd) (sa : simple a) (sb : simple b) : PySem.W.kitOne K (.ref (c.of a)) (.ref (c.of b)) = some (subK a b) := h.kitA a b (h.sm a sa) (h.sm b sb)
/-- a simple entry -/
structure Sim where
  k : Kd
  n : Str
  p : Str
  lo : Int
  hi : Int
def fldS (e : Sim) : List (Str × V) := match e.k with
  | .any => [("name", .str e.n)]
  | .within | .att => [("name", .str e.n), ("low", .int e.lo), ("high", .int e.hi)]
  | .between | .read => [("name", .str e.n), ("place", .str e.p), ("low", .int e.lo), ("high", .int e.hi)]
  | .joint | .sifted => []
/-- a simple entry stands at v for good -/
def SimS (K : PySem.W.Frag) (c : EC) (S : Hp) (v : V) (e : Sim) : Prop := EK K c ∧ ∃ x dx, v = .ref x ∧ S x = some (.ins (c.of e.k) dx (fldS e))
theorem SimS.go {K : PySem.W.Frag} {c : EC} {w u : Wd} {v : V} {e : Sim} {m : Addr → Prop} (x : Ext m w u) (h : SimS K c w.S v e) : SimS K c u.S v e := by
  obtain ⟨k, a, dx, rfl, h⟩ := h
  exact ⟨k, a, dx, rfl, st_go x h⟩
def placed : Kd → Prop
  | .between | .read => True
  | _ => False
instance (k : Kd) : Decidable (placed k) := by cases k <;> first | exact isTrue trivial | exact isFalse id
/-- within its bounds -/
def Sim.ok (e : Sim) : Prop := simple e.k ∧ (placed e.k → -10000000000 ≤ e.lo ∧ e.lo ≤ 10000000000 ∧ -10000000000 ≤ e.hi ∧ e.hi ≤ 10000000000) ∧ (e.k = .att ∨ e.k = .read → e.lo = e.hi)
abbrev Tabs := List (Str × List (Int × Int))
def getT {α : Type} (T : List (Str × α)) (z : Str) : Option α := (T.find? fun p => decide (p.1 = z)).map (·.2)
/-- a dict by texts, its values told by P -/
inductive DicR {α : Type} (P : V → α → Prop) : List (Key × V) → List (Str × α) → Prop
  | nil : DicR P [] []
  | cons {v : V} {R : α} {z : Str} {kvs : List (Key × V)} {T : List (Str × α)} : P v R → DicR P kvs T → DicR P ((.inr z, v) :: kvs) ((z, R) :: T)
section
variable {α : Type} {P P' : V → α → Prop}
theorem DicR.len : ∀ {kvs : List (Key × V)} {T : List (Str × α)}, DicR P kvs T → kvs.length = T.length
  | _, _, .nil => rfl
  | _, _, .cons _ t => by rw [List.length_cons, List.length_cons, t.len]
end
def wordK : Kd → Str
  | .any => Str.ofString "any"
  | .within => Str.ofString "within"
  | .att => Str.ofString "at"
  | .between => Str.ofString "between"
  | .read => Str.ofString "read"
  | .joint => Str.ofString "joint"
  | .sifted => Str.ofString "sifted"
theorem word_eq : ∀ a b, decide (wordK a = wordK b) = decide (a = b) := by intro a b; cases a <;> cases b <;> decide +kernel
structure SpecOk (e : Sim) (T : Tabs) : Prop where
  s : simple e.k
  n : NmOk0 e.n
  pl : placed e.k → NmOk0 e.p ∧ (∃ R, getT T e.p = some R) ∧ -10000000000 ≤ e.lo ∧ e.lo ≤ 10000000000 ∧ -10000000000 ≤ e.hi ∧ e.hi ≤ 10000000000
  np : ¬ placed e.k → e.p = Str.ofString "" ∧ 0 ≤ e.lo ∧ e.lo ≤ 1000000000 ∧ 0 ≤ e.hi ∧ e.hi ≤ 1000000000
  an : e.k = .any → e.lo = 0 ∧ e.hi = 1000000000
  at' : e.k = .att ∨ e.k = .read → e.lo = e.hi
theorem SpecOk.ok {e : Sim} {T : Tabs} (h : SpecOk e T) : e.ok := ⟨h.s, fun z => (h.pl z).2.2, h.at'⟩
end G
namespace G
open PySem L2 PyProof.Rows
end G
namespace G
open PySem L2
def pr5 (P : Wd → V → V → V → V → V → VK → XK → Prop) : L2.Sp := fun vs H Q E => ∃ (w : Wd) (a b c d e : V), w.H = H ∧ vs = [a, b, c, d, e] ∧ P w a b c d e Q E
section
variable {vs : List V} {H : Hp} {Q : VK} {E : XK} {w : Wd} {a b c d e : V}
theorem len5 {P} (h : pr5 P vs H Q E) : vs.length = 5 := by obtain ⟨_, _, _, _, _, _, _, rfl, _⟩ := h; rfl
theorem s_pr5 {P} (h : P w a b c d e Q E) : pr5 P ([a, b, c, d, e] ++ []) w.H Q E := ⟨w, a, b, c, d, e, rfl, rfl, h⟩
theorem s_pm4 {P} (h : P w a b c d Q E) : pr4 P (a :: ([b, c, d] ++ [])) w.H Q E := ⟨w, a, b, c, d, rfl, rfl, h⟩
theorem s_pm5 {P} (h : P w a b c d e Q E) : pr5 P (a :: ([b, c, d, e] ++ [])) w.H Q E := ⟨w, a, b, c, d, e, rfl, rfl, h⟩
end
/-- a raise of N(b), from w, m touched -/
def Rz (m : Addr → Prop) (w : Wd) (N : Addr) (b : V) (E : XK) : Prop := ∀ v e, Ext m w v → w.H e = none → Own v e (.xd [(Str.ofString "found", b)]) → E (.ref N) (some e) v.H
end G
set_option linter.all false
set_option maxRecDepth 100000
namespace G
open PySem L2 TL
abbrev NmOk := NmOk0
theorem NmOk0.tx {z : Str} (h : NmOk z) : Tx 8 z := ⟨by have := len_tl z; have := h.1; omega, fun c hc => by have := h.2.2 c hc; omega⟩
def sgl (c : Nat) : Str := ⟨#[c]⟩
theorem join_sgl : ∀ cs : List Nat, tl (Str.join (Str.ofString "") (cs.map sgl)) = cs
  | [] => rfl
  | [c] => rfl
  | c :: d :: r => by
    have ih := join_sgl (d :: r)
    show tl (sgl c ++ Str.ofString "" ++ Str.join (Str.ofString "") ((d :: r).map sgl)) = _
    rw [tl_append, tl_append, ih]
    rfl
theorem tx_sgl {cs : List Nat} (h : ∀ c ∈ cs, 97 ≤ c ∧ c ≤ 122) : ∀ z ∈ cs.map sgl, Tx 1 z := fun z hz => by
  obtain ⟨c, hc, rfl⟩ := List.mem_map.mp hz
  exact Tx.one (by have := h c hc; omega)
theorem letters_tl : tl (Str.ofString "abcdefghijklmnopqrstuvwxyz") = (List.range 26).map (97 + ·) := by decide +kernel
theorem letter_at {j c : Nat} (h : (tl (Str.ofString "abcdefghijklmnopqrstuvwxyz"))[j]? = some c) : c = 97 + j ∧ j < 26 := by
  rw [letters_tl, List.getElem?_map] at h
  obtain ⟨k, hk, rfl⟩ := Option.map_eq_some_iff.mp h
  have hj : j < 26 := by
    by_cases c : j < 26
    · exact c
    · rw [List.getElem?_eq_none (by rw [List.length_range]; omega)] at hk; cases hk
  rw [List.getElem?_range hj] at hk
  cases hk
  exact ⟨rfl, hj⟩
theorem join_sz {cs : List Nat} (hc : ∀ c ∈ cs, 97 ≤ c ∧ c ≤ 122) (hl : cs.length ≤ 1000) : ((cs.map sgl).map (·.length)).sum + (cs.map sgl).length * (Str.ofString "").length ≤ 16777216 := by
  have h1 := tx_sum (tx_sgl hc)
  have h2 : (Str.ofString "").length = 0 := (by decide +kernel)
  rw [h2]
  rw [List.length_map] at h1
  omega
end G
namespace G
open PySem L2
end G
set_option linter.all false
set_option maxRecDepth 100000
set_option maxHeartbeats 1000000
namespace L2
open PySem PySem.Spec PyProof.Rows
end L2
namespace G
open PySem L2 PyProof.Rows
/-- in an except suite -/
def rIsXT (K : PySem.W.Frag) (a : Addr) (cls : Value) (d : Option Addr) : List V → Hp → VK → Prop := fun xs H Q => ∃ (E dd tp : Addr) (fs : List (Str × V)) (cs : List V) (us : List Value) (b : Bool), cls = .ref E ∧ d = some dd ∧ ExcC K E ∧ xs = [.ref a, .ref tp] ∧ H tp = some (.tup cs) ∧ Paired ClsV cs us ∧ PySem.W.kitAny K (.ref E) us = some b ∧
  H dd = some (.xd fs) ∧ Q (.bl b) H
def rIsUT (K : PySem.W.Frag) (a : Addr) (cls : Value) (d : Option Addr) : List V → Hp → VK → Prop := fun xs H Q => rIsiT K xs H Q ∨ rIsXT K a cls d xs H Q
theorem call_isXT {X : Cx} {a : Addr} {cls : Value} {d : Option Addr} {oe : Obj} {pn : List (Addr × Obj)} (hz : Zc cls d oe) (hf : ∃ vs, oe.data = .fields vs) : CallR (X.suite a ((a, oe) :: pn)) (.builtin "isinstance") (rIsXT X.K a cls d) := by
  intro pins s σ H xs us Q I r h
  obtain ⟨E, dd, tp, fs, cs, ws, b, rfl, rfl, C, rfl, hT, k, e, ea, q⟩ := h
  cases r with
  | cons rx rr =>
    cases rr with
    | cons rt rr =>
      cases rr
      cases rx
      cases (show _ = Value.ref tp from rt)
      obtain ⟨hget, _⟩ := I.pin (a, oe) (List.mem_append.mpr (.inl List.mem_cons_self))
      obtain ⟨vs, hv⟩ := hf
      have hx : ObjOk X.prog X.w H s.heap dd (.xd fs) := I.hok dd _ ea
      obtain ⟨mA, hns, hr⟩ := hx
      obtain ⟨od, ho, hlk⟩ := lookIn_ns hns
      have J : PySem.W.InstAt s.heap a oe E (some od) := ⟨hget, hz.1, by unfold PySem.W.notCls; rw [hv] <;> rfl, by rw [hz.2]; exact ho⟩
      obtain ⟨cd, hcl, _⟩ := PySem.W.any_some C.hd
      obtain ⟨_, its, rv, o, h1, h2, n, h3⟩ := (show ObjOk X.prog X.w H s.heap tp (.tup cs) from I.hok tp _ hT)
      have e3 := ClsV.all k rv
      subst e3
      obtain ⟨oc, od2, dt, sl⟩ := o
      simp only at h2 h3
      subst h2 h3
      exact PySem.W.kia_tup (PySem.W.kitx_exc (by rw [hcl]; rfl) C.hg C.hk C.hs C.ha C.hn C.ht C.hm) I.kIn J h1 e (fun z => nomatch z) fun tk => ⟨.bl b, H, I.kept (t' := tk) fun _ _ z => z, rfl, q⟩
theorem call_isUT {X : Cx} {K : PySem.W.Frag} (eK : X.K = K) {a : Addr} {cls : Value} {d : Option Addr} {oe : Obj} {pn : List (Addr × Obj)} (hz : Zc cls d oe) (hf : ∃ vs, oe.data = .fields vs) : CallR (X.suite a ((a, oe) :: pn)) (.builtin "isinstance") (rIsUT K a cls d) := by
  subst eK
  intro pins s σ H xs us Q I r h
  rcases h with h | h
  · exact call_isiT pins s σ H xs us Q I r h
  · exact call_isXT hz hf pins s σ H xs us Q I r h
/-- what isinstance with a tuple of own classes answers -/
inductive KitL (K : PySem.W.Frag) (E : Value) : List V → Bool → Prop
  | nil : KitL K E [] false
  | cons {C : Addr} {cs : List V} {b1 b2 : Bool} : PySem.W.kitOne K E (.ref C) = some b1 → KitL K E cs b2 → KitL K E (.ref C :: cs) (b1 || b2)
theorem KitL.out {K : PySem.W.Frag} {E : Value} {cs : List V} {b : Bool} (h : KitL K E cs b) : ∃ us, Paired ClsV cs us ∧ PySem.W.kitAny K E us = some b := by
  induction h with
  | nil => exact ⟨[], .nil, rfl⟩
  | @cons C cs b1 b2 h1 _ ih =>
    obtain ⟨us, p, e⟩ := ih
    refine ⟨.ref C :: us, .cons (.own C) p, ?_⟩
    unfold PySem.W.kitAny
    rw [h1]
    cases b1 with
    | true => rfl
    | false => exact e
section
variable {K : PySem.W.Frag} {w : Wd} {a dd C tp : Addr} {fs : List (Str × V)} {cs : List V} {b : Bool} {Q : VK}
theorem s_isXT (ec : ExcC K C) (s : w.S tp = some (.tup cs)) (e : KitL K (.ref C) cs b) (h2 : w.H dd = some (.xd fs)) (k : Q (.bl b) w.H) : rIsUT K a (.ref C) (some dd) [.ref a, .ref tp] w.H Q := by
  obtain ⟨us, p, e⟩ := e.out
  exact .inr ⟨C, dd, tp, fs, cs, us, b, rfl, rfl, ec, rfl, w.ok _ _ s, p, e, h2, k⟩
end
end G
set_option linter.all false
set_option maxRecDepth 100000
namespace G
open PySem PySem.Spec L2 TL PyProof.Rows
inductive AllR {β : Type} (P : V → β → Prop) : List V → List β → Prop
  | nil : AllR P [] []
  | cons {v : V} {b : β} {vs : List V} {bs : List β} : P v b → AllR P vs bs → AllR P (v :: vs) (b :: bs)
section
variable {β : Type} {P P' : V → β → Prop}
theorem AllR.mono (h : ∀ v b, P v b → P' v b) : ∀ {vs : List V} {bs : List β}, AllR P vs bs → AllR P' vs bs
  | _, _, .nil => .nil
  | _, _, .cons a t => .cons (h _ _ a) (t.mono h)
theorem AllR.len : ∀ {vs : List V} {bs : List β}, AllR P vs bs → vs.length = bs.length
  | _, _, .nil => rfl
  | _, _, .cons _ t => by rw [List.length_cons, List.length_cons, t.len]
theorem AllR.get {i : Nat} : ∀ {vs : List V} {bs : List β} {v : V}, AllR P vs bs → vs[i]? = some v → ∃ b, bs[i]? = some b ∧ P v b := by
  induction i with
  | zero =>
    intro vs bs v h e
    cases h with
    | nil => cases e
    | cons a t => cases e; exact ⟨_, rfl, a⟩
  | succ i ih =>
    intro vs bs v h e
    cases h with
    | nil => cases e
    | cons a t => exact ih t e
theorem AllR.mem {vs : List V} {bs : List β} {v : V} (h : AllR P vs bs) (hv : v ∈ vs) : ∃ b ∈ bs, P v b := by
  obtain ⟨i, hi⟩ := List.mem_iff_getElem?.mp hv
  obtain ⟨b, h1, h2⟩ := h.get hi
  exact ⟨b, List.mem_of_getElem? h1, h2⟩
end
end G
set_option linter.all false
set_option maxRecDepth 100000
namespace G
open PySem L2 TL
/-- what may be a part -/
inductive Prt
  | sim (e : Sim)
  | sift (n : Str) (e : Sim) (g : Int → Bool)
def Prt.kd : Prt → Kd
  | .sim e => e.k
  | .sift _ _ _ => .sifted
def Prt.nm : Prt → Str
  | .sim e => e.n
  | .sift n _ _ => n
def Prt.base : Prt → Sim
  | .sim e => e
  | .sift _ e _ => e
/-- its places -/
def plZ (e : Sim) : List Str := if placed e.k then [e.p] else []
def Prt.pl (q : Prt) : List Str := plZ q.base
/-- the part of a sifted one -/
def SiftOk (e : Sim) : Prop := e.ok ∧ (e.k = .within ∨ e.k = .att ∨ e.k = .read) ∧ (¬ placed e.k → e.hi - e.lo < 1000 ∧ 0 ≤ e.lo ∧ e.lo ≤ 1000000000 ∧ 0 ≤ e.hi ∧ e.hi ≤ 1000000000)
def Prt.ok : Prt → Prop
  | .sim e => e.ok
  | .sift _ e _ => SiftOk e
inductive Ent
  | prt (q : Prt)
  | joint (n : Str) (qs : List Prt)
def Ent.kd : Ent → Kd
  | .prt q => q.kd
  | .joint _ _ => .joint
def Ent.nm : Ent → Str
  | .prt q => q.nm
  | .joint n _ => n
/-- each once, the first one stays -/
def addZ (acc : List Str) (z : Str) : List Str := if z ∈ acc then acc else acc ++ [z]
def onceZ (zs : List Str) : List Str := zs.foldl addZ []
def Ent.pl : Ent → List Str
  | .prt q => q.pl
  | .joint _ qs => onceZ (qs.flatMap Prt.pl)
def Ent.ok : Ent → Prop
  | .prt q => q.ok
  | .joint _ qs => (∀ q ∈ qs, q.ok) ∧ 0 < qs.length ∧ qs.length ≤ 8
/-- a part stands at v for good -/
def PrtS (K : PySem.W.Frag) (c : EC) (S : Hp) (v : V) : Prt → Prop
  | .sim e => SimS K c S v e
  | .sift n e g => EK K c ∧ c.kds .sifted ∧ ∃ x dx y f, v = .ref x ∧ S x = some (.ins c.sifted dx [("name", .str n), ("part", y), ("keeps", .ref f)]) ∧ SimS K c S y e ∧ ∀ S', Same S S' → c.kp S' f g
theorem SimS.mono {K : PySem.W.Frag} {c : EC} {S S' : Hp} {v : V} {e : Sim} (x : Same S S') (h : SimS K c S v e) : SimS K c S' v e := by
  obtain ⟨k, a, dx, rfl, h⟩ := h
  exact ⟨k, a, dx, rfl, x _ _ h⟩
theorem PrtS.mono {K : PySem.W.Frag} {c : EC} {S S' : Hp} {v : V} {q : Prt} (x : Same S S') (h : PrtS K c S v q) : PrtS K c S' v q := by
  cases q with
  | sim e => exact SimS.mono x h
  | sift n e g =>
    obtain ⟨ek, kd, a, dx, y, f, rfl, h1, h2, h3⟩ := h
    exact ⟨ek, kd, a, dx, y, f, rfl, x _ _ h1, h2.mono x, fun S'' y => h3 S'' fun b o z => y b o (x b o z)⟩
/-- its fields -/
theorem PrtS.ins {K : PySem.W.Frag} {c : EC} {S : Hp} {v : V} {q : Prt} (h : PrtS K c S v q) (ok : q.ok) : EK K c ∧ c.kds q.kd ∧ ∃ x dx fs, v = .ref x ∧ S x = some (.ins (c.of q.kd) dx fs) ∧ fs.lookup ("name" : Str) = some (.str q.nm) ∧ fs.lookup ("spans" : Str) = none ∧ fs.lookup ("word" : Str) = none ∧ fs.lookup ("places" : Str) = none := by
  cases q with
  | sim e =>
    obtain ⟨ek, x, dx, rfl, sx⟩ := h
    refine ⟨ek, ek.sm _ (show e.ok from ok).1, x, dx, _, rfl, sx, ?_⟩
    obtain ⟨k, n, p, lo, hi⟩ := e
    have hs : simple k := (show Sim.ok _ from ok).1
    cases k <;> first | exact hs.elim | exact ⟨rfl, rfl, rfl, rfl⟩
  | sift n e g =>
    obtain ⟨ek, kd, x, dx, y, f, rfl, sx, _⟩ := h
    exact ⟨ek, kd, x, dx, _, rfl, sx, rfl, by rfl, by rfl, by rfl⟩
end G
set_option linter.all false
set_option maxRecDepth 100000
namespace G
open PySem L2 PyProof.Rows
end G
namespace L2
open PySem PyProof.Rows
end L2
namespace G
open PySem L2 PyProof.Rows
theorem s_iRng2 {ta : TA} {σ : L2.St} {H : Hp} {R : It → Hp → Prop} (k : ta σ H fun vs H1 => ∃ i j : Int, vs = [.int i, .int j] ∧ (-(2 ^ 62) ≤ i ∧ i < 2 ^ 62 ∧ -(2 ^ 62) ≤ j ∧ j < 2 ^ 62) ∧ R (Itr i (j - i).toNat) H1) : iRng2 ta σ H R := k
end G
set_option linter.all false
set_option maxRecDepth 100000
namespace L2
open PySem PySem.Spec PyProof.Rows
end L2
namespace G
open PySem L2
end G
set_option linter.all false
set_option maxRecDepth 100000
namespace L2
open PySem PySem.Spec PyProof.Rows
def rEqL0 : R2 := fun x y H Q => ∃ a b xs, x = .ref a ∧ y = .ref b ∧ H a = some (.lst xs) ∧ H b = some (.lst []) ∧ Q (.bl xs.isEmpty) H
theorem op_eq_l0 {X : Cx} (hu : X.A.units < cLine) : OpR X (compareOp .Eq) rEqL0 := by
  intro pins s σ H x y v u Q I rx ry h
  obtain ⟨a, b, xs, rfl, rfl, ea, eb, q⟩ := h
  obtain rfl : v = Value.ref a := rx
  obtain rfl : u = Value.ref b := ry
  obtain ⟨_, ia, na, ra, ga⟩ := (show ObjOk X.prog X.w H s.heap a (.lst xs) from I.hok a _ ea)
  obtain ⟨_, ib, nb, rb, gb⟩ := (show ObjOk X.prog X.w H s.heap b (.lst []) from I.hok b _ eb)
  have l1 := ra.length
  have l2 := rb.length
  have ha : s.heap.IsList a ia.toArray := ⟨_, ga, rfl, na, rfl⟩
  have hb : s.heap.IsList b ib.toArray := ⟨_, gb, rfl, nb, rfl⟩
  have s2 : ib.toArray.size = 0 := by rw [List.size_toArray, ← l2]; rfl
  cases xs with
  | nil =>
    have s1 : ia.toArray.size = 0 := by rw [List.size_toArray, ← l1]; rfl
    refine SeqAt.eq_listAt (e := fun _ => true) ha hb (by rw [s1, s2]) hu (fun j h1 _ => by omega) (fin_bl I q ?_)
    rw [s1]
    rfl
  | cons x r =>
    have s1 : ia.toArray.size = r.length + 1 := by rw [List.size_toArray, ← l1]; rfl
    exact SeqAt.eq_list_lengthsAt ha hb (by rw [s1, s2]; simp) hu (fin_bl I q rfl)
end L2
namespace G
open PySem L2 PyProof.Rows
theorem kEqL0 {X : Cx} (hu : X.A.units + 64 < cLine) : OpR X (compareOp .Eq) rEqL0 := op_eq_l0 (by omega)
theorem s_eqL0 {w : Wd} {a b : Addr} {xs : List V} {Q : VK} (h : w.H a = some (.lst xs)) (n : w.H b = some (.lst [])) (k : Q (.bl xs.isEmpty) w.H) : rEqL0 (.ref a) (.ref b) w.H Q := ⟨a, b, xs, rfl, rfl, h, n, k⟩
end G
namespace G
open PySem L2 PyProof.Rows
end G
set_option linter.all false
set_option maxRecDepth 100000
namespace G
open PySem L2
structure SelfC (K : PySem.W.Frag) (C : Addr) : Prop where
  eq : PySem.W.findIn K (.ref C) "__eq__" = some (some (.builtin "object.__eq__"))
  ob : PySem.W.mroIn K C (.type "object") = some true
section
variable {prog : Program} {w : World} {A : Around} {E : Value → Shared → Prop} {s : Shared} {K : PySem.W.Frag} {x C : Addr} {ox : Obj} {od : Option Obj}
theorem call_objEq {Q : Value → Shared → Prop} (X : K.In s.heap) (J : PySem.W.InstAt s.heap x ox C od) (c : SelfC K C) (h : Q (.bool true) s) : wpAny (model prog w) A (call (.builtin "object.__eq__") ([.ref x] ++ [.ref x])) Q E s := by
  have iv : PySem.W.Looks (model prog w) s.heap (isInstance (.ref x) (.type "object")) true := J.type.andThen (PySem.W.looks_mroIn X c.ob)
  exact wpAny_call (codeAny_call_builtin F.cmp_object.eq.plain F.cmpEntry_eq (@PySem.W.check_slot (model prog w) _ _ _ "object.__eq__" "object" "__eq__" (.ref x) [.ref x] [] _ (by decide +kernel) (by decide +kernel) iv (F.cmpArgs_eq _ _) (objEq_entry_same h)))
theorem rc_ins_self {Q : Value → Shared → Prop} (X : K.In s.heap) (J : PySem.W.InstAt s.heap x ox C od) (c : SelfC K C) (hu : A.units < cLine) (h : Q (.bool true) s) : wpAny (model prog w) A (richCompare .Eq (.ref x) (.ref x)) Q E s := by
  have tv : PySem.W.Looks (model prog w) s.heap (typeOf (.ref x)) (.ref C) := J.type
  have sp : PySem.W.Looks (model prog w) s.heap (specialOf (.ref x) "__eq__") (some (.builtin "object.__eq__")) := tv.andThen (PySem.W.looks_findIn X c.eq)
  have tc : ∀ {Q : Option Value → Shared → Prop}, Q (some (.bool true)) s → wpAny (model prog w) A (tryCompare (.ref x) "__eq__" (.ref x)) Q E s := fun {Q} hq => by
    simp only [tryCompare]
    exact wpAny_bind (NtL.csib sp (F.cmp_object.eq.bind _) (call_objEq X J c (wpAny_pure hq)))
  simp only [richCompare, cmpInfo_Eq, oneThing_ref]
  repeat (first | with_reducible refine wpAny_cRoomFor hu ?_ | with_reducible refine wpAny_bind (tv.here ?_) | (with_reducible refine wpAny_bind (tc ?_)) | wp_step)
  exact h
end
section
/-- an object that is == itself -/
def SelfO (K : PySem.W.Frag) (H : Hp) (a : Addr) : Prop := (∃ xs, SqL K H a xs) ∨ (∃ xs, SqT K H a xs) ∨ H a = some (.dK []) ∨ ∃ C dx fs, H a = some (.ins C dx fs) ∧ Cls K C ∧ SelfC K C
def rSelf (K : PySem.W.Frag) : R2 := fun x y H Q => ∃ a, x = .ref a ∧ y = .ref a ∧ SelfO K H a ∧ Q (.bl true) H
theorem op_self {X : Cx} (hu : X.A.units + 64 < cLine) : OpR X (compareOp .Eq) (rSelf X.K) := by
  intro pins s σ H x y v u Q I rx ry h
  obtain ⟨a, rfl, rfl, ho, q⟩ := h
  obtain rfl : v = Value.ref a := rx
  obtain rfl : u = Value.ref a := ry
  have hu0 : X.A.units < cLine := by omega
  rcases ho with ⟨xs, h1⟩ | ⟨xs, h1⟩ | h1 | ⟨C, dx, fs, h1, cl, sc⟩
  · obtain ⟨its, r, p, _⟩ := I.list h1
    refine SeqAt.eq_listAt (e := fun _ => true) p.isList p.isList rfl hu0 (fun j h1 _ => SeqAt.EqAt.same _) (fin_bl I q ?_)
    rw [List.all_eq_true.mpr fun _ _ => rfl]
  · obtain ⟨its, r, p, _⟩ := I.tuple h1
    refine SeqAt.eq_tupleAt (e := fun _ => true) (show s.heap.IsTuple a its.toArray from p) (show s.heap.IsTuple a its.toArray from p) hu0 (fun j h1 _ => SeqAt.EqAt.same _) (fin_bl I q ?_)
    rw [List.all_eq_true.mpr fun _ _ => rfl]
    simp
  · exact op_eq_dictA hu0 pins s σ H (.ref a) (.ref a) (.ref a) (.ref a) Q I rfl rfl ⟨a, a, [], [], rfl, rfl, h1, h1, rfl, (fun p hp => by cases hp), q⟩
  · obtain ⟨mA, O, _⟩ := ins_get I.hok h1
    obtain ⟨od, J, _⟩ := O.look
    exact PySem.W.cmp_ofEq (rc_ins_self I.kIn J sc hu0 (fin_bl I q rfl))
def gEqS (K : PySem.W.Frag) : R2 := fun x y H Q => gEq K x y H Q ∨ rSelf K x y H Q
theorem kEqS {X : Cx} (K : PySem.W.Frag) (hu : X.A.units + 64 < cLine) (eK : X.K = K := by rfl) : OpR X (compareOp .Eq) (gEqS K) := eK ▸ (g_eq hu).or (op_self hu)
variable {K : PySem.W.Frag} {w : Wd} {Q : VK} {x y : V}
theorem s_eqSg (k : gEq K x y w.H Q) : gEqS K x y w.H Q := .inl k
theorem s_eqSr {a : Addr} (h : SelfO K w.H a) (k : Q (.bl true) w.H) : gEqS K (.ref a) (.ref a) w.H Q := .inr ⟨a, rfl, rfl, h, k⟩
/-- a thing that is == itself -/
def SelfV (K : PySem.W.Frag) (H : Hp) : V → Prop
  | .ref a => SelfO K H a
  | .non => True | .bl _ => True | .int _ => True | .str _ => True
  | _ => False
theorem s_eqSv (h : SelfV K w.H x) (k : Q (.bl true) w.H) : gEqS K x x w.H Q := by
  cases x with
  | ref a => exact s_eqSr h k
  | non => exact .inl (s_eqR (d1 := .none) (d2 := .none) .non .non rfl rfl k)
  | bl b => exact .inl (s_eqR (d1 := .bool b) (d2 := .bool b) (.bl _) (.bl _) rfl rfl (by rw [eqv_self rfl]; exact k))
  | int b => exact .inl (s_eqR (d1 := .int b) (d2 := .int b) (.int _) (.int _) rfl rfl (by rw [eqv_self rfl]; exact k))
  | str b => exact .inl (s_eqS (by rw [decide_eq_true rfl]; exact k))
  | _ => exact h.elim
end
section
variable {K : PySem.W.Frag} {w : Wd} {H : Hp} {Q : VK} {x : V} {t : Value} {C : Addr} {b : Bool}
theorem TyOf.up {S H : Hp} (h : ∀ a o, S a = some o → H a = some o) (k : TyOf K S x t) : TyOf K H x t := by
  cases k with
  | non => exact .non
  | bl z => exact .bl z
  | int z => exact .int z
  | str z => exact .str z
  | flt z => exact .flt z
  | lst e => exact .lst (h _ _ e)
  | frz e => exact .frz (h _ _ e)
  | tup e => exact .tup (h _ _ e)
  | dK e => exact .dK (h _ _ e)
  | dT e => exact .dT (h _ _ e)
  | ins e a1 a2 a3 a4 a5 => exact .ins (h _ _ e) a1 a2 a3 a4 a5
theorem s_isTo (ty : TyOf K H x t) (e : PySem.W.kitOne K t (.ref C) = some b) (k : Q (.bl b) H) : rIsi K [x, .ref C] H Q := ⟨x, .ref C, t, .ref C, b, rfl, .own C, .base ty, e, k⟩
theorem s_isTt {T : String} (ty : TyOf K H x t) (e : PySem.W.kitOne K t (.type T) = some b) (k : Q (.bl b) H) : rIsi K [x, .ty T] H Q := ⟨x, .ty T, t, .type T, b, rfl, .ty T, .base ty, e, k⟩
theorem s_isT2 {tp A B : Addr} {b1 b2 : Bool} (s : w.S tp = some (.tup [.ref A, .ref B])) (ty : TyOf K w.H x t) (e1 : PySem.W.kitOne K t (.ref A) = some b1) (e2 : PySem.W.kitOne K t (.ref B) = some b2) (k : Q (.bl (b1 || b2)) w.H) : rIsiT K [x, .ref tp] w.H Q := by
  refine ⟨x, tp, [.ref A, .ref B], t, [.ref A, .ref B], b1 || b2, rfl, w.ok _ _ s, .cons (.own A) (.cons (.own B) .nil), .base ty, ?_, k⟩
  unfold PySem.W.kitAny PySem.W.kitAny PySem.W.kitAny
  rw [e1, e2]
  cases b1 <;> cases b2 <;> rfl
end
section
variable {K : PySem.W.Frag} {w : Wd} {Q : VK} {a : Addr}
theorem s_lix {ys : List Str} {z : Str} {j : Nat} (h : SqL K w.H a (ys.map V.str)) (e : ys[j]? = some z) (n : ∀ m, m < j → ys[m]? ≠ some z) (k : Q (.int (j : Nat)) w.H) : rIndex K (.ref a) [.str z] w.H Q := by
  refine ⟨a, _, .str z, j, .str z, rfl, rfl, h, rfl, List.all_eq_true.mpr fun x hx => ?_, by rw [List.getElem?_map, e]; rfl, by unfold eqV; simp, fun m z' hm hz => ?_, k⟩
  · obtain ⟨y, _, rfl⟩ := List.mem_map.mp hx
    rfl
  · rw [List.getElem?_map] at hz
    obtain ⟨y, hy, rfl⟩ := Option.map_eq_some_iff.mp hz
    have := n m hm
    unfold eqV
    simp only [decide_eq_false_iff_not, beq_eq_false_iff_ne, ne_eq]
    intro e
    exact this (by rw [hy, e])
end
end G
set_option Elab.async false
set_option linter.all false
set_option maxRecDepth 100000
set_option maxHeartbeats 4000000
open PySem L2 G TL NumText
local macro_rules | `(tactic| wtm_at "nm") => `(tactic| first
  | exact fun h => h
  | (refine nm_one ?_; wtm_at "ne")
  | (refine nm_two ?_ ?_ <;> wtm_at "ne")
  | (refine nm_thr ?_ ?_ ?_ <;> wtm_at "ne")
  | fail "nm")
local macro_rules | `(tactic| wtm_at "rd0") => `(tactic| first
  | assumption
  | (refine' Rd.go (by assumption) ?nm ?rd; (case nm => wtm_at "nm"); (case rd => wtm_at "rd0"))
  | fail "rd0")
local macro_rules | `(tactic| wtm_at "rd") => `(tactic| first
  | wtm_at "rd0"
  | (refine' Or.inl ?o; (case o => wtm_at "stb"))
  | (refine' Or.inr ?o; (case o => wtm_at "own"))
  | fail "rd")
local macro_rules | `(tactic| wtm_at "ne") => `(tactic| first
  | assumption
  | exact Ne.symm (by assumption)
  | (refine' Own.ne ?o ?n; (case n => assumption); (case o => wtm_at "own"))
  | (refine' Own.ne' ?o ?n; (case n => assumption); (case o => wtm_at "own"))
  | (refine' own_ne ?o1 ?o2 ?d; (case o1 => assumption); (case o2 => assumption); (case d => exact fun z => by cases z))
  | (refine' Rd.ne ?o ?n; (case n => assumption); (case o => wtm_at "rd0"))
  | (refine' Rd.ne' ?o ?n; (case n => assumption); (case o => wtm_at "rd0"))
  | fail "ne")
local macro_rules | `(tactic| wtm_at "own") => `(tactic| first
  | assumption
  | (refine' Own.ext (by assumption) ?nm ?ow; (case nm => wtm_at "nm"); (case ow => wtm_at "own"))
  | fail "own")
local macro_rules | `(tactic| wtm_at "stb") => `(tactic| first
  | assumption
  | (refine' st_go (by assumption) ?st; (case st => wtm_at "stb"))
  | fail "stb")
local macro_rules | `(tactic| wtm_at "rp") => `(tactic| first
  | assumption
  | exact Rp.int _ | exact Rp.str _ | exact Rp.bl _ | exact Rp.non
  | (refine' Rp.tup ?s ?r; (case s => wtm_at "stb"); (case r => wtm_at "rpa"))
  | (refine' Rp.lst ?s ?r; (case s => wtm_at "stb"); (case r => wtm_at "rpa"))
  | (refine' Rp.dct ?s; (case s => wtm_at "stb"))
  | (refine' Rp.go (by assumption) ?rp; (case rp => wtm_at "rp"))
  | fail "rp")
local macro_rules | `(tactic| wtm_at "rpa") => `(tactic| first
  | assumption
  | exact RpA.nil
  | (refine' RpA.append ?r1 ?r2; (case r1 => wtm_at "rpa"); (case r2 => wtm_at "rpa"))
  | (refine' RpA.cut ?r1 _ _; (case r1 => wtm_at "rpa"))
  | (refine' RpA.reverse ?r1; (case r1 => wtm_at "rpa"))
  | (refine' RpA.cons ?r1 ?r2; (case r1 => wtm_at "rp"); (case r2 => wtm_at "rpa"))
  | (refine' RpA.go (by assumption) ?rp; (case rp => wtm_at "rpa"))
  | fail "rpa")
local macro_rules | `(tactic| wtm_at "sq") => `(tactic| first
  | assumption
  | (refine' SqL.of (Wd.ok _ _ _ ?o); (case o => wtm_at "stb"))
  | (refine' SqL.of (Own.h ?o); (case o => wtm_at "own"))
  | (refine' sq_go (by assumption) ?sq; (case sq => wtm_at "sq"))
  | (refine' SqL.of (Rd.h ?o); (case o => wtm_at "rd0"))
  | fail "sq")
local macro_rules | `(tactic| wtm_at "sqt") => `(tactic| first
  | assumption
  | (refine' sqt_of ?o; (case o => wtm_at "stb"))
  | fail "sqt")
/-- from the world w at hand back to an earlier one: the touched cells are new to it, or may be touched -/
local macro_rules | `(tactic| wtm_at "fr") => `(tactic| first
  | assumption
  | (refine' Ext.back (by assumption) ?fr; (case fr => wtm_at "fr"))
  | fail "fr")
local macro_rules | `(tactic| wtm_at "tch") => `(tactic| first
  | exact fun _ z => z.elim
  | (refine tch_one ?t; (first | (refine Or.inr ?_; first | rfl | exact Or.inl rfl | exact Or.inr rfl | exact Or.inr (Or.inl rfl) | exact Or.inr (Or.inr rfl)) | (refine Or.inl ?_; wtm_at "fr")))
  | (refine tch_two ?t1 ?t2 <;> (first | (refine Or.inr ?_; first | rfl | exact Or.inl rfl | exact Or.inr rfl | exact Or.inr (Or.inl rfl) | exact Or.inr (Or.inr rfl)) | (refine Or.inl ?_; wtm_at "fr")))
  | (refine tch_thr ?t1 ?t2 ?t3 <;> (first | (refine Or.inr ?_; first | rfl | exact Or.inl rfl | exact Or.inr (Or.inl rfl) | exact Or.inr (Or.inr rfl)) | (refine Or.inl ?_; wtm_at "fr")))
  | fail "tch")
local macro_rules | `(tactic| wtm_at "ch") => `(tactic| first
  | exact Ext.refl _ _
  | assumption
  | (refine' Ext.step ?a ?b ?t; (case b => assumption); (case a => wtm_at "ch"); (case t => wtm_at "tch"))
  | fail "ch")
local macro_rules | `(tactic| wtm_at "lb") => `(tactic| first
  | (refine' len_app ?a ?b; (case a => wtm_at "lb"); (case b => wtm_at "lb"))
  | (refine' len_cut ?a; (case a => wtm_at "lb"))
  | (refine' len_rev ?a; (case a => wtm_at "lb"))
  | exact Nat.le_refl _
  | fail "lb")
local macro_rules | `(tactic| wtm_at "ar") => `(tactic| first
  | assumption | omega | (simp only [List.length_append, List.length_cons, List.length_nil, List.length_map, List.length_reverse, List.length_replicate, sizeLine_eq]; omega)
  | (refine' z_cat ?h1 ?h2 ?k; (case h1 => wtm_at "lb"); (case h2 => wtm_at "lb"); (case k => (simp only [List.length_append, List.length_cons, List.length_nil, List.length_map, List.length_reverse, sizeLine_eq]; omega)))
  | fail "ar")
local macro_rules | `(tactic| wtm_at "go1") => `(tactic| first
  | with_reducible refine s_seq ?_
  | with_reducible refine s_asg ?_
  | ((with_reducible refine' s_gname ?e ?k); (case e => first | (simp only [List.set_cons_succ, List.set_cons_zero]; exact rfl) | exact rfl))
  | ((with_reducible refine' s_var ?e ?k); (case e => exact rfl))
  | with_reducible refine s_c ?_
  | with_reducible refine s_op ?_
  | with_reducible refine s_CB ?_
  | with_reducible refine s_cons ?_
  | with_reducible refine s_nil ?_
  | with_reducible refine s_ifS ?_
  | with_reducible refine s_test ?_
  | with_reducible refine s_B ?_
  | with_reducible refine s_bl ?_
  | with_reducible refine s_and ?_
  | with_reducible refine s_or ?_
  | with_reducible refine s_not ?_
  | with_reducible refine s_andV ?_
  | with_reducible refine s_orV ?_
  | with_reducible refine s_notV ?_
  | with_reducible refine s_ret ?_
  | with_reducible refine s_retN ?_
  | with_reducible refine s_next ?_
  | with_reducible refine s_drop ?_
  | with_reducible refine s_call ?_
  | with_reducible refine s_add ?_
  | with_reducible refine s_sub ?_
  | ((with_reducible refine s_mul ?h ?k); (case h => wtm_at "mul"))
  | ((with_reducible refine s_div ?h ?k); (case h => wtm_at "div"))
  | ((with_reducible refine s_mod ?h ?k); (case h => wtm_at "ar"))
  | ((with_reducible refine' s_powN ?h ?e ?k); (case h => exact ⟨by decide, by decide, by decide⟩); (case e => first | exact p10_8 | exact p10_18 | exact p10_30 | exact p10_22 | exact p10_6 | exact p10_9 | exact p10_10 | exact p10_12 | exact p10_14 | exact p10_15 | exact p10_7 | exact p10_25 | exact p10_27 | exact p10_29 | exact p10_11 | exact p10_1 | exact p10_2 | exact p10_3 | exact p10_4 | exact p10_5 | exact p10_13 | exact p10_16 | exact p10_17 | exact p10_19 | exact p10_20 | exact p10_21 | exact p10_23 | exact p10_24 | exact p10_26 | exact p10_28 | exact p10_31))
  | with_reducible refine s_lt ?_
  | with_reducible refine s_le ?_
  | with_reducible refine s_gt ?_
  | with_reducible refine s_ge ?_
  | with_reducible refine s_eqI ?_
  | with_reducible refine s_eqS ?_
  | with_reducible refine s_eqB ?_
  | with_reducible refine s_neI ?_
  | with_reducible refine s_neS ?_
  | with_reducible refine s_neBs ?_
  | with_reducible refine s_isB ?_
  | with_reducible refine s_notB ?_
  | ((with_reducible refine' s_ninS2 ?r ?k); (case r => wtm_at "stb"))
  | with_reducible refine s_iEnum ?_
  | ((with_reducible refine' s_isiC ?h ?c ?i ?k); (case h => wtm_at "hh"); (case c => assumption); (case i => assumption))
  | with_reducible refine s_isNN ?_
  | with_reducible refine s_isIN ?_
  | with_reducible refine s_isRN ?_
  | with_reducible refine s_isSN ?_
  | with_reducible refine s_notNN ?_
  | with_reducible refine s_notIN ?_
  | with_reducible refine s_notRN ?_
  | with_reducible refine s_notSN ?_
  | with_reducible refine s_isN ?_
  | with_reducible refine s_notN ?_
  | with_reducible refine s_max ?_
  | ((with_reducible refine' s_str ?h ?k); (case h => exact log_small (by omega) (by omega)))
  | with_reducible refine s_min ?_
  | with_reducible refine s_abs ?_
  | with_reducible refine s_inti ?_
  | with_reducible refine s_intt ?_
  | with_reducible refine s_intf ?_
  | with_reducible refine s_intb ?_
  | with_reducible refine s_un ?_
  | with_reducible refine s_neg ?_
  | with_reducible refine t_tup ?_
  | with_reducible refine t_lst ?_
  | ((with_reducible refine' t_newT ?h ?k); (case h => wtm_at "len"); (intro _p _v _e _n _s))
  | ((with_reducible refine' t_newL ?h ?k); (case h => wtm_at "len"); (intro _p _v _e _n _o))
  | with_reducible refine s_chain ?_
  | with_reducible refine s_ifE ?_
  | with_reducible refine s_sl ?_
  | with_reducible refine s_nopart ?_
  | with_reducible refine s_part ?_
  | with_reducible refine s_int ?_
  | with_reducible refine s_dget ?_
  | with_reducible refine s_dput ?_
  | with_reducible refine s_BM ?_
  | with_reducible refine s_BM0 ?_
  | with_reducible refine s_for ?_
  | with_reducible refine s_iList ?_
  | with_reducible refine s_iTup ?_
  | with_reducible refine s_iRng1 ?_
  | with_reducible refine s_iStr ?_
  | with_reducible refine s_Lc ?_
  | with_reducible refine s_pr1 ?_
  | with_reducible refine s_pr2 ?_
  | with_reducible refine s_pr3 ?_
  | with_reducible refine s_pr4 ?_
  | with_reducible refine s_pr0 ?_
  | with_reducible refine wds_i ?_
  | wtm_at "isi"
  | ((with_reducible refine' s_lenT ?r ?k); (case r => wtm_at "stb"))
  | ((with_reducible refine' s_lenL ?r ?k); (case r => wtm_at "stb"))
  | ((with_reducible refine' s_lenO ?r ?k); (case r => wtm_at "own"))
  | ((with_reducible refine' s_ixT ?r ?e ?k); (case r => wtm_at "stb"); (case e => exact rfl))
  | ((with_reducible refine' s_ixL ?r ?e ?k); (case r => wtm_at "stb"); (case e => exact rfl))
  | ((with_reducible refine' s_ixO ?r ?e ?k); (case r => wtm_at "own"); (case e => exact rfl))
  | ((with_reducible refine' s_ixO ?r ?e ?k); (case r => wtm_at "own"); (case e => exact atI_snoc))
  | ((with_reducible refine' s_ixO ?r ?e ?k); (case r => wtm_at "own"); (case e => exact atI_back (by simp)))
  | ((with_reducible refine' s_gtup ?r ?e ?k); (case r => wtm_at "stb"); (case e => exact rfl))
  | ((with_reducible refine' s_lenR ?r ?k); (case r => wtm_at "rd0"))
  | ((with_reducible refine' s_ixA ?r ?e ?k); (case r => wtm_at "rd0"); (case e => assumption))
  | ((with_reducible refine' s_augA ?e ?e2 ?k); (case e => exact rfl); (case e2 => (simp only [List.set_cons_succ, List.set_cons_zero]; exact rfl)))
  | with_reducible refine s_whN ?_
  | ((with_reducible refine' s_fnv ?k); (intro _f _hf))
  | ((with_reducible refine' s_callH ?e ?h ?k); (case e => exact rfl); (case h => assumption))
  | with_reducible refine s_pn1 ?_
  | ((with_reducible refine' s_lenZ ?h ?k); (case h => wtm_at "txz"))
  | ((with_reducible refine' s_addZ ?h ?k); (case h => wtm_at "txs"))
  | ((with_reducible refine' s_slZ ?h ?k); (case h => wtm_at "txz"))
  | with_reducible refine s_inZ ?_
  | with_reducible refine s_ninZ ?_
  | with_reducible refine s_leZ ?_
  | with_reducible refine s_fld ?_
  | ((with_reducible refine' s_rfld ?h ?c ?n ?l ?k); (case h => wtm_at "hh"); (case c => assumption); (case n => assumption); (case l => wtm_at "lkp"))
  | with_reducible refine s_sfld ?_
  | ((with_reducible refine' s_rsfl ?h ?c ?n ?z ?e ?k); (case h => wtm_at "own"); (case c => assumption); (case n => assumption); (case z => (simp only [List.length_cons, List.length_nil]; try omega)); (case e => wtm_at "pf"); (intro _v _e _o))
  | with_reducible refine s_meth ?_
  | ((with_reducible refine' s_rmeth ?h ?l ?k); (case h => wtm_at "hh"); (case l => wtm_at "lkp"))
  | with_reducible refine s_make ?_
  | with_reducible refine s_pm1 ?_
  | with_reducible refine s_pm2 ?_
  | with_reducible refine s_pm3 ?_
  | ((with_reducible refine' s_isiT2 ?s ?h ?e1 ?e2 ?k); (case s => wtm_at "stb"); (case h => wtm_at "rp"); (case e1 => first | exact isT_list _ | exact isT_tup _); (case e2 => first | exact isT_list _ | exact isT_tup _))
  | with_reducible refine s_CKw ?_
  | with_reducible refine s_iRev ?_
  | with_reducible refine s_iZip ?_
  | ((with_reducible refine' s_iRevK ?h ?k); (case h => wtm_at "hh"))
  | ((with_reducible refine' s_ins0 ?r ?z ?k); (case r => wtm_at "own"); (case z => wtm_at "ar"); (intro _v _e _o))
  | ((with_reducible refine' s_pop ?r ?k); (case r => wtm_at "own"); (intro _v _e _o))
  | ((with_reducible refine' s_setB ?r ?k); (case r => wtm_at "own"); (intro _v _e _o))
  | with_reducible refine s_gcons ?_
  | with_reducible refine s_gnil ?_
  | with_reducible refine s_gsub ?_
  | with_reducible refine t_rev ?_
  | ((with_reducible refine' s_ty ?r ?k); (case r => wtm_at "own"))
  | with_reducible refine s_tyS ?_
  | with_reducible refine s_m1 ?_
  | with_reducible refine s_isS ?_
  | ((with_reducible refine' s_app ?r ?z ?k); (case r => wtm_at "own"); (case z => wtm_at "ar"); (intro _v _e _o))
  | ((with_reducible refine' s_clear ?r ?k); (case r => wtm_at "own"); (intro _v _e _o))
  | ((with_reducible refine' s_reverse ?r ?k); (case r => wtm_at "own"); (intro _v _e _o))
  | ((with_reducible refine' s_divmod ?r ?k); (case r => exact ⟨by decide, by decide⟩); (intro _p _v _e _n _s))
  | ((with_reducible refine' s_allO ?r ?k); (case r => wtm_at "own"))
  | ((with_reducible refine' s_anyO ?r ?k); (case r => wtm_at "own"))
  | ((with_reducible refine' ⟨_, _, rfl, dgetS ?r ?e, ?k⟩); (case r => wtm_at "own"); (case e => wtm_at "valv"))
  | ((with_reducible refine' s_dputS ?r ?e ?z ?k); (case r => wtm_at "own"); (case e => wtm_at "putv"); (case z => wtm_at "len"); (intro _v _e _o))
  | with_reducible refine t_disp ?_
  | with_reducible refine s_pnil ?_
  | with_reducible refine s_pcons ?_
  | ((with_reducible refine' s_dnew ?k); (intro _p _v _e _n _o))
  | ((with_reducible refine' s_setL ?r ?e ?k); (case r => wtm_at "own"); (case e => exact rfl); (intro _v _e _o))
  | ((refine' ⟨_, rfl, ⟨_, ?r⟩, ?k⟩); (case r => first | wtm_at "sq" | wtm_at "sqt"))
  | ((refine' ⟨_, rfl, ?r1, ?r2, ?k⟩); (case r1 => show (-(2 ^ 62) : Int) ≤ _; omega); (case r2 => show _ < (2 ^ 62 : Int); omega))
  | ((with_reducible refine' s_idxF ?h1 ?h2 ?k); (case h1 => omega); (case h2 => omega))
  | with_reducible refine s_zf2 ?_
  | with_reducible refine s_jn ?_
  | with_reducible refine s_js ?_
  | with_reducible refine s_js0 ?_
  | with_reducible refine s_fmt ?_
  | ((with_reducible refine' s_fmtS ?h ?k); (case h => wtm_at "txz"))
  | ((with_reducible refine' s_fmtI ?h ?k); (case h => exact log_small (by omega) (by omega)))
  | ((with_reducible refine' s_jsp ?h ?k); (case h => wtm_at "txz"))
  | ((with_reducible refine' s_split ?h1 ?h2 ?k); (case h1 => decide +kernel); (case h2 => wtm_at "txx"); (intro _p _v _e _n _s))
  | with_reducible refine ite_tt ?_
  | with_reducible refine ite_ff ?_
  | with_reducible refine ite_nr ?_
  | with_reducible refine ite_nt ?_
  | with_reducible refine ite_nf ?_
  | fail "go1")
local macro_rules | `(tactic| wtm_at "tx") => `(tactic| first
  | assumption
  | (refine' Tx.app ?x ?y; (case x => wtm_at "tx"); (case y => wtm_at "tx"))
  | (refine' Tx.cut ?x _ _; (case x => wtm_at "tx"))
  | (refine' Tx.one ?x; (case x => first | assumption | omega))
  | exact tx_int (by omega)
  | exact Tx.litN (n := 1) (by decide +kernel) (by decide +kernel)
  | exact Tx.litN (n := 8) (by decide +kernel) (by decide +kernel)
  | exact Tx.litN (n := 16) (by decide +kernel) (by decide +kernel)
  | fail "tx")
local macro_rules | `(tactic| wtm_at "txx") => `(tactic| (refine' Tx.z2 ?h ?k; (case h => wtm_at "tx"); (case k => first | decide | omega)))
local macro_rules | `(tactic| wtm_at "txz") => `(tactic| (refine' Tx.sz ?h ?k; (case h => wtm_at "tx"); (case k => first | decide | omega)))
local macro_rules | `(tactic| wtm_at "txs") => `(tactic| (refine' Tx.sum ?h ?g ?k; (case h => wtm_at "tx"); (case g => wtm_at "tx"); (case k => first | decide | omega)))
local macro_rules | `(tactic| wtm_at "lkp") => `(tactic| first
  | exact lk_hd
  | exact lk_nil
  | (refine' lk_tl ?h ?t; (case h => decide +kernel); (case t => wtm_at "lkp"))
  | fail "lkp")
local macro_rules | `(tactic| wtm_at "pf") => `(tactic| first
  | exact pf_nil
  | exact pf_hd
  | (refine' pf_tl ?h ?t; (case h => decide +kernel); (case t => wtm_at "pf"))
  | fail "pf")
local macro_rules | `(tactic| wtm_at "valv") => `(tactic| first
  | exact valS_pos
  | exact valS_nil
  | (refine' valS_neg ?h ?t; (case h => decide +kernel); (case t => wtm_at "valv"))
  | fail "valv")
local macro_rules | `(tactic| wtm_at "putv") => `(tactic| first
  | exact putK_nil
  | (refine' putS_pos ?h; (case h => wtm_at "valv"))
  | (refine' putS_neg ?h ?t; (case h => decide +kernel); (case t => wtm_at "putv"))
  | fail "putv")
local macro_rules | `(tactic| wtm_at "len") => `(tactic| (simp only [List.length, sizeLine_eq]; omega))
local macro_rules | `(tactic| wtm_at "kb") => `(tactic| first
  | exact kb_NoneType_int
  | exact kb_NoneType_bool
  | exact kb_NoneType_str
  | exact kb_NoneType_list
  | exact kb_NoneType_tuple
  | exact kb_NoneType_dict
  | exact kb_bool_int
  | exact kb_bool_bool
  | exact kb_bool_str
  | exact kb_bool_list
  | exact kb_bool_tuple
  | exact kb_bool_dict
  | exact kb_int_int
  | exact kb_int_bool
  | exact kb_int_str
  | exact kb_int_list
  | exact kb_int_tuple
  | exact kb_int_dict
  | exact kb_str_int
  | exact kb_str_bool
  | exact kb_str_str
  | exact kb_str_list
  | exact kb_str_tuple
  | exact kb_str_dict
  | exact kb_list_int
  | exact kb_list_bool
  | exact kb_list_str
  | exact kb_list_list
  | exact kb_list_tuple
  | exact kb_list_dict
  | exact kb_tuple_int
  | exact kb_tuple_bool
  | exact kb_tuple_str
  | exact kb_tuple_list
  | exact kb_tuple_tuple
  | exact kb_tuple_dict
  | exact kb_dict_int
  | exact kb_dict_bool
  | exact kb_dict_str
  | exact kb_dict_list
  | exact kb_dict_tuple
  | exact kb_dict_dict
  | fail "kb")
local macro_rules | `(tactic| wtm_at "isi") => `(tactic| first
  | ((with_reducible refine' si_int ?e ?k); (case e => wtm_at "kb"))
  | ((with_reducible refine' si_bl ?e ?k); (case e => wtm_at "kb"))
  | ((with_reducible refine' si_str ?e ?k); (case e => wtm_at "kb"))
  | ((with_reducible refine' si_non ?e ?k); (case e => wtm_at "kb"))
  | ((with_reducible refine' sd_int ?r ?k); (case r => wtm_at "rp"))
  | ((with_reducible refine' sd_bool ?r ?k); (case r => wtm_at "rp"))
  | ((with_reducible refine' sd_str ?r ?k); (case r => wtm_at "rp"))
  | ((with_reducible refine' sd_list ?r ?k); (case r => wtm_at "rp"))
  | ((with_reducible refine' sd_tuple ?r ?k); (case r => wtm_at "rp"))
  | ((with_reducible refine' sd_dict ?r ?k); (case r => wtm_at "rp"))
  | ((with_reducible refine' si_lst ?r ?e ?k); (case r => wtm_at "stb"); (case e => wtm_at "kb"))
  | ((with_reducible refine' si_tup ?r ?e ?k); (case r => wtm_at "stb"); (case e => wtm_at "kb"))
  | ((with_reducible refine' si_own ?r ?e ?k); (case r => wtm_at "own"); (case e => wtm_at "kb"))
  | ((with_reducible refine' si_rd ?r ?e ?k); (case r => wtm_at "rd0"); (case e => wtm_at "kb"))
  | fail "isi")
local macro_rules | `(tactic| wtm_at "mul") => `(tactic| first
  | exact .inl (.inl ⟨by decide, by decide⟩) | exact .inl (.inr ⟨by decide, by decide⟩)
  | exact .inl (.inl ⟨by omega, by omega⟩) | exact .inl (.inr ⟨by omega, by omega⟩)
  | fail "mul")
local macro_rules | `(tactic| wtm_at "div") => `(tactic| first
  | exact ⟨by decide, by decide⟩ | exact divW (by omega) (by omega)
  | fail "div")
local macro_rules | `(tactic| wtm_at "hh") => `(tactic| first
  | (refine' Wd.ok _ _ _ ?o; (case o => wtm_at "stb"))
  | (refine' Own.h ?o; (case o => wtm_at "own"))
  | (refine' Rd.h ?o; (case o => wtm_at "rd0"))
  | assumption
  | fail "hh")
local macro_rules | `(tactic| wtm_at "sqs") => `(tactic| first
  | (refine' Or.inl ?o; (case o => wtm_at "sq"))
  | (refine' Or.inr ?o; (case o => wtm_at "sqt"))
  | fail "sqs")
/-- as go1, new lists standing for good -/
local macro_rules | `(tactic| wtm_at "gs1") => `(tactic| first
  | ((with_reducible refine' t_disp0 ?k); (intro _p _v _e _n _s))
  | ((with_reducible refine' s_dnewS ?k); (intro _p _v _e _n _s))
  | ((with_reducible refine' t_newLS ?h ?k); (case h => wtm_at "len"); (intro _p _v _e _n _s))
  | ((with_reducible refine' s_catS ?h1 ?h2 ?z ?k); (case h1 => wtm_at "hh"); (case h2 => wtm_at "hh"); (case z => wtm_at "ar"); (intro _p _v _e _n _s))
  | ((with_reducible refine' s_slS ?h ?k); (case h => wtm_at "sq"); (intro _p _v _e _n _s))
  | ((with_reducible refine' t_revS ?h ?k); (case h => wtm_at "sq"); (intro _p _v _e _n _s))
  | ((with_reducible refine' s_listS ?h ?k); (case h => wtm_at "sqs"); (intro _p _v _e _n _s))
  | ((with_reducible refine' s_rep1 ?h ?c ?k); (case h => wtm_at "hh"); (case c => (simp only [List.length_cons, List.length_nil, sizeLine_eq]; decide)); (intro _p _v _e _n _s))
  | ((with_reducible refine' s_repN ?h ?h0 ?h1 ?k); (case h => wtm_at "hh"); (case h0 => decide); (case h1 => decide); (intro _p _v _e _n _s))
  | ((with_reducible refine' s_repM ?h ?h0 ?h1 ?c ?k); (case h => wtm_at "hh"); (case h0 => decide); (case h1 => decide); (case c => (simp only [List.length_cons, List.length_nil, sizeLine_eq]; decide)); (intro _p _v _ys _e _n _s _l _q; simp only [List.length_cons, List.length_nil] at _l))
  | ((with_reducible refine' s_rep0 ?h ?k); (case h => wtm_at "hh"); (intro _p _v _e _n _s))
  | ((with_reducible refine' s_tupleS ?h ?k); (case h => wtm_at "sq"); (intro _p _v _e _n _s))
  | wtm_at "go1"
  | fail "gs1")
/-- an item at a place that is not written: its way told by membership -/
local macro_rules | `(tactic| wtm_at "ixm") => `(tactic| first
  | ((with_reducible refine' s_ixOm ?h ?h0 ?h1 ?k); (case h => wtm_at "own"); (case h0 => omega); (case h1 => first | omega | (simp only [List.length]; omega) | (simp only [List.length_append, List.length_cons, List.length_nil]; omega)))
  | ((with_reducible refine' s_ixSm ?h ?h0 ?h1 ?k); (case h => wtm_at "stb"); (case h0 => omega); (case h1 => first | omega | (simp only [List.length]; omega) | (simp only [List.length_append, List.length_cons, List.length_nil]; omega)))
  | ((with_reducible refine' s_ixTm ?h ?h0 ?h1 ?k); (case h => wtm_at "stb"); (case h0 => omega); (case h1 => first | omega | (simp only [List.length]; omega) | (simp only [List.length_append, List.length_cons, List.length_nil]; omega)))
  | fail "ixm")
local macro_rules | `(tactic| wtm_at "gs") => `(tactic| repeat wtm_at "gs1")
local macro_rules | `(tactic| wtm_at "go") => `(tactic| repeat wtm_at "go1")
/-- the same, never looking into a decided test -/
local macro_rules | `(tactic| wtm_at "gol") => `(tactic| repeat ((fail_if_success (with_reducible refine ite_d ?_ ?_)); wtm_at "go1"))
local macro_rules | `(tactic| wtm_at "gsl") => `(tactic| repeat ((fail_if_success (with_reducible refine ite_d ?_ ?_)); wtm_at "gs1"))
/-- the same, up to the next if -/
local macro_rules | `(tactic| wtm_at "goi") => `(tactic| repeat ((fail_if_success (with_reducible refine s_ifS ?_)); wtm_at "go1"))
local macro_rules | `(tactic| wtm_at "gsi") => `(tactic| repeat ((fail_if_success (with_reducible refine s_ifS ?_)); wtm_at "gs1"))
namespace L
structure Txt (K : PySem.W.Frag) (mg : Str → Option Value) (C_Entry C_Within C_At C_Between C_Read C_Joint C_Sifted C_LogError C_NoBond C_NoEntry C_NoMinutes C_NoMoment C_NoName C_NoPlace C_NoReading C_Taken C_TooMany : Addr) : Prop where
  g_Entry : mg "Entry" = some (.ref C_Entry)
  cl_Entry : Cls K C_Entry
  na_Entry_high : NoAttr K C_Entry "high"
  na_Entry_keeps : NoAttr K C_Entry "keeps"
  na_Entry_known : NoAttr K C_Entry "known"
  na_Entry_low : NoAttr K C_Entry "low"
  na_Entry_name : NoAttr K C_Entry "name"
  na_Entry_part : NoAttr K C_Entry "part"
  na_Entry_place : NoAttr K C_Entry "place"
  ci_Entry : ClsI K C_Entry
  g_Within : mg "Within" = some (.ref C_Within)
  cl_Within : Cls K C_Within
  na_Within_high : NoAttr K C_Within "high"
  na_Within_keeps : NoAttr K C_Within "keeps"
  na_Within_known : NoAttr K C_Within "known"
  na_Within_low : NoAttr K C_Within "low"
  na_Within_name : NoAttr K C_Within "name"
  na_Within_part : NoAttr K C_Within "part"
  na_Within_place : NoAttr K C_Within "place"
  ci_Within : ClsI K C_Within
  g_At : mg "At" = some (.ref C_At)
  cl_At : Cls K C_At
  na_At_high : NoAttr K C_At "high"
  na_At_keeps : NoAttr K C_At "keeps"
  na_At_known : NoAttr K C_At "known"
  na_At_low : NoAttr K C_At "low"
  na_At_name : NoAttr K C_At "name"
  na_At_part : NoAttr K C_At "part"
  na_At_place : NoAttr K C_At "place"
  ci_At : ClsI K C_At
  g_Between : mg "Between" = some (.ref C_Between)
  cl_Between : Cls K C_Between
  na_Between_high : NoAttr K C_Between "high"
  na_Between_keeps : NoAttr K C_Between "keeps"
  na_Between_known : NoAttr K C_Between "known"
  na_Between_low : NoAttr K C_Between "low"
  na_Between_name : NoAttr K C_Between "name"
  na_Between_part : NoAttr K C_Between "part"
  na_Between_place : NoAttr K C_Between "place"
  ci_Between : ClsI K C_Between
  g_Read : mg "Read" = some (.ref C_Read)
  cl_Read : Cls K C_Read
  na_Read_high : NoAttr K C_Read "high"
  na_Read_keeps : NoAttr K C_Read "keeps"
  na_Read_known : NoAttr K C_Read "known"
  na_Read_low : NoAttr K C_Read "low"
  na_Read_name : NoAttr K C_Read "name"
  na_Read_part : NoAttr K C_Read "part"
  na_Read_place : NoAttr K C_Read "place"
  ci_Read : ClsI K C_Read
  g_Joint : mg "Joint" = some (.ref C_Joint)
  cl_Joint : Cls K C_Joint
  na_Joint_high : NoAttr K C_Joint "high"
  na_Joint_keeps : NoAttr K C_Joint "keeps"
  na_Joint_known : NoAttr K C_Joint "known"
  na_Joint_low : NoAttr K C_Joint "low"
  na_Joint_name : NoAttr K C_Joint "name"
  na_Joint_part : NoAttr K C_Joint "part"
  na_Joint_place : NoAttr K C_Joint "place"
  ci_Joint : ClsI K C_Joint
  g_Sifted : mg "Sifted" = some (.ref C_Sifted)
  cl_Sifted : Cls K C_Sifted
  na_Sifted_high : NoAttr K C_Sifted "high"
  na_Sifted_keeps : NoAttr K C_Sifted "keeps"
  na_Sifted_known : NoAttr K C_Sifted "known"
  na_Sifted_low : NoAttr K C_Sifted "low"
  na_Sifted_name : NoAttr K C_Sifted "name"
  na_Sifted_part : NoAttr K C_Sifted "part"
  na_Sifted_place : NoAttr K C_Sifted "place"
  ci_Sifted : ClsI K C_Sifted
  g_LogError : mg "LogError" = some (.ref C_LogError)
  rd_LogError : PySem.W.readsIn K C_LogError (.type "type") = true
  gs_LogError : PySem.W.specialIn K (.ref C_LogError) "__getattribute__" = some (some (.builtin "type.__getattribute__"))
  vv_LogError : PySem.W.findCls K (.ref C_LogError) (.type "type") "__init__" = some (.val (.builtin "ValueError.__init__"))
  g_NoBond : mg "NoBond" = some (.ref C_NoBond)
  oex_NoBond : OexC K C_NoBond
  xf_NoBond : XfC K C_NoBond
  ec_NoBond : ExcC K C_NoBond
  xn_NoBond : PySem.W.findIn K (.ref C_NoBond) "found" = some none
  g_NoEntry : mg "NoEntry" = some (.ref C_NoEntry)
  oex_NoEntry : OexC K C_NoEntry
  xf_NoEntry : XfC K C_NoEntry
  ec_NoEntry : ExcC K C_NoEntry
  xn_NoEntry : PySem.W.findIn K (.ref C_NoEntry) "found" = some none
  g_NoMinutes : mg "NoMinutes" = some (.ref C_NoMinutes)
  oex_NoMinutes : OexC K C_NoMinutes
  xf_NoMinutes : XfC K C_NoMinutes
  ec_NoMinutes : ExcC K C_NoMinutes
  xn_NoMinutes : PySem.W.findIn K (.ref C_NoMinutes) "found" = some none
  g_NoMoment : mg "NoMoment" = some (.ref C_NoMoment)
  oex_NoMoment : OexC K C_NoMoment
  xf_NoMoment : XfC K C_NoMoment
  ec_NoMoment : ExcC K C_NoMoment
  xn_NoMoment : PySem.W.findIn K (.ref C_NoMoment) "found" = some none
  g_NoName : mg "NoName" = some (.ref C_NoName)
  oex_NoName : OexC K C_NoName
  xf_NoName : XfC K C_NoName
  ec_NoName : ExcC K C_NoName
  xn_NoName : PySem.W.findIn K (.ref C_NoName) "found" = some none
  g_NoPlace : mg "NoPlace" = some (.ref C_NoPlace)
  oex_NoPlace : OexC K C_NoPlace
  xf_NoPlace : XfC K C_NoPlace
  ec_NoPlace : ExcC K C_NoPlace
  xn_NoPlace : PySem.W.findIn K (.ref C_NoPlace) "found" = some none
  g_NoReading : mg "NoReading" = some (.ref C_NoReading)
  oex_NoReading : OexC K C_NoReading
  xf_NoReading : XfC K C_NoReading
  ec_NoReading : ExcC K C_NoReading
  xn_NoReading : PySem.W.findIn K (.ref C_NoReading) "found" = some none
  g_Taken : mg "Taken" = some (.ref C_Taken)
  oex_Taken : OexC K C_Taken
  xf_Taken : XfC K C_Taken
  ec_Taken : ExcC K C_Taken
  xn_Taken : PySem.W.findIn K (.ref C_Taken) "found" = some none
  g_TooMany : mg "TooMany" = some (.ref C_TooMany)
  oex_TooMany : OexC K C_TooMany
  xf_TooMany : XfC K C_TooMany
  ec_TooMany : ExcC K C_TooMany
  xn_TooMany : PySem.W.findIn K (.ref C_TooMany) "many" = some none
  rel_NoName_NoName : PySem.W.kitOne K (.ref C_NoName) (.ref C_NoName) = some true
  rel_NoName_NoMoment : PySem.W.kitOne K (.ref C_NoName) (.ref C_NoMoment) = some false
  rel_NoName_NoReading : PySem.W.kitOne K (.ref C_NoName) (.ref C_NoReading) = some false
  rel_NoName_NoEntry : PySem.W.kitOne K (.ref C_NoName) (.ref C_NoEntry) = some false
  rel_NoName_TooMany : PySem.W.kitOne K (.ref C_NoName) (.ref C_TooMany) = some false
  rel_NoName_NoBond : PySem.W.kitOne K (.ref C_NoName) (.ref C_NoBond) = some false
  rel_NoName_NoMinutes : PySem.W.kitOne K (.ref C_NoName) (.ref C_NoMinutes) = some false
  rel_NoName_NoPlace : PySem.W.kitOne K (.ref C_NoName) (.ref C_NoPlace) = some false
  rel_NoName_Taken : PySem.W.kitOne K (.ref C_NoName) (.ref C_Taken) = some false
  rel_NoMoment_NoName : PySem.W.kitOne K (.ref C_NoMoment) (.ref C_NoName) = some false
  rel_NoMoment_NoMoment : PySem.W.kitOne K (.ref C_NoMoment) (.ref C_NoMoment) = some true
  rel_NoMoment_NoReading : PySem.W.kitOne K (.ref C_NoMoment) (.ref C_NoReading) = some false
  rel_NoMoment_NoEntry : PySem.W.kitOne K (.ref C_NoMoment) (.ref C_NoEntry) = some false
  rel_NoMoment_TooMany : PySem.W.kitOne K (.ref C_NoMoment) (.ref C_TooMany) = some false
  rel_NoMoment_NoBond : PySem.W.kitOne K (.ref C_NoMoment) (.ref C_NoBond) = some false
  rel_NoMoment_NoMinutes : PySem.W.kitOne K (.ref C_NoMoment) (.ref C_NoMinutes) = some false
  rel_NoMoment_NoPlace : PySem.W.kitOne K (.ref C_NoMoment) (.ref C_NoPlace) = some false
  rel_NoMoment_Taken : PySem.W.kitOne K (.ref C_NoMoment) (.ref C_Taken) = some false
  rel_NoReading_NoName : PySem.W.kitOne K (.ref C_NoReading) (.ref C_NoName) = some false
  rel_NoReading_NoMoment : PySem.W.kitOne K (.ref C_NoReading) (.ref C_NoMoment) = some false
  rel_NoReading_NoReading : PySem.W.kitOne K (.ref C_NoReading) (.ref C_NoReading) = some true
  rel_NoReading_NoEntry : PySem.W.kitOne K (.ref C_NoReading) (.ref C_NoEntry) = some false
  rel_NoReading_TooMany : PySem.W.kitOne K (.ref C_NoReading) (.ref C_TooMany) = some false
  rel_NoReading_NoBond : PySem.W.kitOne K (.ref C_NoReading) (.ref C_NoBond) = some false
  rel_NoReading_NoMinutes : PySem.W.kitOne K (.ref C_NoReading) (.ref C_NoMinutes) = some false
  rel_NoReading_NoPlace : PySem.W.kitOne K (.ref C_NoReading) (.ref C_NoPlace) = some false
  rel_NoReading_Taken : PySem.W.kitOne K (.ref C_NoReading) (.ref C_Taken) = some false
  rel_NoEntry_NoName : PySem.W.kitOne K (.ref C_NoEntry) (.ref C_NoName) = some false
  rel_NoEntry_NoMoment : PySem.W.kitOne K (.ref C_NoEntry) (.ref C_NoMoment) = some false
  rel_NoEntry_NoReading : PySem.W.kitOne K (.ref C_NoEntry) (.ref C_NoReading) = some false
  rel_NoEntry_NoEntry : PySem.W.kitOne K (.ref C_NoEntry) (.ref C_NoEntry) = some true
  rel_NoEntry_TooMany : PySem.W.kitOne K (.ref C_NoEntry) (.ref C_TooMany) = some false
  rel_NoEntry_NoBond : PySem.W.kitOne K (.ref C_NoEntry) (.ref C_NoBond) = some false
  rel_NoEntry_NoMinutes : PySem.W.kitOne K (.ref C_NoEntry) (.ref C_NoMinutes) = some false
  rel_NoEntry_NoPlace : PySem.W.kitOne K (.ref C_NoEntry) (.ref C_NoPlace) = some false
  rel_NoEntry_Taken : PySem.W.kitOne K (.ref C_NoEntry) (.ref C_Taken) = some false
  rel_TooMany_NoName : PySem.W.kitOne K (.ref C_TooMany) (.ref C_NoName) = some false
  rel_TooMany_NoMoment : PySem.W.kitOne K (.ref C_TooMany) (.ref C_NoMoment) = some false
  rel_TooMany_NoReading : PySem.W.kitOne K (.ref C_TooMany) (.ref C_NoReading) = some false
  rel_TooMany_NoEntry : PySem.W.kitOne K (.ref C_TooMany) (.ref C_NoEntry) = some false
  rel_TooMany_TooMany : PySem.W.kitOne K (.ref C_TooMany) (.ref C_TooMany) = some true
  rel_TooMany_NoBond : PySem.W.kitOne K (.ref C_TooMany) (.ref C_NoBond) = some false
  rel_TooMany_NoMinutes : PySem.W.kitOne K (.ref C_TooMany) (.ref C_NoMinutes) = some false
  rel_TooMany_NoPlace : PySem.W.kitOne K (.ref C_TooMany) (.ref C_NoPlace) = some false
  rel_TooMany_Taken : PySem.W.kitOne K (.ref C_TooMany) (.ref C_Taken) = some false
  rel_NoName_ValueError : PySem.W.kitOne K (.ref C_NoName) (.type "ValueError") = some true
  rel_NoMoment_ValueError : PySem.W.kitOne K (.ref C_NoMoment) (.type "ValueError") = some true
  rel_NoReading_ValueError : PySem.W.kitOne K (.ref C_NoReading) (.type "ValueError") = some true
  rel_NoEntry_ValueError : PySem.W.kitOne K (.ref C_NoEntry) (.type "ValueError") = some true
  rel_TooMany_ValueError : PySem.W.kitOne K (.ref C_TooMany) (.type "ValueError") = some true
  exm_NoName_LogError : PySem.W.exmOne K (.ref C_NoName) (.ref C_LogError) = some true
  exm_NoMoment_LogError : PySem.W.exmOne K (.ref C_NoMoment) (.ref C_LogError) = some true
  exm_NoReading_LogError : PySem.W.exmOne K (.ref C_NoReading) (.ref C_LogError) = some true
  exm_NoEntry_LogError : PySem.W.exmOne K (.ref C_NoEntry) (.ref C_LogError) = some true
  exm_TooMany_LogError : PySem.W.exmOne K (.ref C_TooMany) (.ref C_LogError) = some true
  kt_NoneType_Entry : PySem.W.kitOne K (.type "NoneType") (.ref C_Entry) = some false
  kt_NoneType_Joint : PySem.W.kitOne K (.type "NoneType") (.ref C_Joint) = some false
  kt_NoneType_Within : PySem.W.kitOne K (.type "NoneType") (.ref C_Within) = some false
  kt_NoneType_Read : PySem.W.kitOne K (.type "NoneType") (.ref C_Read) = some false
  kt_bool_Entry : PySem.W.kitOne K (.type "bool") (.ref C_Entry) = some false
  kt_bool_Joint : PySem.W.kitOne K (.type "bool") (.ref C_Joint) = some false
  kt_bool_Within : PySem.W.kitOne K (.type "bool") (.ref C_Within) = some false
  kt_bool_Read : PySem.W.kitOne K (.type "bool") (.ref C_Read) = some false
  kt_int_Entry : PySem.W.kitOne K (.type "int") (.ref C_Entry) = some false
  kt_int_Joint : PySem.W.kitOne K (.type "int") (.ref C_Joint) = some false
  kt_int_Within : PySem.W.kitOne K (.type "int") (.ref C_Within) = some false
  kt_int_Read : PySem.W.kitOne K (.type "int") (.ref C_Read) = some false
  kt_str_Entry : PySem.W.kitOne K (.type "str") (.ref C_Entry) = some false
  kt_str_Joint : PySem.W.kitOne K (.type "str") (.ref C_Joint) = some false
  kt_str_Within : PySem.W.kitOne K (.type "str") (.ref C_Within) = some false
  kt_str_Read : PySem.W.kitOne K (.type "str") (.ref C_Read) = some false
  kt_list_Entry : PySem.W.kitOne K (.type "list") (.ref C_Entry) = some false
  kt_list_Joint : PySem.W.kitOne K (.type "list") (.ref C_Joint) = some false
  kt_list_Within : PySem.W.kitOne K (.type "list") (.ref C_Within) = some false
  kt_list_Read : PySem.W.kitOne K (.type "list") (.ref C_Read) = some false
  kt_tuple_Entry : PySem.W.kitOne K (.type "tuple") (.ref C_Entry) = some false
  kt_tuple_Joint : PySem.W.kitOne K (.type "tuple") (.ref C_Joint) = some false
  kt_tuple_Within : PySem.W.kitOne K (.type "tuple") (.ref C_Within) = some false
  kt_tuple_Read : PySem.W.kitOne K (.type "tuple") (.ref C_Read) = some false
  kt_dict_Entry : PySem.W.kitOne K (.type "dict") (.ref C_Entry) = some false
  kt_dict_Joint : PySem.W.kitOne K (.type "dict") (.ref C_Joint) = some false
  kt_dict_Within : PySem.W.kitOne K (.type "dict") (.ref C_Within) = some false
  kt_dict_Read : PySem.W.kitOne K (.type "dict") (.ref C_Read) = some false
  kt_Entry_list : PySem.W.kitOne K (.ref C_Entry) (.type "list") = some false
  kt_Entry_bool : PySem.W.kitOne K (.ref C_Entry) (.type "bool") = some false
  kt_Within_list : PySem.W.kitOne K (.ref C_Within) (.type "list") = some false
  kt_Within_bool : PySem.W.kitOne K (.ref C_Within) (.type "bool") = some false
  kt_At_list : PySem.W.kitOne K (.ref C_At) (.type "list") = some false
  kt_At_bool : PySem.W.kitOne K (.ref C_At) (.type "bool") = some false
  kt_Between_list : PySem.W.kitOne K (.ref C_Between) (.type "list") = some false
  kt_Between_bool : PySem.W.kitOne K (.ref C_Between) (.type "bool") = some false
  kt_Read_list : PySem.W.kitOne K (.ref C_Read) (.type "list") = some false
  kt_Read_bool : PySem.W.kitOne K (.ref C_Read) (.type "bool") = some false
  kt_Joint_list : PySem.W.kitOne K (.ref C_Joint) (.type "list") = some false
  kt_Joint_bool : PySem.W.kitOne K (.ref C_Joint) (.type "bool") = some false
  kt_Sifted_list : PySem.W.kitOne K (.ref C_Sifted) (.type "list") = some false
  kt_Sifted_bool : PySem.W.kitOne K (.ref C_Sifted) (.type "bool") = some false
  se_Entry : PySem.W.findIn K (.ref C_Entry) "__eq__" = some (some (.builtin "object.__eq__"))
  so_Entry : PySem.W.mroIn K C_Entry (.type "object") = some true
  se_Within : PySem.W.findIn K (.ref C_Within) "__eq__" = some (some (.builtin "object.__eq__"))
  so_Within : PySem.W.mroIn K C_Within (.type "object") = some true
  se_At : PySem.W.findIn K (.ref C_At) "__eq__" = some (some (.builtin "object.__eq__"))
  so_At : PySem.W.mroIn K C_At (.type "object") = some true
  se_Between : PySem.W.findIn K (.ref C_Between) "__eq__" = some (some (.builtin "object.__eq__"))
  so_Between : PySem.W.mroIn K C_Between (.type "object") = some true
  se_Read : PySem.W.findIn K (.ref C_Read) "__eq__" = some (some (.builtin "object.__eq__"))
  so_Read : PySem.W.mroIn K C_Read (.type "object") = some true
  se_Joint : PySem.W.findIn K (.ref C_Joint) "__eq__" = some (some (.builtin "object.__eq__"))
  so_Joint : PySem.W.mroIn K C_Joint (.type "object") = some true
  se_Sifted : PySem.W.findIn K (.ref C_Sifted) "__eq__" = some (some (.builtin "object.__eq__"))
  so_Sifted : PySem.W.mroIn K C_Sifted (.type "object") = some true
  n_ValueError : mg "ValueError" = none
  n_all : mg "all" = none
  n_bool : mg "bool" = none
  n_enumerate : mg "enumerate" = none
  n_int : mg "int" = none
  n_isinstance : mg "isinstance" = none
  n_len : mg "len" = none
  n_list : mg "list" = none
  n_max : mg "max" = none
  n_min : mg "min" = none
  n_range : mg "range" = none
  n_str : mg "str" = none
  c_FARTHEST_READING : ∃ u, mg "FARTHEST_READING" = some u ∧ RelV (.int 10000000000) u
  c_LAST : ∃ u, mg "LAST" = some u ∧ RelV (.int 1000000000) u
  c_LETTERS : ∃ u, mg "LETTERS" = some u ∧ RelV (.str (Str.ofString "abcdefghijklmnopqrstuvwxyz")) u
  c_LONGEST_NAME : ∃ u, mg "LONGEST_NAME" = some u ∧ RelV (.int 8) u
  c_MOST_PARTS : ∃ u, mg "MOST_PARTS" = some u ∧ RelV (.int 8) u
  c_MOST_SIFTED : ∃ u, mg "MOST_SIFTED" = some u ∧ RelV (.int 1000) u
  kk_Entry_Within : PySem.W.kitOne K (.ref C_Entry) (.ref C_Within) = some false
  kk_Entry_At : PySem.W.kitOne K (.ref C_Entry) (.ref C_At) = some false
  kk_Entry_Between : PySem.W.kitOne K (.ref C_Entry) (.ref C_Between) = some false
  kk_Entry_Read : PySem.W.kitOne K (.ref C_Entry) (.ref C_Read) = some false
  kk_Entry_Joint : PySem.W.kitOne K (.ref C_Entry) (.ref C_Joint) = some false
  kk_Entry_Sifted : PySem.W.kitOne K (.ref C_Entry) (.ref C_Sifted) = some false
  kk_Within_Entry : PySem.W.kitOne K (.ref C_Within) (.ref C_Entry) = some true
  kk_Within_At : PySem.W.kitOne K (.ref C_Within) (.ref C_At) = some false
  kk_Within_Between : PySem.W.kitOne K (.ref C_Within) (.ref C_Between) = some false
  kk_Within_Read : PySem.W.kitOne K (.ref C_Within) (.ref C_Read) = some false
  kk_Within_Joint : PySem.W.kitOne K (.ref C_Within) (.ref C_Joint) = some false
  kk_Within_Sifted : PySem.W.kitOne K (.ref C_Within) (.ref C_Sifted) = some false
  kk_At_Entry : PySem.W.kitOne K (.ref C_At) (.ref C_Entry) = some true
  kk_At_Within : PySem.W.kitOne K (.ref C_At) (.ref C_Within) = some true
  kk_At_Between : PySem.W.kitOne K (.ref C_At) (.ref C_Between) = some false
  kk_At_Read : PySem.W.kitOne K (.ref C_At) (.ref C_Read) = some false
  kk_At_Joint : PySem.W.kitOne K (.ref C_At) (.ref C_Joint) = some false
  kk_At_Sifted : PySem.W.kitOne K (.ref C_At) (.ref C_Sifted) = some false
  kk_Between_Entry : PySem.W.kitOne K (.ref C_Between) (.ref C_Entry) = some true
  kk_Between_Within : PySem.W.kitOne K (.ref C_Between) (.ref C_Within) = some false
  kk_Between_At : PySem.W.kitOne K (.ref C_Between) (.ref C_At) = some false
  kk_Between_Read : PySem.W.kitOne K (.ref C_Between) (.ref C_Read) = some false
  kk_Between_Joint : PySem.W.kitOne K (.ref C_Between) (.ref C_Joint) = some false
  kk_Between_Sifted : PySem.W.kitOne K (.ref C_Between) (.ref C_Sifted) = some false
  kk_Read_Entry : PySem.W.kitOne K (.ref C_Read) (.ref C_Entry) = some true
  kk_Read_Within : PySem.W.kitOne K (.ref C_Read) (.ref C_Within) = some false
  kk_Read_At : PySem.W.kitOne K (.ref C_Read) (.ref C_At) = some false
  kk_Read_Between : PySem.W.kitOne K (.ref C_Read) (.ref C_Between) = some true
  kk_Read_Joint : PySem.W.kitOne K (.ref C_Read) (.ref C_Joint) = some false
  kk_Read_Sifted : PySem.W.kitOne K (.ref C_Read) (.ref C_Sifted) = some false
  kk_Joint_Entry : PySem.W.kitOne K (.ref C_Joint) (.ref C_Entry) = some true
  kk_Joint_Within : PySem.W.kitOne K (.ref C_Joint) (.ref C_Within) = some false
  kk_Joint_At : PySem.W.kitOne K (.ref C_Joint) (.ref C_At) = some false
  kk_Joint_Between : PySem.W.kitOne K (.ref C_Joint) (.ref C_Between) = some false
  kk_Joint_Read : PySem.W.kitOne K (.ref C_Joint) (.ref C_Read) = some false
  kk_Joint_Sifted : PySem.W.kitOne K (.ref C_Joint) (.ref C_Sifted) = some false
  kk_Sifted_Entry : PySem.W.kitOne K (.ref C_Sifted) (.ref C_Entry) = some true
  kk_Sifted_Within : PySem.W.kitOne K (.ref C_Sifted) (.ref C_Within) = some false
  kk_Sifted_At : PySem.W.kitOne K (.ref C_Sifted) (.ref C_At) = some false
  kk_Sifted_Between : PySem.W.kitOne K (.ref C_Sifted) (.ref C_Between) = some false
  kk_Sifted_Read : PySem.W.kitOne K (.ref C_Sifted) (.ref C_Read) = some false
  kk_Sifted_Joint : PySem.W.kitOne K (.ref C_Sifted) (.ref C_Joint) = some false
theorem ek_T {P : Program} {ww : World} {K : PySem.W.Frag} {mg : Str → Option Value} {base : Heap} {C_Entry C_Within C_At C_Between C_Read C_Joint C_Sifted C_LogError C_NoBond C_NoEntry C_NoMinutes C_NoMoment C_NoName C_NoPlace C_NoReading C_Taken C_TooMany : Addr} (T : Txt K mg C_Entry C_Within C_At C_Between C_Read C_Joint C_Sifted C_LogError C_NoBond C_NoEntry C_NoMinutes C_NoMoment C_NoName C_NoPlace C_NoReading C_Taken C_TooMany) : EK K (EC.mk C_Entry C_Within C_At C_Between C_Read C_Joint C_Sifted kdAll noKp) := by
  refine ⟨fun k h => ?_, fun k h => ?_, fun a b ha hb => ?_⟩
  · cases k <;> first | exact h.elim | exact trivial | exact (fun z => by cases z)
  · cases k
    · exact ⟨T.cl_Entry, T.ci_Entry, T.na_Entry_name, T.na_Entry_place, T.na_Entry_low, T.na_Entry_high, T.na_Entry_known, T.na_Entry_part, T.na_Entry_keeps⟩
    · exact ⟨T.cl_Within, T.ci_Within, T.na_Within_name, T.na_Within_place, T.na_Within_low, T.na_Within_high, T.na_Within_known, T.na_Within_part, T.na_Within_keeps⟩
    · exact ⟨T.cl_At, T.ci_At, T.na_At_name, T.na_At_place, T.na_At_low, T.na_At_high, T.na_At_known, T.na_At_part, T.na_At_keeps⟩
    · exact ⟨T.cl_Between, T.ci_Between, T.na_Between_name, T.na_Between_place, T.na_Between_low, T.na_Between_high, T.na_Between_known, T.na_Between_part, T.na_Between_keeps⟩
    · exact ⟨T.cl_Read, T.ci_Read, T.na_Read_name, T.na_Read_place, T.na_Read_low, T.na_Read_high, T.na_Read_known, T.na_Read_part, T.na_Read_keeps⟩
    · exact ⟨T.cl_Joint, T.ci_Joint, T.na_Joint_name, T.na_Joint_place, T.na_Joint_low, T.na_Joint_high, T.na_Joint_known, T.na_Joint_part, T.na_Joint_keeps⟩
    · exact ⟨T.cl_Sifted, T.ci_Sifted, T.na_Sifted_name, T.na_Sifted_place, T.na_Sifted_low, T.na_Sifted_high, T.na_Sifted_known, T.na_Sifted_part, T.na_Sifted_keeps⟩
  · cases a <;> cases b
    · exact kit_self
    · exact T.kk_Entry_Within
    · exact T.kk_Entry_At
    · exact T.kk_Entry_Between
    · exact T.kk_Entry_Read
    · exact T.kk_Entry_Joint
    · exact T.kk_Entry_Sifted
    · exact T.kk_Within_Entry
    · exact kit_self
    · exact T.kk_Within_At
    · exact T.kk_Within_Between
    · exact T.kk_Within_Read
    · exact T.kk_Within_Joint
    · exact T.kk_Within_Sifted
    · exact T.kk_At_Entry
    · exact T.kk_At_Within
    · exact kit_self
    · exact T.kk_At_Between
    · exact T.kk_At_Read
    · exact T.kk_At_Joint
    · exact T.kk_At_Sifted
    · exact T.kk_Between_Entry
    · exact T.kk_Between_Within
    · exact T.kk_Between_At
    · exact kit_self
    · exact T.kk_Between_Read
    · exact T.kk_Between_Joint
    · exact T.kk_Between_Sifted
    · exact T.kk_Read_Entry
    · exact T.kk_Read_Within
    · exact T.kk_Read_At
    · exact T.kk_Read_Between
    · exact kit_self
    · exact T.kk_Read_Joint
    · exact T.kk_Read_Sifted
    · exact T.kk_Joint_Entry
    · exact T.kk_Joint_Within
    · exact T.kk_Joint_At
    · exact T.kk_Joint_Between
    · exact T.kk_Joint_Read
    · exact kit_self
    · exact T.kk_Joint_Sifted
    · exact T.kk_Sifted_Entry
    · exact T.kk_Sifted_Within
    · exact T.kk_Sifted_At
    · exact T.kk_Sifted_Between
    · exact T.kk_Sifted_Read
    · exact T.kk_Sifted_Joint
    · exact kit_self
section
variable {P : Program} {ww : World} {K : PySem.W.Frag} {mg : Str → Option Value} {base : Heap}
abbrev nm_is_whole : List Str := ["thing", "low", "high"]
theorem sc_is_whole : FnScope nm_is_whole ["thing", "low", "high"] (defScope s_is_whole) := ⟨rfl, rfl, rfl, by decide +kernel, rfl, by decide +kernel, by decide +kernel⟩
theorem st_is_whole (a b c : V) : start nm_is_whole [a, b, c] = [some a, some b, some c] := rfl
def p_is_whole (w : Wd) (a b c : V) (Q : VK) (_ : XK) : Prop := ∃ d, ∃ lo hi : Int, Rp w.S a d ∧ b = .int lo ∧ c = .int hi ∧ ∀ v, Ext Non w v → Q (.bl (wholeB d lo hi)) v.H
theorem ok_is_whole {f : Addr} {fd : FuncData} {C_Entry C_Within C_At C_Between C_Read C_Joint C_Sifted C_LogError C_NoBond C_NoEntry C_NoMinutes C_NoMoment C_NoName C_NoPlace C_NoReading C_Taken C_TooMany : Addr} (F : Fun K "is_whole" "is_whole" s_is_whole f fd) (T : Txt K mg C_Entry C_Within C_At C_Between C_Read C_Joint C_Sifted C_LogError C_NoBond C_NoEntry C_NoMinutes C_NoMoment C_NoName C_NoPlace C_NoReading C_Taken C_TooMany)  : FnOk P ww K mg base CX0 1 f fd ["thing", "low", "high"] (pr3 (p_is_whole)) := by
  refine F.ok sc_is_whole (fun vs H Q E h => len3 h) (fun cdv A outer s H vs Q E hr h => ?_)
  obtain ⟨w, x0, x1, x2,  rfl, rfl, h⟩ := h
  have ekT := ek_T (P := P) (ww := ww) (base := base) T
  have oex_NoBond := T.oex_NoBond; have xf_NoBond := T.xf_NoBond; have ec_NoBond := T.ec_NoBond; have xn_NoBond := T.xn_NoBond
  have oex_NoEntry := T.oex_NoEntry; have xf_NoEntry := T.xf_NoEntry; have ec_NoEntry := T.ec_NoEntry; have xn_NoEntry := T.xn_NoEntry
  have oex_NoMinutes := T.oex_NoMinutes; have xf_NoMinutes := T.xf_NoMinutes; have ec_NoMinutes := T.ec_NoMinutes; have xn_NoMinutes := T.xn_NoMinutes
  have oex_NoMoment := T.oex_NoMoment; have xf_NoMoment := T.xf_NoMoment; have ec_NoMoment := T.ec_NoMoment; have xn_NoMoment := T.xn_NoMoment
  have oex_NoName := T.oex_NoName; have xf_NoName := T.xf_NoName; have ec_NoName := T.ec_NoName; have xn_NoName := T.xn_NoName
  have oex_NoPlace := T.oex_NoPlace; have xf_NoPlace := T.xf_NoPlace; have ec_NoPlace := T.ec_NoPlace; have xn_NoPlace := T.xn_NoPlace
  have oex_NoReading := T.oex_NoReading; have xf_NoReading := T.xf_NoReading; have ec_NoReading := T.ec_NoReading; have xn_NoReading := T.xn_NoReading
  have oex_Taken := T.oex_Taken; have xf_Taken := T.xf_Taken; have ec_Taken := T.ec_Taken; have xn_Taken := T.xn_Taken
  have oex_TooMany := T.oex_TooMany; have xf_TooMany := T.xf_TooMany; have ec_TooMany := T.ec_TooMany; have xn_TooMany := T.xn_TooMany
  refine ⟨_, (pss_one (ps_ret (pe_and (pe_callB (kIsi K) (by rfl) T.n_isinstance (by decide +kernel) (pa_cons (pv 0) (pa_cons (pe_bltn (v := .ty "int") (u := .type "int") rfl T.n_int (by decide +kernel) rfl) pa_nil))) (pe_and (pe_not (pe_callB (kIsi K) (by rfl) T.n_isinstance (by decide +kernel) (pa_cons (pv 0) (pa_cons (pe_bltn (v := .ty "bool") (u := .type "bool") rfl T.n_bool (by decide +kernel) rfl) pa_nil)))) (pe_one (pe_chain g_le g_le (pv 1) (pv 0) (pv 2))))))), ?_⟩
  rw [st_is_whole]
  obtain ⟨d, lo, hi, hd, rfl, rfl, k⟩ := h
  ((with_reducible refine s_ret ?_); (with_reducible refine s_andV ?_); (with_reducible refine s_CB ?_); (with_reducible refine s_cons ?_); (with_reducible refine' s_var ?q0 ?q1); (case q0 => exact rfl); (with_reducible refine s_cons ?_); (with_reducible refine s_c ?_); (with_reducible refine s_nil ?_); (with_reducible refine' sd_int ?q2 ?q3); (case q2 => assumption); (with_reducible refine s_bl ?_))
  refine ite_b (fun hb => ?_) (fun hb => ?_)
  · ((with_reducible refine s_andV ?_); (with_reducible refine s_notV ?_); (with_reducible refine s_CB ?_); (with_reducible refine s_cons ?_); (with_reducible refine' s_var ?q4 ?q5); (case q4 => exact rfl); (with_reducible refine s_cons ?_); (with_reducible refine s_c ?_); (with_reducible refine s_nil ?_); (with_reducible refine' sd_bool ?q6 ?q7); (case q6 => assumption); (with_reducible refine s_bl ?_); (with_reducible refine s_bl ?_))
    refine ite_n (fun hc => ?_) (fun hc => ?_)
    · obtain ⟨n, rfl⟩ : ∃ n, d = .int n := isNum_inv (by simp [isNum, hb, hc])
      obtain rfl := hd.int_inv
      ((with_reducible refine s_chain ?_); (with_reducible refine' s_var ?q8 ?q9); (case q8 => exact rfl); (with_reducible refine' s_var ?q10 ?q11); (case q10 => exact rfl); (with_reducible refine s_le ?_); (with_reducible refine s_bl ?_))
      refine ite_d (fun c1 => ?_) (fun c1 => ?_)
      · ((with_reducible refine' s_var ?q12 ?q13); (case q12 => exact rfl); (with_reducible refine s_le ?_))
        have e : wholeB (.int n) lo hi = decide (n ≤ hi) := by simp [wholeB, c1]
        exact e ▸ k w (Ext.refl _ _)
      · skip
        have e : wholeB (.int n) lo hi = false := by simp [wholeB, c1]
        exact e ▸ k w (Ext.refl _ _)
    · have e : wholeB d lo hi = false := whole_no (by simp [isNum, hc])
      exact e ▸ k w (Ext.refl _ _)
  · have e : wholeB d lo hi = false := whole_no (by simp [isNum, hb])
    exact e ▸ k w (Ext.refl _ _)
def p_isw (lo hi : Int) (w : Wd) (a : V) (Q : VK) (_ : XK) : Prop := ∃ d, Rp w.S a d ∧ ∀ v, Ext Non w v → Q (.bl (wholeB d lo hi)) v.H
abbrev nm_is_moment : List Str := ["thing"]
theorem sc_is_moment : FnScope nm_is_moment ["thing"] (defScope s_is_moment) := ⟨rfl, rfl, rfl, by decide +kernel, rfl, by decide +kernel, by decide +kernel⟩
theorem st_is_moment (a : V) : start nm_is_moment [a] = [some a] := rfl
abbrev p_is_moment := p_isw 0 1000000000
theorem ok_is_moment {f : Addr} {fd : FuncData} {C_Entry C_Within C_At C_Between C_Read C_Joint C_Sifted C_LogError C_NoBond C_NoEntry C_NoMinutes C_NoMoment C_NoName C_NoPlace C_NoReading C_Taken C_TooMany : Addr} (F : Fun K "is_moment" "is_moment" s_is_moment f fd) (T : Txt K mg C_Entry C_Within C_At C_Between C_Read C_Joint C_Sifted C_LogError C_NoBond C_NoEntry C_NoMinutes C_NoMoment C_NoName C_NoPlace C_NoReading C_Taken C_TooMany) (c_is_whole : Fnc P ww K mg base CX0 1 "is_whole" (pr3 (p_is_whole))) : FnOk P ww K mg base CX0 2 f fd ["thing"] (pr1 (p_is_moment)) := by
  refine F.ok sc_is_moment (fun vs H Q E h => len1 h) (fun cdv A outer s H vs Q E hr h => ?_)
  obtain ⟨w, x0,  rfl, rfl, h⟩ := h
  have ekT := ek_T (P := P) (ww := ww) (base := base) T
  have oex_NoBond := T.oex_NoBond; have xf_NoBond := T.xf_NoBond; have ec_NoBond := T.ec_NoBond; have xn_NoBond := T.xn_NoBond
  have oex_NoEntry := T.oex_NoEntry; have xf_NoEntry := T.xf_NoEntry; have ec_NoEntry := T.ec_NoEntry; have xn_NoEntry := T.xn_NoEntry
  have oex_NoMinutes := T.oex_NoMinutes; have xf_NoMinutes := T.xf_NoMinutes; have ec_NoMinutes := T.ec_NoMinutes; have xn_NoMinutes := T.xn_NoMinutes
  have oex_NoMoment := T.oex_NoMoment; have xf_NoMoment := T.xf_NoMoment; have ec_NoMoment := T.ec_NoMoment; have xn_NoMoment := T.xn_NoMoment
  have oex_NoName := T.oex_NoName; have xf_NoName := T.xf_NoName; have ec_NoName := T.ec_NoName; have xn_NoName := T.xn_NoName
  have oex_NoPlace := T.oex_NoPlace; have xf_NoPlace := T.xf_NoPlace; have ec_NoPlace := T.ec_NoPlace; have xn_NoPlace := T.xn_NoPlace
  have oex_NoReading := T.oex_NoReading; have xf_NoReading := T.xf_NoReading; have ec_NoReading := T.ec_NoReading; have xn_NoReading := T.xn_NoReading
  have oex_Taken := T.oex_Taken; have xf_Taken := T.xf_Taken; have ec_Taken := T.ec_Taken; have xn_Taken := T.xn_Taken
  have oex_TooMany := T.oex_TooMany; have xf_TooMany := T.xf_TooMany; have ec_TooMany := T.ec_TooMany; have xn_TooMany := T.xn_TooMany
  refine ⟨_, (pss_one (ps_ret (pe_fn c_is_whole hr (by decide) pass0 (pa_cons (pv 0) (pa_cons pe_int (pa_cons (pe_gco rfl T.c_LAST) pa_nil)))))), ?_⟩
  rw [st_is_moment]
  obtain ⟨d, hd, k⟩ := h
  ((with_reducible refine s_ret ?_); (with_reducible refine s_call ?_); (with_reducible refine s_cons ?_); (with_reducible refine' s_var ?q14 ?q15); (case q14 => exact rfl); (with_reducible refine s_cons ?_); (with_reducible refine s_c ?_); (with_reducible refine s_cons ?_); (with_reducible refine s_c ?_); (with_reducible refine s_nil ?_); (with_reducible refine s_pr3 ?_))
  exact ⟨d, _, _, hd, rfl, rfl, fun v ev => k v ev⟩
abbrev nm_is_reading : List Str := ["thing"]
theorem sc_is_reading : FnScope nm_is_reading ["thing"] (defScope s_is_reading) := ⟨rfl, rfl, rfl, by decide +kernel, rfl, by decide +kernel, by decide +kernel⟩
theorem st_is_reading (a : V) : start nm_is_reading [a] = [some a] := rfl
abbrev p_is_reading := p_isw (0 - 10000000000) 10000000000
theorem ok_is_reading {f : Addr} {fd : FuncData} {C_Entry C_Within C_At C_Between C_Read C_Joint C_Sifted C_LogError C_NoBond C_NoEntry C_NoMinutes C_NoMoment C_NoName C_NoPlace C_NoReading C_Taken C_TooMany : Addr} (F : Fun K "is_reading" "is_reading" s_is_reading f fd) (T : Txt K mg C_Entry C_Within C_At C_Between C_Read C_Joint C_Sifted C_LogError C_NoBond C_NoEntry C_NoMinutes C_NoMoment C_NoName C_NoPlace C_NoReading C_Taken C_TooMany) (c_is_whole : Fnc P ww K mg base CX0 1 "is_whole" (pr3 (p_is_whole))) : FnOk P ww K mg base CX0 2 f fd ["thing"] (pr1 (p_is_reading)) := by
  refine F.ok sc_is_reading (fun vs H Q E h => len1 h) (fun cdv A outer s H vs Q E hr h => ?_)
  obtain ⟨w, x0,  rfl, rfl, h⟩ := h
  have ekT := ek_T (P := P) (ww := ww) (base := base) T
  have oex_NoBond := T.oex_NoBond; have xf_NoBond := T.xf_NoBond; have ec_NoBond := T.ec_NoBond; have xn_NoBond := T.xn_NoBond
  have oex_NoEntry := T.oex_NoEntry; have xf_NoEntry := T.xf_NoEntry; have ec_NoEntry := T.ec_NoEntry; have xn_NoEntry := T.xn_NoEntry
  have oex_NoMinutes := T.oex_NoMinutes; have xf_NoMinutes := T.xf_NoMinutes; have ec_NoMinutes := T.ec_NoMinutes; have xn_NoMinutes := T.xn_NoMinutes
  have oex_NoMoment := T.oex_NoMoment; have xf_NoMoment := T.xf_NoMoment; have ec_NoMoment := T.ec_NoMoment; have xn_NoMoment := T.xn_NoMoment
  have oex_NoName := T.oex_NoName; have xf_NoName := T.xf_NoName; have ec_NoName := T.ec_NoName; have xn_NoName := T.xn_NoName
  have oex_NoPlace := T.oex_NoPlace; have xf_NoPlace := T.xf_NoPlace; have ec_NoPlace := T.ec_NoPlace; have xn_NoPlace := T.xn_NoPlace
  have oex_NoReading := T.oex_NoReading; have xf_NoReading := T.xf_NoReading; have ec_NoReading := T.ec_NoReading; have xn_NoReading := T.xn_NoReading
  have oex_Taken := T.oex_Taken; have xf_Taken := T.xf_Taken; have ec_Taken := T.ec_Taken; have xn_Taken := T.xn_Taken
  have oex_TooMany := T.oex_TooMany; have xf_TooMany := T.xf_TooMany; have ec_TooMany := T.ec_TooMany; have xn_TooMany := T.xn_TooMany
  refine ⟨_, (pss_one (ps_ret (pe_fn c_is_whole hr (by decide) pass0 (pa_cons (pv 0) (pa_cons (pe_op g_sub pe_int (pe_gco rfl T.c_FARTHEST_READING)) (pa_cons (pe_gco rfl T.c_FARTHEST_READING) pa_nil)))))), ?_⟩
  rw [st_is_reading]
  obtain ⟨d, hd, k⟩ := h
  ((with_reducible refine s_ret ?_); (with_reducible refine s_call ?_); (with_reducible refine s_cons ?_); (with_reducible refine' s_var ?q16 ?q17); (case q16 => exact rfl); (with_reducible refine s_cons ?_); (with_reducible refine s_op ?_); (with_reducible refine s_c ?_); (with_reducible refine s_c ?_); (with_reducible refine s_sub ?_); (with_reducible refine s_cons ?_); (with_reducible refine s_c ?_); (with_reducible refine s_nil ?_); (with_reducible refine s_pr3 ?_))
  exact ⟨d, _, _, hd, rfl, rfl, fun v ev => k v ev⟩
local macro_rules | `(tactic| wtm_at "go1") => `(tactic| first
  | with_reducible refine s_makeX ?_
  | with_reducible refine s_methX ?_
  | with_reducible refine s_callX ?_
  | with_reducible refine s_ost ?_
  | with_reducible refine s_veI ?_
  | with_reducible refine s_xg ?_
  | ((with_reducible refine' s_xgv ?h ?x ?n ?k); (case h => wtm_at "hh"); (case x => assumption); (case n => assumption))
  | ((with_reducible refine' s_isXc ?c ?e ?h ?k); (case c => assumption); (case e => assumption); (case h => wtm_at "hh"))
  | ((with_reducible refine' s_isXt ?c ?e ?h ?k); (case c => assumption); (case e => assumption); (case h => wtm_at "hh"))
  | with_reducible refine s_isU ?_
  | fail "go1x")
local macro_rules | `(tactic| wtm_at "go1") => `(tactic| first
  | with_reducible refine s_methX ?_
  | with_reducible refine s_callX ?_
  | with_reducible refine s_ost ?_
  | with_reducible refine s_veI ?_
  | with_reducible refine s_xg ?_
  | ((with_reducible refine' s_xgv ?h ?x ?n ?k); (case h => wtm_at "hh"); (case x => assumption); (case n => assumption))
  | ((with_reducible refine' s_isXc ?c ?e ?h ?k); (case c => assumption); (case e => assumption); (case h => wtm_at "hh"))
  | ((with_reducible refine' s_isXt ?c ?e ?h ?k); (case c => assumption); (case e => assumption); (case h => wtm_at "hh"))
  | with_reducible refine s_isU ?_
  | fail "go1x")
abbrev nm_NoReading_init : List Str := ["self", "found"]
theorem sc_NoReading_init : FnScope nm_NoReading_init ["self", "found"] (defScope s_NoReading_init) := ⟨rfl, rfl, rfl, by decide +kernel, rfl, by decide +kernel, by decide +kernel⟩
theorem st_NoReading_init (a b : V) : start nm_NoReading_init [a, b] = [some a, some b] := rfl
abbrev p_NoReading_init (C : Addr) := initX (Str.ofString "found") C
theorem ok_NoReading_init {f : Addr} {fd : FuncData} {C_Entry C_Within C_At C_Between C_Read C_Joint C_Sifted C_LogError C_NoBond C_NoEntry C_NoMinutes C_NoMoment C_NoName C_NoPlace C_NoReading C_Taken C_TooMany : Addr} (F : Fun K "__init__" "NoReading.__init__" s_NoReading_init f fd) (T : Txt K mg C_Entry C_Within C_At C_Between C_Read C_Joint C_Sifted C_LogError C_NoBond C_NoEntry C_NoMinutes C_NoMoment C_NoName C_NoPlace C_NoReading C_Taken C_TooMany)  : FnOk P ww K mg base CX0 1 f fd ["self", "found"] (pr2 (p_NoReading_init C_NoReading)) := by
  refine F.ok sc_NoReading_init (fun vs H Q E h => len2 h) (fun cdv A outer s H vs Q E hr h => ?_)
  obtain ⟨w, x0, x1,  rfl, rfl, h⟩ := h
  have ekT := ek_T (P := P) (ww := ww) (base := base) T
  have oex_NoBond := T.oex_NoBond; have xf_NoBond := T.xf_NoBond; have ec_NoBond := T.ec_NoBond; have xn_NoBond := T.xn_NoBond
  have oex_NoEntry := T.oex_NoEntry; have xf_NoEntry := T.xf_NoEntry; have ec_NoEntry := T.ec_NoEntry; have xn_NoEntry := T.xn_NoEntry
  have oex_NoMinutes := T.oex_NoMinutes; have xf_NoMinutes := T.xf_NoMinutes; have ec_NoMinutes := T.ec_NoMinutes; have xn_NoMinutes := T.xn_NoMinutes
  have oex_NoMoment := T.oex_NoMoment; have xf_NoMoment := T.xf_NoMoment; have ec_NoMoment := T.ec_NoMoment; have xn_NoMoment := T.xn_NoMoment
  have oex_NoName := T.oex_NoName; have xf_NoName := T.xf_NoName; have ec_NoName := T.ec_NoName; have xn_NoName := T.xn_NoName
  have oex_NoPlace := T.oex_NoPlace; have xf_NoPlace := T.xf_NoPlace; have ec_NoPlace := T.ec_NoPlace; have xn_NoPlace := T.xn_NoPlace
  have oex_NoReading := T.oex_NoReading; have xf_NoReading := T.xf_NoReading; have ec_NoReading := T.ec_NoReading; have xn_NoReading := T.xn_NoReading
  have oex_Taken := T.oex_Taken; have xf_Taken := T.xf_Taken; have ec_Taken := T.ec_Taken; have xn_Taken := T.xn_Taken
  have oex_TooMany := T.oex_TooMany; have xf_TooMany := T.xf_TooMany; have ec_TooMany := T.ec_TooMany; have xn_TooMany := T.xn_TooMany
  refine ⟨_, (pss_cons (ps_expr (pe_xinit (pe_glob (v := .ref C_LogError) (u := .ref C_LogError) rfl T.g_LogError rfl) T.rd_LogError T.gs_LogError T.vv_LogError (pa_cons (pv 0) (pa_cons pe_str pa_nil))))
      (pss_one (ps_ost (pv 0) (pv 1)))), ?_⟩
  rw [st_NoReading_init]
  obtain ⟨x, rfl, hx, k⟩ := h
  ((with_reducible refine s_seq ?_); (with_reducible refine s_drop ?_); (with_reducible refine s_veI ?_); (with_reducible refine s_cons ?_); (with_reducible refine' s_var ?q18 ?q19); (case q18 => exact rfl); (with_reducible refine s_cons ?_); (with_reducible refine s_c ?_); (with_reducible refine s_nil ?_))
  refine ⟨x, _, _, rfl, by simp, oex_NoReading, hx, ?_⟩
  ((with_reducible refine s_ost ?_); (with_reducible refine' s_var ?q20 ?q21); (case q20 => exact rfl); (with_reducible refine' s_var ?q22 ?q23); (case q22 => exact rfl))
  exact ⟨x, C_NoReading, rfl, oex_NoReading, xn_NoReading, .inl ⟨hx, fun dx h1 h2 => k dx h1 h2⟩⟩
def letters : List Nat := (Str.ofString "abcdefghijklmnopqrstuvwxyz").cps.toList
def nameB : PyData → Bool
  | .str z => decide ((1 : Int) ≤ z.length) && (decide ((z.length : Int) ≤ 8) && z.cps.toList.all fun c => decide (c ∈ letters))
  | _ => false
def TxD (d : PyData) : Prop := ∀ z, d = .str z → Tx 1000 z
theorem z_at {z : Str} {i : Nat} {x : V} {c : Nat} (h : (zV z)[i]? = some x) (k : z.cps.toList[i]? = some c) : x = .str ⟨#[c]⟩ := by
  unfold zV at h
  rw [List.getElem?_map, k] at h
  exact (Option.some.inj h).symm
abbrev nm_is_name : List Str := ["thing", "sign"]
theorem sc_is_name : FnScope nm_is_name ["thing"] (defScope s_is_name) := ⟨rfl, rfl, rfl, by decide +kernel, rfl, by decide +kernel, by decide +kernel⟩
theorem st_is_name (a : V) : start nm_is_name [a] = [some a, none] := rfl
def p_is_name (w : Wd) (a : V) (Q : VK) (_ : XK) : Prop := ∃ d, Rp w.S a d ∧ TxD d ∧ ∀ v, Ext Non w v → Q (.bl (nameB d)) v.H
theorem ok_is_name {f : Addr} {fd : FuncData} {C_Entry C_Within C_At C_Between C_Read C_Joint C_Sifted C_LogError C_NoBond C_NoEntry C_NoMinutes C_NoMoment C_NoName C_NoPlace C_NoReading C_Taken C_TooMany : Addr} (F : Fun K "is_name" "is_name" s_is_name f fd) (T : Txt K mg C_Entry C_Within C_At C_Between C_Read C_Joint C_Sifted C_LogError C_NoBond C_NoEntry C_NoMinutes C_NoMoment C_NoName C_NoPlace C_NoReading C_Taken C_TooMany)  : FnOk P ww K mg base CX0 1 f fd ["thing"] (pr1 (p_is_name)) := by
  refine F.ok sc_is_name (fun vs H Q E h => len1 h) (fun cdv A outer s H vs Q E hr h => ?_)
  obtain ⟨w, x0,  rfl, rfl, h⟩ := h
  have ekT := ek_T (P := P) (ww := ww) (base := base) T
  have oex_NoBond := T.oex_NoBond; have xf_NoBond := T.xf_NoBond; have ec_NoBond := T.ec_NoBond; have xn_NoBond := T.xn_NoBond
  have oex_NoEntry := T.oex_NoEntry; have xf_NoEntry := T.xf_NoEntry; have ec_NoEntry := T.ec_NoEntry; have xn_NoEntry := T.xn_NoEntry
  have oex_NoMinutes := T.oex_NoMinutes; have xf_NoMinutes := T.xf_NoMinutes; have ec_NoMinutes := T.ec_NoMinutes; have xn_NoMinutes := T.xn_NoMinutes
  have oex_NoMoment := T.oex_NoMoment; have xf_NoMoment := T.xf_NoMoment; have ec_NoMoment := T.ec_NoMoment; have xn_NoMoment := T.xn_NoMoment
  have oex_NoName := T.oex_NoName; have xf_NoName := T.xf_NoName; have ec_NoName := T.ec_NoName; have xn_NoName := T.xn_NoName
  have oex_NoPlace := T.oex_NoPlace; have xf_NoPlace := T.xf_NoPlace; have ec_NoPlace := T.ec_NoPlace; have xn_NoPlace := T.xn_NoPlace
  have oex_NoReading := T.oex_NoReading; have xf_NoReading := T.xf_NoReading; have ec_NoReading := T.ec_NoReading; have xn_NoReading := T.xn_NoReading
  have oex_Taken := T.oex_Taken; have xf_Taken := T.xf_Taken; have ec_Taken := T.ec_Taken; have xn_Taken := T.xn_Taken
  have oex_TooMany := T.oex_TooMany; have xf_TooMany := T.xf_TooMany; have ec_TooMany := T.ec_TooMany; have xn_TooMany := T.xn_TooMany
  refine ⟨_, (pss_cons (ps_if (PW.pt (pw_or (pt_not (pt_val (pe_callB (kIsi K) (by rfl) T.n_isinstance (by decide +kernel) (pa_cons (pv 0) (pa_cons (pe_bltn (v := .ty "str") (u := .type "str") rfl T.n_str (by decide +kernel) rfl) pa_nil))))) (pw_or1 (pt_not (pt_chain g_le g_le pe_int (pe_callB (kLen K) (by rfl) T.n_len (by decide +kernel) (pa_cons (pv 0) pa_nil)) (pe_gco rfl T.c_LONGEST_NAME)))))) (pss_one (ps_ret pe_bl)) pss_nil)
      (pss_one (ps_ret (pe_callB (kAll K rfl) (by rfl) T.n_all (by decide +kernel) (pa_cons (pe_lc (own := [("sign", 1)]) (g := (gName 1)) (tt := tYes) (by rfl) sc_is_name.nd (pi_str (pv 0)) (blkOk_by (own := [("sign", 1)]) (N := nm_is_name) (sc := defScope s_is_name) (by decide +kernel)) (fun _ _ _ _ _ => (pg_name (i := 1) sc_is_name.nd rfl (Or.inl rfl))) (fun _ _ _ _ _ => pts_nil) (fun _ _ _ _ _ => (pe_cmpR (kIn K) (pv 1) (pe_gco rfl T.c_LETTERS) (by rfl)))) pa_nil))))), ?_⟩
  rw [st_is_name]
  obtain ⟨d, hd, hT, k⟩ := h
  ((with_reducible refine s_seq ?_); (with_reducible refine s_ifS ?_); (with_reducible refine s_or ?_); (with_reducible refine s_not ?_); (with_reducible refine s_B ?_); (with_reducible refine s_CB ?_); (with_reducible refine s_cons ?_); (with_reducible refine' s_var ?q0 ?q1); (case q0 => exact rfl); (with_reducible refine s_cons ?_); (with_reducible refine s_c ?_); (with_reducible refine s_nil ?_); (with_reducible refine' sd_str ?q2 ?q3); (case q2 => assumption); (with_reducible refine s_bl ?_))
  refine ite_n (fun hb => ?_) (fun hb => ?_)
  · ((with_reducible refine ite_tt ?_); (with_reducible refine s_ret ?_); (with_reducible refine s_c ?_))
    have e : nameB d = false := by cases d <;> first | rfl | cases hb
    exact e ▸ k w (Ext.refl _ _)
  · obtain ⟨z, rfl⟩ := isStr_inv hb
    obtain rfl := hd.str_inv
    have tz : Tx 1000 z := hT z rfl
    have hzs : z.cps.size ≤ 1000 := tz.1
    ((with_reducible refine s_not ?_); (with_reducible refine s_test ?_); (with_reducible refine s_chain ?_); (with_reducible refine s_c ?_); (with_reducible refine s_CB ?_); (with_reducible refine s_cons ?_); (with_reducible refine' s_var ?q4 ?q5); (case q4 => exact rfl); (with_reducible refine s_nil ?_); (with_reducible refine' s_lenZ ?q6 ?q7); (case q6 => refine' Tx.sz ?q8 ?q9; (case q8 => assumption); (case q9 => decide)); (with_reducible refine s_le ?_); (with_reducible refine s_bl ?_))
    refine ite_d (fun c1 => ?_) (fun c1 => ?_)
    · ((with_reducible refine s_c ?_); (with_reducible refine s_le ?_); (with_reducible refine s_bl ?_))
      refine ite_nd (fun c2 => ?_) (fun c2 => ?_)
      · ((with_reducible refine s_ret ?_); (with_reducible refine s_c ?_))
        have e : nameB (.str z) = false := by simp only [nameB]; rw [decide_eq_false c2]; simp
        exact e ▸ k w (Ext.refl _ _)
      · ((with_reducible refine s_next ?_); (with_reducible refine s_ret ?_); (with_reducible refine s_CB ?_); (with_reducible refine s_cons ?_); (with_reducible refine s_Lc ?_); (with_reducible refine s_iStr ?_); (with_reducible refine' s_var ?q10 ?q11); (case q10 => exact rfl))
        refine ⟨z, rfl, ?_⟩
        intro D hD
        refine lc_gen (rows := z.cps.toList) (ww_strI (z := z)) (fun _ => true) (fun c => .bool (decide (c ∈ letters))) hD (by rw [Array.length_toList]) (by rw [sizeLine_eq]; omega) (fun _ _ => trivial) ?_ ?_
        · intro i x c u hi hx hq e R Z hR hZ
          obtain rfl := z_at hx hq
          ((with_reducible refine' s_gname ?q12 ?q13); (case q12 => exact rfl))
          refine ⟨rfl, s_yes (ite_tt ?_)⟩
          ((with_reducible refine s_op ?_); (with_reducible refine' s_var ?q14 ?q15); (case q14 => exact rfl); (with_reducible refine s_c ?_); (with_reducible refine s_inZ ?_))
          exact hR _ _ (Ext.refl _ _) rfl (.bl _)
        · intro u acc eu hD' o ha2
          rw [filter_all] at ha2
          obtain rfl := RpA.bools_inv ha2
          ((with_reducible refine s_nil ?_); (with_reducible refine' s_allO ?q16 ?q17); (case q16 => assumption))
          have e : nameB (.str z) = (z.cps.toList.map fun c => decide (c ∈ letters)).all id := by
            simp only [nameB]
            rw [decide_eq_true c1, decide_eq_true c2, List.all_map]
            rfl
          rw [← e]
          exact k _ (by (assumption))
    · ((with_reducible refine s_bl ?_); (with_reducible refine ite_nf ?_); (with_reducible refine s_ret ?_); (with_reducible refine s_c ?_))
      have e : nameB (.str z) = false := by simp only [nameB]; rw [decide_eq_false c1]; simp
      exact e ▸ k w (Ext.refl _ _)
local macro_rules | `(tactic| wtm_at "go1") => `(tactic| first
  | with_reducible refine s_pr5 ?_
  | with_reducible refine s_pm4 ?_
  | with_reducible refine s_pm5 ?_
  | with_reducible refine s_pq1 ?_
  | with_reducible refine s_pq2 ?_
  | fail "go1e")
abbrev nm_NoName_init : List Str := ["self", "found"]
theorem sc_NoName_init : FnScope nm_NoName_init ["self", "found"] (defScope s_NoName_init) := ⟨rfl, rfl, rfl, by decide +kernel, rfl, by decide +kernel, by decide +kernel⟩
theorem st_NoName_init (a b : V) : start nm_NoName_init [a, b] = [some a, some b] := rfl
abbrev p_NoName_init (C : Addr) := initX (Str.ofString "found") C
theorem ok_NoName_init {f : Addr} {fd : FuncData} {C_Entry C_Within C_At C_Between C_Read C_Joint C_Sifted C_LogError C_NoBond C_NoEntry C_NoMinutes C_NoMoment C_NoName C_NoPlace C_NoReading C_Taken C_TooMany : Addr} (F : Fun K "__init__" "NoName.__init__" s_NoName_init f fd) (T : Txt K mg C_Entry C_Within C_At C_Between C_Read C_Joint C_Sifted C_LogError C_NoBond C_NoEntry C_NoMinutes C_NoMoment C_NoName C_NoPlace C_NoReading C_Taken C_TooMany)  : FnOk P ww K mg base CX0 1 f fd ["self", "found"] (pr2 (p_NoName_init C_NoName)) := by
  refine F.ok sc_NoName_init (fun vs H Q E h => len2 h) (fun cdv A outer s H vs Q E hr h => ?_)
  obtain ⟨w, x0, x1,  rfl, rfl, h⟩ := h
  have ekT := ek_T (P := P) (ww := ww) (base := base) T
  have oex_NoBond := T.oex_NoBond; have xf_NoBond := T.xf_NoBond; have ec_NoBond := T.ec_NoBond; have xn_NoBond := T.xn_NoBond
  have oex_NoEntry := T.oex_NoEntry; have xf_NoEntry := T.xf_NoEntry; have ec_NoEntry := T.ec_NoEntry; have xn_NoEntry := T.xn_NoEntry
  have oex_NoMinutes := T.oex_NoMinutes; have xf_NoMinutes := T.xf_NoMinutes; have ec_NoMinutes := T.ec_NoMinutes; have xn_NoMinutes := T.xn_NoMinutes
  have oex_NoMoment := T.oex_NoMoment; have xf_NoMoment := T.xf_NoMoment; have ec_NoMoment := T.ec_NoMoment; have xn_NoMoment := T.xn_NoMoment
  have oex_NoName := T.oex_NoName; have xf_NoName := T.xf_NoName; have ec_NoName := T.ec_NoName; have xn_NoName := T.xn_NoName
  have oex_NoPlace := T.oex_NoPlace; have xf_NoPlace := T.xf_NoPlace; have ec_NoPlace := T.ec_NoPlace; have xn_NoPlace := T.xn_NoPlace
  have oex_NoReading := T.oex_NoReading; have xf_NoReading := T.xf_NoReading; have ec_NoReading := T.ec_NoReading; have xn_NoReading := T.xn_NoReading
  have oex_Taken := T.oex_Taken; have xf_Taken := T.xf_Taken; have ec_Taken := T.ec_Taken; have xn_Taken := T.xn_Taken
  have oex_TooMany := T.oex_TooMany; have xf_TooMany := T.xf_TooMany; have ec_TooMany := T.ec_TooMany; have xn_TooMany := T.xn_TooMany
  refine ⟨_, (pss_cons (ps_expr (pe_xinit (pe_glob (v := .ref C_LogError) (u := .ref C_LogError) rfl T.g_LogError rfl) T.rd_LogError T.gs_LogError T.vv_LogError (pa_cons (pv 0) (pa_cons pe_str pa_nil))))
      (pss_one (ps_ost (pv 0) (pv 1)))), ?_⟩
  rw [st_NoName_init]
  obtain ⟨x, rfl, hx, k⟩ := h
  ((with_reducible refine s_seq ?_); (with_reducible refine s_drop ?_); (with_reducible refine s_veI ?_); (with_reducible refine s_cons ?_); (with_reducible refine' s_var ?q18 ?q19); (case q18 => exact rfl); (with_reducible refine s_cons ?_); (with_reducible refine s_c ?_); (with_reducible refine s_nil ?_))
  refine ⟨x, _, _, rfl, by simp, oex_NoName, hx, ?_⟩
  ((with_reducible refine s_ost ?_); (with_reducible refine' s_var ?q20 ?q21); (case q20 => exact rfl); (with_reducible refine' s_var ?q22 ?q23); (case q22 => exact rfl))
  exact ⟨x, C_NoName, rfl, oex_NoName, xn_NoName, .inl ⟨hx, fun dx h1 h2 => k dx h1 h2⟩⟩
abbrev nm_NoPlace_init : List Str := ["self", "found"]
theorem sc_NoPlace_init : FnScope nm_NoPlace_init ["self", "found"] (defScope s_NoPlace_init) := ⟨rfl, rfl, rfl, by decide +kernel, rfl, by decide +kernel, by decide +kernel⟩
theorem st_NoPlace_init (a b : V) : start nm_NoPlace_init [a, b] = [some a, some b] := rfl
abbrev p_NoPlace_init (C : Addr) := initX (Str.ofString "found") C
theorem ok_NoPlace_init {f : Addr} {fd : FuncData} {C_Entry C_Within C_At C_Between C_Read C_Joint C_Sifted C_LogError C_NoBond C_NoEntry C_NoMinutes C_NoMoment C_NoName C_NoPlace C_NoReading C_Taken C_TooMany : Addr} (F : Fun K "__init__" "NoPlace.__init__" s_NoPlace_init f fd) (T : Txt K mg C_Entry C_Within C_At C_Between C_Read C_Joint C_Sifted C_LogError C_NoBond C_NoEntry C_NoMinutes C_NoMoment C_NoName C_NoPlace C_NoReading C_Taken C_TooMany)  : FnOk P ww K mg base CX0 1 f fd ["self", "found"] (pr2 (p_NoPlace_init C_NoPlace)) := by
  refine F.ok sc_NoPlace_init (fun vs H Q E h => len2 h) (fun cdv A outer s H vs Q E hr h => ?_)
  obtain ⟨w, x0, x1,  rfl, rfl, h⟩ := h
  have ekT := ek_T (P := P) (ww := ww) (base := base) T
  have oex_NoBond := T.oex_NoBond; have xf_NoBond := T.xf_NoBond; have ec_NoBond := T.ec_NoBond; have xn_NoBond := T.xn_NoBond
  have oex_NoEntry := T.oex_NoEntry; have xf_NoEntry := T.xf_NoEntry; have ec_NoEntry := T.ec_NoEntry; have xn_NoEntry := T.xn_NoEntry
  have oex_NoMinutes := T.oex_NoMinutes; have xf_NoMinutes := T.xf_NoMinutes; have ec_NoMinutes := T.ec_NoMinutes; have xn_NoMinutes := T.xn_NoMinutes
  have oex_NoMoment := T.oex_NoMoment; have xf_NoMoment := T.xf_NoMoment; have ec_NoMoment := T.ec_NoMoment; have xn_NoMoment := T.xn_NoMoment
  have oex_NoName := T.oex_NoName; have xf_NoName := T.xf_NoName; have ec_NoName := T.ec_NoName; have xn_NoName := T.xn_NoName
  have oex_NoPlace := T.oex_NoPlace; have xf_NoPlace := T.xf_NoPlace; have ec_NoPlace := T.ec_NoPlace; have xn_NoPlace := T.xn_NoPlace
  have oex_NoReading := T.oex_NoReading; have xf_NoReading := T.xf_NoReading; have ec_NoReading := T.ec_NoReading; have xn_NoReading := T.xn_NoReading
  have oex_Taken := T.oex_Taken; have xf_Taken := T.xf_Taken; have ec_Taken := T.ec_Taken; have xn_Taken := T.xn_Taken
  have oex_TooMany := T.oex_TooMany; have xf_TooMany := T.xf_TooMany; have ec_TooMany := T.ec_TooMany; have xn_TooMany := T.xn_TooMany
  refine ⟨_, (pss_cons (ps_expr (pe_xinit (pe_glob (v := .ref C_LogError) (u := .ref C_LogError) rfl T.g_LogError rfl) T.rd_LogError T.gs_LogError T.vv_LogError (pa_cons (pv 0) (pa_cons pe_str pa_nil))))
      (pss_one (ps_ost (pv 0) (pv 1)))), ?_⟩
  rw [st_NoPlace_init]
  obtain ⟨x, rfl, hx, k⟩ := h
  ((with_reducible refine s_seq ?_); (with_reducible refine s_drop ?_); (with_reducible refine s_veI ?_); (with_reducible refine s_cons ?_); (with_reducible refine' s_var ?q24 ?q25); (case q24 => exact rfl); (with_reducible refine s_cons ?_); (with_reducible refine s_c ?_); (with_reducible refine s_nil ?_))
  refine ⟨x, _, _, rfl, by simp, oex_NoPlace, hx, ?_⟩
  ((with_reducible refine s_ost ?_); (with_reducible refine' s_var ?q26 ?q27); (case q26 => exact rfl); (with_reducible refine' s_var ?q28 ?q29); (case q28 => exact rfl))
  exact ⟨x, C_NoPlace, rfl, oex_NoPlace, xn_NoPlace, .inl ⟨hx, fun dx h1 h2 => k dx h1 h2⟩⟩
abbrev nm_NoMoment_init : List Str := ["self", "found"]
theorem sc_NoMoment_init : FnScope nm_NoMoment_init ["self", "found"] (defScope s_NoMoment_init) := ⟨rfl, rfl, rfl, by decide +kernel, rfl, by decide +kernel, by decide +kernel⟩
theorem st_NoMoment_init (a b : V) : start nm_NoMoment_init [a, b] = [some a, some b] := rfl
abbrev p_NoMoment_init (C : Addr) := initX (Str.ofString "found") C
theorem ok_NoMoment_init {f : Addr} {fd : FuncData} {C_Entry C_Within C_At C_Between C_Read C_Joint C_Sifted C_LogError C_NoBond C_NoEntry C_NoMinutes C_NoMoment C_NoName C_NoPlace C_NoReading C_Taken C_TooMany : Addr} (F : Fun K "__init__" "NoMoment.__init__" s_NoMoment_init f fd) (T : Txt K mg C_Entry C_Within C_At C_Between C_Read C_Joint C_Sifted C_LogError C_NoBond C_NoEntry C_NoMinutes C_NoMoment C_NoName C_NoPlace C_NoReading C_Taken C_TooMany)  : FnOk P ww K mg base CX0 1 f fd ["self", "found"] (pr2 (p_NoMoment_init C_NoMoment)) := by
  refine F.ok sc_NoMoment_init (fun vs H Q E h => len2 h) (fun cdv A outer s H vs Q E hr h => ?_)
  obtain ⟨w, x0, x1,  rfl, rfl, h⟩ := h
  have ekT := ek_T (P := P) (ww := ww) (base := base) T
  have oex_NoBond := T.oex_NoBond; have xf_NoBond := T.xf_NoBond; have ec_NoBond := T.ec_NoBond; have xn_NoBond := T.xn_NoBond
  have oex_NoEntry := T.oex_NoEntry; have xf_NoEntry := T.xf_NoEntry; have ec_NoEntry := T.ec_NoEntry; have xn_NoEntry := T.xn_NoEntry
  have oex_NoMinutes := T.oex_NoMinutes; have xf_NoMinutes := T.xf_NoMinutes; have ec_NoMinutes := T.ec_NoMinutes; have xn_NoMinutes := T.xn_NoMinutes
  have oex_NoMoment := T.oex_NoMoment; have xf_NoMoment := T.xf_NoMoment; have ec_NoMoment := T.ec_NoMoment; have xn_NoMoment := T.xn_NoMoment
  have oex_NoName := T.oex_NoName; have xf_NoName := T.xf_NoName; have ec_NoName := T.ec_NoName; have xn_NoName := T.xn_NoName
  have oex_NoPlace := T.oex_NoPlace; have xf_NoPlace := T.xf_NoPlace; have ec_NoPlace := T.ec_NoPlace; have xn_NoPlace := T.xn_NoPlace
  have oex_NoReading := T.oex_NoReading; have xf_NoReading := T.xf_NoReading; have ec_NoReading := T.ec_NoReading; have xn_NoReading := T.xn_NoReading
  have oex_Taken := T.oex_Taken; have xf_Taken := T.xf_Taken; have ec_Taken := T.ec_Taken; have xn_Taken := T.xn_Taken
  have oex_TooMany := T.oex_TooMany; have xf_TooMany := T.xf_TooMany; have ec_TooMany := T.ec_TooMany; have xn_TooMany := T.xn_TooMany
  refine ⟨_, (pss_cons (ps_expr (pe_xinit (pe_glob (v := .ref C_LogError) (u := .ref C_LogError) rfl T.g_LogError rfl) T.rd_LogError T.gs_LogError T.vv_LogError (pa_cons (pv 0) (pa_cons pe_str pa_nil))))
      (pss_one (ps_ost (pv 0) (pv 1)))), ?_⟩
  rw [st_NoMoment_init]
  obtain ⟨x, rfl, hx, k⟩ := h
  ((with_reducible refine s_seq ?_); (with_reducible refine s_drop ?_); (with_reducible refine s_veI ?_); (with_reducible refine s_cons ?_); (with_reducible refine' s_var ?q30 ?q31); (case q30 => exact rfl); (with_reducible refine s_cons ?_); (with_reducible refine s_c ?_); (with_reducible refine s_nil ?_))
  refine ⟨x, _, _, rfl, by simp, oex_NoMoment, hx, ?_⟩
  ((with_reducible refine s_ost ?_); (with_reducible refine' s_var ?q32 ?q33); (case q32 => exact rfl); (with_reducible refine' s_var ?q34 ?q35); (case q34 => exact rfl))
  exact ⟨x, C_NoMoment, rfl, oex_NoMoment, xn_NoMoment, .inl ⟨hx, fun dx h1 h2 => k dx h1 h2⟩⟩
abbrev nm_Entry_init : List Str := ["self", "name"]
theorem sc_Entry_init : FnScope nm_Entry_init ["self", "name"] (defScope s_Entry_init) := ⟨rfl, rfl, rfl, by decide +kernel, rfl, by decide +kernel, by decide +kernel⟩
theorem st_Entry_init (a b : V) : start nm_Entry_init [a, b] = [some a, some b] := rfl
def p_Entry_init (K : PySem.W.Frag) (N : Addr) (w : Wd) (a b : V) (Q : VK) (E : XK) : Prop := ∃ x C dx d, a = .ref x ∧ Own w x (.ins C dx []) ∧ Ecl K C ∧ Rp w.S b d ∧ TxD d ∧
  (∀ z, d = .str z → nameB d = true → ∀ v, Ext (One x) w v → Own v x (.ins C dx [("name", .str z)]) → Q .non v.H) ∧
  (nameB d = false → Rz (One x) w N b E)
theorem ok_Entry_init {f : Addr} {fd : FuncData} {C_Entry C_Within C_At C_Between C_Read C_Joint C_Sifted C_LogError C_NoBond C_NoEntry C_NoMinutes C_NoMoment C_NoName C_NoPlace C_NoReading C_Taken C_TooMany : Addr} (F : Fun K "__init__" "Entry.__init__" s_Entry_init f fd) (T : Txt K mg C_Entry C_Within C_At C_Between C_Read C_Joint C_Sifted C_LogError C_NoBond C_NoEntry C_NoMinutes C_NoMoment C_NoName C_NoPlace C_NoReading C_Taken C_TooMany) (c_NoName_init : Mxr P ww K mg base C_NoName 1 (pr2 (p_NoName_init C_NoName))) (c_is_name : Fnc P ww K mg base CX0 1 "is_name" (pr1 (p_is_name))) : FnOk P ww K mg base (L2.CX P ww) 3 f fd ["self", "name"] (pr2 (p_Entry_init K C_NoName)) := by
  refine F.okX sc_Entry_init (fun vs H Q E h => len2 h) (fun cdv A outer s H vs Q E hr h => ?_)
  obtain ⟨w, x0, x1,  rfl, rfl, h⟩ := h
  have ekT := ek_T (P := P) (ww := ww) (base := base) T
  have oex_NoBond := T.oex_NoBond; have xf_NoBond := T.xf_NoBond; have ec_NoBond := T.ec_NoBond; have xn_NoBond := T.xn_NoBond
  have oex_NoEntry := T.oex_NoEntry; have xf_NoEntry := T.xf_NoEntry; have ec_NoEntry := T.ec_NoEntry; have xn_NoEntry := T.xn_NoEntry
  have oex_NoMinutes := T.oex_NoMinutes; have xf_NoMinutes := T.xf_NoMinutes; have ec_NoMinutes := T.ec_NoMinutes; have xn_NoMinutes := T.xn_NoMinutes
  have oex_NoMoment := T.oex_NoMoment; have xf_NoMoment := T.xf_NoMoment; have ec_NoMoment := T.ec_NoMoment; have xn_NoMoment := T.xn_NoMoment
  have oex_NoName := T.oex_NoName; have xf_NoName := T.xf_NoName; have ec_NoName := T.ec_NoName; have xn_NoName := T.xn_NoName
  have oex_NoPlace := T.oex_NoPlace; have xf_NoPlace := T.xf_NoPlace; have ec_NoPlace := T.ec_NoPlace; have xn_NoPlace := T.xn_NoPlace
  have oex_NoReading := T.oex_NoReading; have xf_NoReading := T.xf_NoReading; have ec_NoReading := T.ec_NoReading; have xn_NoReading := T.xn_NoReading
  have oex_Taken := T.oex_Taken; have xf_Taken := T.xf_Taken; have ec_Taken := T.ec_Taken; have xn_Taken := T.xn_Taken
  have oex_TooMany := T.oex_TooMany; have xf_TooMany := T.xf_TooMany; have ec_TooMany := T.ec_TooMany; have xn_TooMany := T.xn_TooMany
  refine ⟨_, (pss_cons (ps_if (pt_not (pt_val (pe_fn c_is_name hr (by decide) pass0 (pa_cons (pv 1) pa_nil)))) (pss_one (ps_raiseX rfl (takes_of rfl rfl rfl rfl) c_NoName_init hr (by decide) T.g_NoName (pa_cons (pv 1) pa_nil))) pss_nil)
      (pss_one (ps_fld (pv 0) (pv 1) rfl))), ?_⟩
  rw [st_Entry_init]
  obtain ⟨x, C, dx, d, rfl, o, ec, hd, tx, k1, k2⟩ := h
  have cl := ec.cl; have na := ec.name
  ((with_reducible refine s_seq ?_); (with_reducible refine s_ifS ?_); (with_reducible refine s_not ?_); (with_reducible refine s_B ?_); (with_reducible refine s_call ?_); (with_reducible refine s_cons ?_); (with_reducible refine' s_var ?q36 ?q37); (case q36 => exact rfl); (with_reducible refine s_nil ?_); (with_reducible refine s_pr1 ?_))
  refine ⟨d, hd, tx, fun v1 e1 => ?_⟩
  cases hn : nameB d with
  | false =>
    ((with_reducible refine s_bl ?_); (with_reducible refine ite_nf ?_))
    refine s_raiseX rfl ?_
    ((with_reducible refine s_cons ?_); (with_reducible refine' s_var ?q38 ?q39); (case q38 => exact rfl); (with_reducible refine s_nil ?_))
    exact s_raised (W := fun cls d _ H => E cls d H) (σ := []) fun e v ev n o => k2 hn v e (by (refine' Ext.step ?q40 ?q41 ?q42; (case q41 => assumption); (case q40 => refine' Ext.step ?q43 ?q44 ?q45; (case q44 => assumption); (case q43 => exact Ext.refl _ _); (case q45 => exact fun _ z => z.elim)); (case q42 => exact fun _ z => z.elim))) (e1.back n) o
  | true =>
    obtain ⟨z, rfl⟩ : ∃ z, d = .str z := by cases d <;> first | exact ⟨_, rfl⟩ | cases hn
    obtain rfl := hd.str_inv
    ((with_reducible refine s_bl ?_); (with_reducible refine ite_nt ?_); (with_reducible refine s_next ?_); (with_reducible refine s_sfld ?_); (with_reducible refine' s_var ?q49 ?q50); (case q49 => exact rfl); (with_reducible refine' s_var ?q51 ?q52); (case q51 => exact rfl); (with_reducible refine' s_rsfl ?q53 ?q54 ?q55 ?q56 ?q57 ?q58); (case q53 => refine' Own.ext ( by assumption ) ?q59 ?q60; (case q59 => exact fun h => h); (case q60 => assumption)); (case q54 => assumption); (case q55 => assumption); (case q56 => simp only [ List.length_cons , List.length_nil ]; omega); (case q57 => exact pf_nil); intro _ _ _)
    exact k1 z rfl hn _ (by (refine' Ext.step ?q61 ?q62 ?q63; (case q62 => assumption); (case q61 => refine' Ext.step ?q64 ?q65 ?q66; (case q65 => assumption); (case q64 => exact Ext.refl _ _); (case q66 => exact fun _ z => z.elim)); (case q63 => refine tch_one ?q67; refine Or.inr ?_; rfl))) (by (assumption))
abbrev nm_Within_init : List Str := ["self", "name", "low", "high", "moment"]
theorem sc_Within_init : FnScope nm_Within_init ["self", "name", "low", "high"] (defScope s_Within_init) := ⟨rfl, rfl, rfl, by decide +kernel, rfl, by decide +kernel, by decide +kernel⟩
theorem st_Within_init (a b c d : V) : start nm_Within_init [a, b, c, d] = [some a, some b, some c, some d, none] := rfl
def p_Within_init (K : PySem.W.Frag) (N M : Addr) (w : Wd) (a b c d : V) (Q : VK) (E : XK) : Prop := ∃ x C dx dn dl dh, a = .ref x ∧ Own w x (.ins C dx []) ∧ Ecl K C ∧ Rp w.S b dn ∧ TxD dn ∧ Rp w.S c dl ∧ Rp w.S d dh ∧
  (∀ z lo hi, dn = .str z → nameB dn = true → dl = .int lo → dh = .int hi → 0 ≤ lo → lo ≤ 1000000000 → 0 ≤ hi → hi ≤ 1000000000 → ∀ v, Ext (One x) w v → Own v x (.ins C dx [("name", .str z), ("low", .int lo), ("high", .int hi)]) → Q .non v.H) ∧
  (nameB dn = false → Rz (One x) w N b E) ∧ (nameB dn = true → wholeB dl 0 1000000000 = false → Rz (One x) w M c E) ∧ (nameB dn = true → wholeB dl 0 1000000000 = true → wholeB dh 0 1000000000 = false → Rz (One x) w M d E)
theorem ok_Within_init {f : Addr} {fd : FuncData} {C_Entry C_Within C_At C_Between C_Read C_Joint C_Sifted C_LogError C_NoBond C_NoEntry C_NoMinutes C_NoMoment C_NoName C_NoPlace C_NoReading C_Taken C_TooMany : Addr} (F : Fun K "__init__" "Within.__init__" s_Within_init f fd) (T : Txt K mg C_Entry C_Within C_At C_Between C_Read C_Joint C_Sifted C_LogError C_NoBond C_NoEntry C_NoMinutes C_NoMoment C_NoName C_NoPlace C_NoReading C_Taken C_TooMany) (c_NoMoment_init : Mxr P ww K mg base C_NoMoment 1 (pr2 (p_NoMoment_init C_NoMoment))) (c_is_moment : Fnc P ww K mg base CX0 2 "is_moment" (pr1 (p_is_moment))) (b_Entry_init : Bin P ww K mg base (L2.CX P ww) C_Entry 3 (pr2 (p_Entry_init K C_NoName))) : FnOk P ww K mg base (L2.CX P ww) 4 f fd ["self", "name", "low", "high"] (pr4 (p_Within_init K C_NoName C_NoMoment)) := by
  refine F.okX sc_Within_init (fun vs H Q E h => len4 h) (fun cdv A outer s H vs Q E hr h => ?_)
  obtain ⟨w, x0, x1, x2, x3,  rfl, rfl, h⟩ := h
  have ekT := ek_T (P := P) (ww := ww) (base := base) T
  have oex_NoBond := T.oex_NoBond; have xf_NoBond := T.xf_NoBond; have ec_NoBond := T.ec_NoBond; have xn_NoBond := T.xn_NoBond
  have oex_NoEntry := T.oex_NoEntry; have xf_NoEntry := T.xf_NoEntry; have ec_NoEntry := T.ec_NoEntry; have xn_NoEntry := T.xn_NoEntry
  have oex_NoMinutes := T.oex_NoMinutes; have xf_NoMinutes := T.xf_NoMinutes; have ec_NoMinutes := T.ec_NoMinutes; have xn_NoMinutes := T.xn_NoMinutes
  have oex_NoMoment := T.oex_NoMoment; have xf_NoMoment := T.xf_NoMoment; have ec_NoMoment := T.ec_NoMoment; have xn_NoMoment := T.xn_NoMoment
  have oex_NoName := T.oex_NoName; have xf_NoName := T.xf_NoName; have ec_NoName := T.ec_NoName; have xn_NoName := T.xn_NoName
  have oex_NoPlace := T.oex_NoPlace; have xf_NoPlace := T.xf_NoPlace; have ec_NoPlace := T.ec_NoPlace; have xn_NoPlace := T.xn_NoPlace
  have oex_NoReading := T.oex_NoReading; have xf_NoReading := T.xf_NoReading; have ec_NoReading := T.ec_NoReading; have xn_NoReading := T.xn_NoReading
  have oex_Taken := T.oex_Taken; have xf_Taken := T.xf_Taken; have ec_Taken := T.ec_Taken; have xn_Taken := T.xn_Taken
  have oex_TooMany := T.oex_TooMany; have xf_TooMany := T.xf_TooMany; have ec_TooMany := T.ec_TooMany; have xn_TooMany := T.xn_TooMany
  refine ⟨_, (pss_cons (ps_expr (pe_bin (takes_of rfl rfl rfl rfl) b_Entry_init hr (by decide) (pe_glob (v := .ref C_Entry) (u := .ref C_Entry) rfl T.g_Entry rfl) (pa_cons (pv 0) (pa_cons (pv 1) pa_nil))))
      (pss_cons (ps_for (passes_of rfl) rfl (kpTup K (pe_tup (pa_cons (pv 2) (pa_cons (pv 3) pa_nil)))) (pg_name (i := 4) sc_Within_init.nd rfl (Or.inl rfl)) (pss_one (ps_if (pt_not (pt_val (pe_fn c_is_moment hr (by decide) pass0 (pa_cons (pv 4) pa_nil)))) (pss_one (ps_raiseX rfl (takes_of rfl rfl rfl rfl) c_NoMoment_init hr (by decide) T.g_NoMoment (pa_cons (pv 4) pa_nil))) pss_nil)))
      (pss_cons (ps_fld (pv 0) (pv 2) rfl)
      (pss_one (ps_fld (pv 0) (pv 3) rfl))))), ?_⟩
  rw [st_Within_init]
  obtain ⟨x, C, dx, dn, dl, dh, rfl, o, ec, hn, tx, hl, hh, k1, k2, k3, k4⟩ := h
  have cl := ec.cl; have na := ec.name; have nl := ec.low; have nh := ec.high
  ((with_reducible refine s_seq ?_); (with_reducible refine s_drop ?_); (with_reducible refine s_callX ?_); (with_reducible refine s_cons ?_); (with_reducible refine' s_var ?q68 ?q69); (case q68 => exact rfl); (with_reducible refine s_cons ?_); (with_reducible refine' s_var ?q70 ?q71); (case q70 => exact rfl); (with_reducible refine s_nil ?_); (with_reducible refine s_pr2 ?_))
  refine ⟨x, C, dx, dn, rfl, o, ec, hn, tx, fun z hz hb v1 e1 o1 => ?_, k2⟩
  subst hz
  ((with_reducible refine s_seq ?_); (with_reducible refine s_for ?_); (with_reducible refine s_iTup ?_); (with_reducible refine t_tup ?_); (with_reducible refine s_cons ?_); (with_reducible refine' s_var ?q72 ?q73); (case q72 => exact rfl); (with_reducible refine s_cons ?_); (with_reducible refine' s_var ?q74 ?q75); (case q74 => exact rfl); (with_reducible refine s_nil ?_); (with_reducible refine' t_newT ?q76 ?q77); (case q76 => simp only [ List.length , sizeLine_eq ]; omega); intro _ _ _ _ _; refine' ⟨ _ , rfl , ⟨ _ , ?q78 ⟩ , ?q79 ⟩; (case q78 => refine' sqt_of ?q80; (case q80 => assumption)))
  rename_i T v0 e0 n0 s0
  refine forW (ww_tup (xs := [x2, x3])) (fun i σ u => Ext Non v0 u ∧ ∃ g, σ = [some (.ref x), some x1, some x2, some x3, g] ∧ (1 ≤ i → wholeB dl 0 1000000000 = true) ∧ (2 ≤ i → wholeB dh 0 1000000000 = true)) ⟨Ext.refl _ _, _, rfl, (fun z => absurd z (by decide)), (fun z => absurd z (by decide))⟩ (fun i σ u _ hh => sqt_of (st_go hh.1 s0)) ?_ ?_
  · rintro i z σ _ u hi ⟨eu, g, rfl, h1, h2⟩ ⟨rfl, hz⟩
    have hi2 : i < 2 := hi
    have ew0 : Ext (One x) w u := e1.step (e0.trans eu) fun _ z => z.elim
    have hcase : (i = 0 ∧ z = x2) ∨ (i = 1 ∧ z = x3) := by
      match i, hi2 with
      | 0, _ => exact .inl ⟨rfl, by simpa using hz.symm⟩
      | 1, _ => exact .inr ⟨rfl, by simpa using hz.symm⟩
    rcases hcase with ⟨rfl, rfl⟩ | ⟨rfl, rfl⟩
    · ((with_reducible refine' s_gname ?q81 ?q82); (case q81 => simp only [ List.set_cons_succ , List.set_cons_zero ]; exact rfl); (with_reducible refine s_ifS ?_); (with_reducible refine s_not ?_); (with_reducible refine s_B ?_); (with_reducible refine s_call ?_); (with_reducible refine s_cons ?_); (with_reducible refine' s_var ?q83 ?q84); (case q83 => exact rfl); (with_reducible refine s_nil ?_); (with_reducible refine s_pr1 ?_))
      refine ⟨dl, hl.go ew0, fun v2 e2 => ?_⟩
      ((with_reducible refine s_bl ?_))
      refine ite_n (fun hb2 => ?_) (fun hb2 => ?_)
      · skip
        refine s_raiseX rfl ?_
        ((with_reducible refine s_cons ?_); (with_reducible refine' s_var ?q85 ?q86); (case q85 => exact rfl); (with_reducible refine s_nil ?_))
        exact s_raised (W := fun cls d _ H => E cls d H) (σ := []) fun e v ev n o => k3 hb hb2 v e (ew0.step (e2.trans ev) fun _ z => z.elim) (ew0.back (e2.back n)) o
      · ((with_reducible refine s_next ?_); (with_reducible refine wds_i ?_))
        exact ⟨eu.trans e2, _, rfl, (fun _ => hb2), (fun z => absurd z (by decide))⟩
    · have hd1 := h1 (by decide)
      ((with_reducible refine' s_gname ?q87 ?q88); (case q87 => simp only [ List.set_cons_succ , List.set_cons_zero ]; exact rfl); (with_reducible refine s_ifS ?_); (with_reducible refine s_not ?_); (with_reducible refine s_B ?_); (with_reducible refine s_call ?_); (with_reducible refine s_cons ?_); (with_reducible refine' s_var ?q89 ?q90); (case q89 => exact rfl); (with_reducible refine s_nil ?_); (with_reducible refine s_pr1 ?_))
      refine ⟨dh, hh.go ew0, fun v2 e2 => ?_⟩
      ((with_reducible refine s_bl ?_))
      refine ite_n (fun hb2 => ?_) (fun hb2 => ?_)
      · skip
        refine s_raiseX rfl ?_
        ((with_reducible refine s_cons ?_); (with_reducible refine' s_var ?q91 ?q92); (case q91 => exact rfl); (with_reducible refine s_nil ?_))
        exact s_raised (W := fun cls d _ H => E cls d H) (σ := []) fun e v ev n o => k4 hb hd1 hb2 v e (ew0.step (e2.trans ev) fun _ z => z.elim) (ew0.back (e2.back n)) o
      · ((with_reducible refine s_next ?_); (with_reducible refine wds_i ?_))
        exact ⟨eu.trans e2, _, rfl, (fun _ => hd1), (fun _ => hb2)⟩
  rintro σ u ⟨eu, g, rfl, h1, h2⟩
  obtain ⟨lo, rfl, lo0, lo1⟩ := whole_yes (h1 (show 1 ≤ 2 by decide))
  obtain ⟨hi, rfl, hi0, hi1⟩ := whole_yes (h2 (show 2 ≤ 2 by decide))
  obtain rfl := hl.int_inv
  obtain rfl := hh.int_inv
  have ou : Own u x _ := (o1.ext e0 fun z => z).ext eu fun z => z
  have ewu : Ext (One x) w u := e1.step (e0.trans eu) fun _ z => z.elim
  clear e0 eu e1 o1 o s0
  ((with_reducible refine s_seq ?_); (with_reducible refine s_sfld ?_); (with_reducible refine' s_var ?q93 ?q94); (case q93 => exact rfl); (with_reducible refine' s_var ?q95 ?q96); (case q95 => exact rfl); (with_reducible refine' s_rsfl ?q97 ?q98 ?q99 ?q100 ?q101 ?q102); (case q97 => assumption); (case q98 => assumption); (case q99 => assumption); (case q100 => simp only [ List.length_cons , List.length_nil ]; omega); (case q101 => refine' pf_tl ?q103 ?q104; (case q103 => decide +kernel); (case q104 => exact pf_nil)); intro _ _ _; (with_reducible refine s_sfld ?_); (with_reducible refine' s_var ?q105 ?q106); (case q105 => exact rfl); (with_reducible refine' s_var ?q107 ?q108); (case q107 => exact rfl); (with_reducible refine' s_rsfl ?q109 ?q110 ?q111 ?q112 ?q113 ?q114); (case q109 => assumption); (case q110 => assumption); (case q111 => assumption); (case q112 => simp only [ List.length_cons , List.length_nil ]; omega); (case q113 => refine' pf_tl ?q115 ?q116; (case q115 => decide +kernel); (case q116 => refine' pf_tl ?q117 ?q118; (case q117 => decide +kernel); (case q118 => exact pf_nil))); intro _ _ _)
  exact k1 z lo hi rfl hb rfl rfl (by omega) lo1 (by omega) hi1 _ (by (refine' Ext.step ?q119 ?q120 ?q121; (case q120 => assumption); (case q119 => refine' Ext.step ?q122 ?q123 ?q124; (case q123 => assumption); (case q122 => assumption); (case q124 => refine tch_one ?q125; refine Or.inr ?_; rfl)); (case q121 => refine tch_one ?q126; refine Or.inr ?_; rfl))) (by (assumption))
abbrev nm_At_init : List Str := ["self", "name", "moment"]
theorem sc_At_init : FnScope nm_At_init ["self", "name", "moment"] (defScope s_At_init) := ⟨rfl, rfl, rfl, by decide +kernel, rfl, by decide +kernel, by decide +kernel⟩
theorem st_At_init (a b c : V) : start nm_At_init [a, b, c] = [some a, some b, some c] := rfl
def p_At_init (K : PySem.W.Frag) (N M : Addr) (w : Wd) (a b c : V) (Q : VK) (E : XK) : Prop := ∃ x C dx dn dl, a = .ref x ∧ Own w x (.ins C dx []) ∧ Ecl K C ∧ Rp w.S b dn ∧ TxD dn ∧ Rp w.S c dl ∧
  (∀ z lo, dn = .str z → nameB dn = true → dl = .int lo → 0 ≤ lo → lo ≤ 1000000000 → ∀ v, Ext (One x) w v → Own v x (.ins C dx [("name", .str z), ("low", .int lo), ("high", .int lo)]) → Q .non v.H) ∧
  (nameB dn = false → Rz (One x) w N b E) ∧ (nameB dn = true → wholeB dl 0 1000000000 = false → Rz (One x) w M c E)
theorem ok_At_init {f : Addr} {fd : FuncData} {C_Entry C_Within C_At C_Between C_Read C_Joint C_Sifted C_LogError C_NoBond C_NoEntry C_NoMinutes C_NoMoment C_NoName C_NoPlace C_NoReading C_Taken C_TooMany : Addr} (F : Fun K "__init__" "At.__init__" s_At_init f fd) (T : Txt K mg C_Entry C_Within C_At C_Between C_Read C_Joint C_Sifted C_LogError C_NoBond C_NoEntry C_NoMinutes C_NoMoment C_NoName C_NoPlace C_NoReading C_Taken C_TooMany)  (b_Within_init : Bin P ww K mg base (L2.CX P ww) C_Within 4 (pr4 (p_Within_init K C_NoName C_NoMoment))) : FnOk P ww K mg base (L2.CX P ww) 5 f fd ["self", "name", "moment"] (pr3 (p_At_init K C_NoName C_NoMoment)) := by
  refine F.okX sc_At_init (fun vs H Q E h => len3 h) (fun cdv A outer s H vs Q E hr h => ?_)
  obtain ⟨w, x0, x1, x2,  rfl, rfl, h⟩ := h
  have ekT := ek_T (P := P) (ww := ww) (base := base) T
  have oex_NoBond := T.oex_NoBond; have xf_NoBond := T.xf_NoBond; have ec_NoBond := T.ec_NoBond; have xn_NoBond := T.xn_NoBond
  have oex_NoEntry := T.oex_NoEntry; have xf_NoEntry := T.xf_NoEntry; have ec_NoEntry := T.ec_NoEntry; have xn_NoEntry := T.xn_NoEntry
  have oex_NoMinutes := T.oex_NoMinutes; have xf_NoMinutes := T.xf_NoMinutes; have ec_NoMinutes := T.ec_NoMinutes; have xn_NoMinutes := T.xn_NoMinutes
  have oex_NoMoment := T.oex_NoMoment; have xf_NoMoment := T.xf_NoMoment; have ec_NoMoment := T.ec_NoMoment; have xn_NoMoment := T.xn_NoMoment
  have oex_NoName := T.oex_NoName; have xf_NoName := T.xf_NoName; have ec_NoName := T.ec_NoName; have xn_NoName := T.xn_NoName
  have oex_NoPlace := T.oex_NoPlace; have xf_NoPlace := T.xf_NoPlace; have ec_NoPlace := T.ec_NoPlace; have xn_NoPlace := T.xn_NoPlace
  have oex_NoReading := T.oex_NoReading; have xf_NoReading := T.xf_NoReading; have ec_NoReading := T.ec_NoReading; have xn_NoReading := T.xn_NoReading
  have oex_Taken := T.oex_Taken; have xf_Taken := T.xf_Taken; have ec_Taken := T.ec_Taken; have xn_Taken := T.xn_Taken
  have oex_TooMany := T.oex_TooMany; have xf_TooMany := T.xf_TooMany; have ec_TooMany := T.ec_TooMany; have xn_TooMany := T.xn_TooMany
  refine ⟨_, (pss_one (ps_expr (pe_bin (takes_of rfl rfl rfl rfl) b_Within_init hr (by decide) (pe_glob (v := .ref C_Within) (u := .ref C_Within) rfl T.g_Within rfl) (pa_cons (pv 0) (pa_cons (pv 1) (pa_cons (pv 2) (pa_cons (pv 2) pa_nil))))))), ?_⟩
  rw [st_At_init]
  obtain ⟨x, C, dx, dn, dl, rfl, o, ec, hn, tx, hl, k1, k2, k3⟩ := h
  ((with_reducible refine s_drop ?_); (with_reducible refine s_callX ?_); (with_reducible refine s_cons ?_); (with_reducible refine' s_var ?q127 ?q128); (case q127 => exact rfl); (with_reducible refine s_cons ?_); (with_reducible refine' s_var ?q129 ?q130); (case q129 => exact rfl); (with_reducible refine s_cons ?_); (with_reducible refine' s_var ?q131 ?q132); (case q131 => exact rfl); (with_reducible refine s_cons ?_); (with_reducible refine' s_var ?q133 ?q134); (case q133 => exact rfl); (with_reducible refine s_nil ?_); (with_reducible refine s_pr4 ?_))
  refine ⟨x, C, dx, dn, dl, dl, rfl, o, ec, hn, tx, hl, hl, fun z lo hi hz hb h1 h2 a1 a2 a3 a4 v ev ov => ?_, k2, k3, fun a b c => absurd b (by rw [c]; decide)⟩
  subst h1
  cases h2
  skip
  exact k1 z lo hz hb rfl a1 a2 _ (by (assumption)) (by (assumption))
abbrev nm_Between_init : List Str := ["self", "name", "place", "low", "high", "reading"]
theorem sc_Between_init : FnScope nm_Between_init ["self", "name", "place", "low", "high"] (defScope s_Between_init) := ⟨rfl, rfl, rfl, by decide +kernel, rfl, by decide +kernel, by decide +kernel⟩
theorem st_Between_init (a b c d e : V) : start nm_Between_init [a, b, c, d, e] = [some a, some b, some c, some d, some e, none] := rfl
def p_Between_init (K : PySem.W.Frag) (N M : Addr) (w : Wd) (a b p c d : V) (Q : VK) (E : XK) : Prop := ∃ x C dx dn dp dl dh, a = .ref x ∧ Own w x (.ins C dx []) ∧ Ecl K C ∧ Rp w.S b dn ∧ TxD dn ∧ Rp w.S p dp ∧ TxD dp ∧ Rp w.S c dl ∧ Rp w.S d dh ∧
  (∀ z y lo hi, dn = .str z → nameB dn = true → dp = .str y → nameB dp = true → dl = .int lo → dh = .int hi → -10000000000 ≤ lo → lo ≤ 10000000000 → -10000000000 ≤ hi → hi ≤ 10000000000 → ∀ v, Ext (One x) w v → Own v x (.ins C dx [("name", .str z), ("place", .str y), ("low", .int lo), ("high", .int hi)]) → Q .non v.H) ∧
  (nameB dn = false → Rz (One x) w N b E) ∧ (nameB dn = true → nameB dp = false → Rz (One x) w N p E) ∧ (nameB dn = true → nameB dp = true → wholeB dl (0 - 10000000000) 10000000000 = false → Rz (One x) w M c E) ∧ (nameB dn = true → nameB dp = true → wholeB dl (0 - 10000000000) 10000000000 = true → wholeB dh (0 - 10000000000) 10000000000 = false → Rz (One x) w M d E)
theorem ok_Between_init {f : Addr} {fd : FuncData} {C_Entry C_Within C_At C_Between C_Read C_Joint C_Sifted C_LogError C_NoBond C_NoEntry C_NoMinutes C_NoMoment C_NoName C_NoPlace C_NoReading C_Taken C_TooMany : Addr} (F : Fun K "__init__" "Between.__init__" s_Between_init f fd) (T : Txt K mg C_Entry C_Within C_At C_Between C_Read C_Joint C_Sifted C_LogError C_NoBond C_NoEntry C_NoMinutes C_NoMoment C_NoName C_NoPlace C_NoReading C_Taken C_TooMany) (c_NoName_init : Mxr P ww K mg base C_NoName 1 (pr2 (p_NoName_init C_NoName))) (c_NoReading_init : Mxr P ww K mg base C_NoReading 1 (pr2 (p_NoReading_init C_NoReading))) (c_is_name : Fnc P ww K mg base CX0 1 "is_name" (pr1 (p_is_name))) (c_is_reading : Fnc P ww K mg base CX0 2 "is_reading" (pr1 (p_is_reading))) (b_Entry_init : Bin P ww K mg base (L2.CX P ww) C_Entry 3 (pr2 (p_Entry_init K C_NoName))) : FnOk P ww K mg base (L2.CX P ww) 4 f fd ["self", "name", "place", "low", "high"] (pr5 (p_Between_init K C_NoName C_NoReading)) := by
  refine F.okX sc_Between_init (fun vs H Q E h => len5 h) (fun cdv A outer s H vs Q E hr h => ?_)
  obtain ⟨w, x0, x1, x2, x3, x4,  rfl, rfl, h⟩ := h
  have ekT := ek_T (P := P) (ww := ww) (base := base) T
  have oex_NoBond := T.oex_NoBond; have xf_NoBond := T.xf_NoBond; have ec_NoBond := T.ec_NoBond; have xn_NoBond := T.xn_NoBond
  have oex_NoEntry := T.oex_NoEntry; have xf_NoEntry := T.xf_NoEntry; have ec_NoEntry := T.ec_NoEntry; have xn_NoEntry := T.xn_NoEntry
  have oex_NoMinutes := T.oex_NoMinutes; have xf_NoMinutes := T.xf_NoMinutes; have ec_NoMinutes := T.ec_NoMinutes; have xn_NoMinutes := T.xn_NoMinutes
  have oex_NoMoment := T.oex_NoMoment; have xf_NoMoment := T.xf_NoMoment; have ec_NoMoment := T.ec_NoMoment; have xn_NoMoment := T.xn_NoMoment
  have oex_NoName := T.oex_NoName; have xf_NoName := T.xf_NoName; have ec_NoName := T.ec_NoName; have xn_NoName := T.xn_NoName
  have oex_NoPlace := T.oex_NoPlace; have xf_NoPlace := T.xf_NoPlace; have ec_NoPlace := T.ec_NoPlace; have xn_NoPlace := T.xn_NoPlace
  have oex_NoReading := T.oex_NoReading; have xf_NoReading := T.xf_NoReading; have ec_NoReading := T.ec_NoReading; have xn_NoReading := T.xn_NoReading
  have oex_Taken := T.oex_Taken; have xf_Taken := T.xf_Taken; have ec_Taken := T.ec_Taken; have xn_Taken := T.xn_Taken
  have oex_TooMany := T.oex_TooMany; have xf_TooMany := T.xf_TooMany; have ec_TooMany := T.ec_TooMany; have xn_TooMany := T.xn_TooMany
  refine ⟨_, (pss_cons (ps_expr (pe_bin (takes_of rfl rfl rfl rfl) b_Entry_init hr (by decide) (pe_glob (v := .ref C_Entry) (u := .ref C_Entry) rfl T.g_Entry rfl) (pa_cons (pv 0) (pa_cons (pv 1) pa_nil))))
      (pss_cons (ps_if (pt_not (pt_val (pe_fn c_is_name hr (by decide) pass0 (pa_cons (pv 2) pa_nil)))) (pss_one (ps_raiseX rfl (takes_of rfl rfl rfl rfl) c_NoName_init hr (by decide) T.g_NoName (pa_cons (pv 2) pa_nil))) pss_nil)
      (pss_cons (ps_for (passes_of rfl) rfl (kpTup K (pe_tup (pa_cons (pv 3) (pa_cons (pv 4) pa_nil)))) (pg_name (i := 5) sc_Between_init.nd rfl (Or.inl rfl)) (pss_one (ps_if (pt_not (pt_val (pe_fn c_is_reading hr (by decide) pass0 (pa_cons (pv 5) pa_nil)))) (pss_one (ps_raiseX rfl (takes_of rfl rfl rfl rfl) c_NoReading_init hr (by decide) T.g_NoReading (pa_cons (pv 5) pa_nil))) pss_nil)))
      (pss_cons (ps_fld (pv 0) (pv 2) rfl)
      (pss_cons (ps_fld (pv 0) (pv 3) rfl)
      (pss_one (ps_fld (pv 0) (pv 4) rfl))))))), ?_⟩
  rw [st_Between_init]
  obtain ⟨x, C, dx, dn, dp, dl, dh, rfl, o, ec, hn, tx, hp, tp, hl, hh, k1, k2, k5, k3, k4⟩ := h
  have cl := ec.cl; have na := ec.name; have nl := ec.low; have nh := ec.high; have np := ec.place
  ((with_reducible refine s_seq ?_); (with_reducible refine s_drop ?_); (with_reducible refine s_callX ?_); (with_reducible refine s_cons ?_); (with_reducible refine' s_var ?q135 ?q136); (case q135 => exact rfl); (with_reducible refine s_cons ?_); (with_reducible refine' s_var ?q137 ?q138); (case q137 => exact rfl); (with_reducible refine s_nil ?_); (with_reducible refine s_pr2 ?_))
  refine ⟨x, C, dx, dn, rfl, o, ec, hn, tx, fun z hz hb v1 e1 o1 => ?_, k2⟩
  subst hz
  ((with_reducible refine s_seq ?_); (with_reducible refine s_ifS ?_); (with_reducible refine s_not ?_); (with_reducible refine s_B ?_); (with_reducible refine s_call ?_); (with_reducible refine s_cons ?_); (with_reducible refine' s_var ?q139 ?q140); (case q139 => exact rfl); (with_reducible refine s_nil ?_); (with_reducible refine s_pr1 ?_))
  refine ⟨dp, hp.go e1, tp, fun v2 e2 => ?_⟩
  have e12 : Ext (One x) w v2 := e1.step e2 fun _ z => z.elim
  cases hbp : nameB dp with
  | false =>
    ((with_reducible refine s_bl ?_); (with_reducible refine ite_nf ?_))
    refine s_raiseX rfl ?_
    ((with_reducible refine s_cons ?_); (with_reducible refine' s_var ?q141 ?q142); (case q141 => exact rfl); (with_reducible refine s_nil ?_))
    exact s_raised (W := fun cls d _ H => E cls d H) (σ := []) fun e v ev n o => k5 hb hbp v e (e12.step ev fun _ z => z.elim) (e12.back n) o
  | true =>
  obtain ⟨y, rfl⟩ : ∃ z, dp = .str z := by cases dp <;> first | exact ⟨_, rfl⟩ | cases hbp
  obtain rfl := hp.str_inv
  have o2 : Own v2 x _ := o1.ext e2 fun z => z
  clear e1 e2 o1 o
  ((with_reducible refine s_bl ?_); (with_reducible refine ite_nt ?_); (with_reducible refine s_next ?_); (with_reducible refine s_seq ?_); (with_reducible refine s_for ?_); (with_reducible refine s_iTup ?_); (with_reducible refine t_tup ?_); (with_reducible refine s_cons ?_); (with_reducible refine' s_var ?q146 ?q147); (case q146 => exact rfl); (with_reducible refine s_cons ?_); (with_reducible refine' s_var ?q148 ?q149); (case q148 => exact rfl); (with_reducible refine s_nil ?_); (with_reducible refine' t_newT ?q150 ?q151); (case q150 => simp only [ List.length , sizeLine_eq ]; omega); intro _ _ _ _ _; refine' ⟨ _ , rfl , ⟨ _ , ?q152 ⟩ , ?q153 ⟩; (case q152 => refine' sqt_of ?q154; (case q154 => assumption)))
  rename_i T v0 e0 n0 s0
  refine forW (ww_tup (xs := [x3, x4])) (fun i σ u => Ext Non v0 u ∧ ∃ g, σ = [some (.ref x), some x1, some (.str y), some x3, some x4, g] ∧ (1 ≤ i → wholeB dl (0 - 10000000000) 10000000000 = true) ∧ (2 ≤ i → wholeB dh (0 - 10000000000) 10000000000 = true)) ⟨Ext.refl _ _, _, rfl, (fun z => absurd z (by decide)), (fun z => absurd z (by decide))⟩ (fun i σ u _ hh => sqt_of (st_go hh.1 s0)) ?_ ?_
  · rintro i z σ _ u hi ⟨eu, g, rfl, h1, h2⟩ ⟨rfl, hz⟩
    have hi2 : i < 2 := hi
    have ew0 : Ext (One x) w u := e12.step (e0.trans eu) fun _ z => z.elim
    have hcase : (i = 0 ∧ z = x3) ∨ (i = 1 ∧ z = x4) := by
      match i, hi2 with
      | 0, _ => exact .inl ⟨rfl, by simpa using hz.symm⟩
      | 1, _ => exact .inr ⟨rfl, by simpa using hz.symm⟩
    rcases hcase with ⟨rfl, rfl⟩ | ⟨rfl, rfl⟩
    · ((with_reducible refine' s_gname ?q155 ?q156); (case q155 => simp only [ List.set_cons_succ , List.set_cons_zero ]; exact rfl); (with_reducible refine s_ifS ?_); (with_reducible refine s_not ?_); (with_reducible refine s_B ?_); (with_reducible refine s_call ?_); (with_reducible refine s_cons ?_); (with_reducible refine' s_var ?q157 ?q158); (case q157 => exact rfl); (with_reducible refine s_nil ?_); (with_reducible refine s_pr1 ?_))
      refine ⟨dl, hl.go ew0, fun v2 e2 => ?_⟩
      ((with_reducible refine s_bl ?_))
      refine ite_n (fun hb2 => ?_) (fun hb2 => ?_)
      · skip
        refine s_raiseX rfl ?_
        ((with_reducible refine s_cons ?_); (with_reducible refine' s_var ?q159 ?q160); (case q159 => exact rfl); (with_reducible refine s_nil ?_))
        exact s_raised (W := fun cls d _ H => E cls d H) (σ := []) fun e v ev n o => k3 hb hbp hb2 v e (ew0.step (e2.trans ev) fun _ z => z.elim) (ew0.back (e2.back n)) o
      · ((with_reducible refine s_next ?_); (with_reducible refine wds_i ?_))
        exact ⟨eu.trans e2, _, rfl, (fun _ => hb2), (fun z => absurd z (by decide))⟩
    · have hd1 := h1 (by decide)
      ((with_reducible refine' s_gname ?q161 ?q162); (case q161 => simp only [ List.set_cons_succ , List.set_cons_zero ]; exact rfl); (with_reducible refine s_ifS ?_); (with_reducible refine s_not ?_); (with_reducible refine s_B ?_); (with_reducible refine s_call ?_); (with_reducible refine s_cons ?_); (with_reducible refine' s_var ?q163 ?q164); (case q163 => exact rfl); (with_reducible refine s_nil ?_); (with_reducible refine s_pr1 ?_))
      refine ⟨dh, hh.go ew0, fun v2 e2 => ?_⟩
      ((with_reducible refine s_bl ?_))
      refine ite_n (fun hb2 => ?_) (fun hb2 => ?_)
      · skip
        refine s_raiseX rfl ?_
        ((with_reducible refine s_cons ?_); (with_reducible refine' s_var ?q165 ?q166); (case q165 => exact rfl); (with_reducible refine s_nil ?_))
        exact s_raised (W := fun cls d _ H => E cls d H) (σ := []) fun e v ev n o => k4 hb hbp hd1 hb2 v e (ew0.step (e2.trans ev) fun _ z => z.elim) (ew0.back (e2.back n)) o
      · ((with_reducible refine s_next ?_); (with_reducible refine wds_i ?_))
        exact ⟨eu.trans e2, _, rfl, (fun _ => hd1), (fun _ => hb2)⟩
  rintro σ u ⟨eu, g, rfl, h1, h2⟩
  obtain ⟨lo, rfl, lo0, lo1⟩ := whole_yes (h1 (show 1 ≤ 2 by decide))
  obtain ⟨hi, rfl, hi0, hi1⟩ := whole_yes (h2 (show 2 ≤ 2 by decide))
  obtain rfl := hl.int_inv
  obtain rfl := hh.int_inv
  have ou : Own u x _ := (o2.ext e0 fun z => z).ext eu fun z => z
  have ewu : Ext (One x) w u := e12.step (e0.trans eu) fun _ z => z.elim
  clear e0 eu e12 o2 s0
  ((with_reducible refine s_seq ?_); (with_reducible refine s_sfld ?_); (with_reducible refine' s_var ?q167 ?q168); (case q167 => exact rfl); (with_reducible refine' s_var ?q169 ?q170); (case q169 => exact rfl); (with_reducible refine' s_rsfl ?q171 ?q172 ?q173 ?q174 ?q175 ?q176); (case q171 => assumption); (case q172 => assumption); (case q173 => assumption); (case q174 => simp only [ List.length_cons , List.length_nil ]; omega); (case q175 => refine' pf_tl ?q177 ?q178; (case q177 => decide +kernel); (case q178 => exact pf_nil)); intro _ _ _; (with_reducible refine s_seq ?_); (with_reducible refine s_sfld ?_); (with_reducible refine' s_var ?q179 ?q180); (case q179 => exact rfl); (with_reducible refine' s_var ?q181 ?q182); (case q181 => exact rfl); (with_reducible refine' s_rsfl ?q183 ?q184 ?q185 ?q186 ?q187 ?q188); (case q183 => assumption); (case q184 => assumption); (case q185 => assumption); (case q186 => simp only [ List.length_cons , List.length_nil ]; omega); (case q187 => refine' pf_tl ?q189 ?q190; (case q189 => decide +kernel); (case q190 => refine' pf_tl ?q191 ?q192; (case q191 => decide +kernel); (case q192 => exact pf_nil))); intro _ _ _; (with_reducible refine s_sfld ?_); (with_reducible refine' s_var ?q193 ?q194); (case q193 => exact rfl); (with_reducible refine' s_var ?q195 ?q196); (case q195 => exact rfl); (with_reducible refine' s_rsfl ?q197 ?q198 ?q199 ?q200 ?q201 ?q202); (case q197 => assumption); (case q198 => assumption); (case q199 => assumption); (case q200 => simp only [ List.length_cons , List.length_nil ]; omega); (case q201 => refine' pf_tl ?q203 ?q204; (case q203 => decide +kernel); (case q204 => refine' pf_tl ?q205 ?q206; (case q205 => decide +kernel); (case q206 => refine' pf_tl ?q207 ?q208; (case q207 => decide +kernel); (case q208 => exact pf_nil)))); intro _ _ _)
  exact k1 z y lo hi rfl hb rfl hbp rfl rfl (by omega) lo1 (by omega) hi1 _ (by (refine' Ext.step ?q209 ?q210 ?q211; (case q210 => assumption); (case q209 => refine' Ext.step ?q212 ?q213 ?q214; (case q213 => assumption); (case q212 => refine' Ext.step ?q215 ?q216 ?q217; (case q216 => assumption); (case q215 => assumption); (case q217 => refine tch_one ?q218; refine Or.inr ?_; rfl)); (case q214 => refine tch_one ?q219; refine Or.inr ?_; rfl)); (case q211 => refine tch_one ?q220; refine Or.inr ?_; rfl))) (by (assumption))
abbrev nm_Read_init : List Str := ["self", "name", "place", "reading"]
theorem sc_Read_init : FnScope nm_Read_init ["self", "name", "place", "reading"] (defScope s_Read_init) := ⟨rfl, rfl, rfl, by decide +kernel, rfl, by decide +kernel, by decide +kernel⟩
theorem st_Read_init (a b c d : V) : start nm_Read_init [a, b, c, d] = [some a, some b, some c, some d] := rfl
def p_Read_init (K : PySem.W.Frag) (N M : Addr) (w : Wd) (a b p c : V) (Q : VK) (E : XK) : Prop := ∃ x C dx dn dp dl, a = .ref x ∧ Own w x (.ins C dx []) ∧ Ecl K C ∧ Rp w.S b dn ∧ TxD dn ∧ Rp w.S p dp ∧ TxD dp ∧ Rp w.S c dl ∧
  (∀ z y lo, dn = .str z → nameB dn = true → dp = .str y → nameB dp = true → dl = .int lo → -10000000000 ≤ lo → lo ≤ 10000000000 → ∀ v, Ext (One x) w v → Own v x (.ins C dx [("name", .str z), ("place", .str y), ("low", .int lo), ("high", .int lo)]) → Q .non v.H) ∧
  (nameB dn = false → Rz (One x) w N b E) ∧ (nameB dn = true → nameB dp = false → Rz (One x) w N p E) ∧ (nameB dn = true → nameB dp = true → wholeB dl (0 - 10000000000) 10000000000 = false → Rz (One x) w M c E)
theorem ok_Read_init {f : Addr} {fd : FuncData} {C_Entry C_Within C_At C_Between C_Read C_Joint C_Sifted C_LogError C_NoBond C_NoEntry C_NoMinutes C_NoMoment C_NoName C_NoPlace C_NoReading C_Taken C_TooMany : Addr} (F : Fun K "__init__" "Read.__init__" s_Read_init f fd) (T : Txt K mg C_Entry C_Within C_At C_Between C_Read C_Joint C_Sifted C_LogError C_NoBond C_NoEntry C_NoMinutes C_NoMoment C_NoName C_NoPlace C_NoReading C_Taken C_TooMany)  (b_Between_init : Bin P ww K mg base (L2.CX P ww) C_Between 4 (pr5 (p_Between_init K C_NoName C_NoReading))) : FnOk P ww K mg base (L2.CX P ww) 5 f fd ["self", "name", "place", "reading"] (pr4 (p_Read_init K C_NoName C_NoReading)) := by
  refine F.okX sc_Read_init (fun vs H Q E h => len4 h) (fun cdv A outer s H vs Q E hr h => ?_)
  obtain ⟨w, x0, x1, x2, x3,  rfl, rfl, h⟩ := h
  have ekT := ek_T (P := P) (ww := ww) (base := base) T
  have oex_NoBond := T.oex_NoBond; have xf_NoBond := T.xf_NoBond; have ec_NoBond := T.ec_NoBond; have xn_NoBond := T.xn_NoBond
  have oex_NoEntry := T.oex_NoEntry; have xf_NoEntry := T.xf_NoEntry; have ec_NoEntry := T.ec_NoEntry; have xn_NoEntry := T.xn_NoEntry
  have oex_NoMinutes := T.oex_NoMinutes; have xf_NoMinutes := T.xf_NoMinutes; have ec_NoMinutes := T.ec_NoMinutes; have xn_NoMinutes := T.xn_NoMinutes
  have oex_NoMoment := T.oex_NoMoment; have xf_NoMoment := T.xf_NoMoment; have ec_NoMoment := T.ec_NoMoment; have xn_NoMoment := T.xn_NoMoment
  have oex_NoName := T.oex_NoName; have xf_NoName := T.xf_NoName; have ec_NoName := T.ec_NoName; have xn_NoName := T.xn_NoName
  have oex_NoPlace := T.oex_NoPlace; have xf_NoPlace := T.xf_NoPlace; have ec_NoPlace := T.ec_NoPlace; have xn_NoPlace := T.xn_NoPlace
  have oex_NoReading := T.oex_NoReading; have xf_NoReading := T.xf_NoReading; have ec_NoReading := T.ec_NoReading; have xn_NoReading := T.xn_NoReading
  have oex_Taken := T.oex_Taken; have xf_Taken := T.xf_Taken; have ec_Taken := T.ec_Taken; have xn_Taken := T.xn_Taken
  have oex_TooMany := T.oex_TooMany; have xf_TooMany := T.xf_TooMany; have ec_TooMany := T.ec_TooMany; have xn_TooMany := T.xn_TooMany
  refine ⟨_, (pss_one (ps_expr (pe_bin (takes_of rfl rfl rfl rfl) b_Between_init hr (by decide) (pe_glob (v := .ref C_Between) (u := .ref C_Between) rfl T.g_Between rfl) (pa_cons (pv 0) (pa_cons (pv 1) (pa_cons (pv 2) (pa_cons (pv 3) (pa_cons (pv 3) pa_nil)))))))), ?_⟩
  rw [st_Read_init]
  obtain ⟨x, C, dx, dn, dp, dl, rfl, o, ec, hn, tx, hp, tp, hl, k1, k2, k5, k3⟩ := h
  ((with_reducible refine s_drop ?_); (with_reducible refine s_callX ?_); (with_reducible refine s_cons ?_); (with_reducible refine' s_var ?q221 ?q222); (case q221 => exact rfl); (with_reducible refine s_cons ?_); (with_reducible refine' s_var ?q223 ?q224); (case q223 => exact rfl); (with_reducible refine s_cons ?_); (with_reducible refine' s_var ?q225 ?q226); (case q225 => exact rfl); (with_reducible refine s_cons ?_); (with_reducible refine' s_var ?q227 ?q228); (case q227 => exact rfl); (with_reducible refine s_cons ?_); (with_reducible refine' s_var ?q229 ?q230); (case q229 => exact rfl); (with_reducible refine s_nil ?_); (with_reducible refine s_pr5 ?_))
  refine ⟨x, C, dx, dn, dp, dl, dl, rfl, o, ec, hn, tx, hp, tp, hl, hl, fun z y lo hi hz hb hy hbp h1 h2 a1 a2 a3 a4 v ev ov => ?_, k2, k5, k3, fun a a2 b c => absurd b (by rw [c]; decide)⟩
  subst h1
  cases h2
  skip
  exact k1 z y lo hz hb hy hbp rfl a1 a2 _ (by (assumption)) (by (assumption))
theorem nameB_ok {z : Str} (h : NmOk z) : nameB (.str z) = true := by
  obtain ⟨h1, h2, h3⟩ := h
  have hl := len_tl z
  have hp := List.length_pos_iff.mpr h2
  simp only [nameB, Bool.and_eq_true, decide_eq_true_eq]
  refine ⟨by omega, by omega, List.all_eq_true.mpr fun c hc => decide_eq_true ?_⟩
  have := h3 c hc
  show c ∈ tl (Str.ofString "abcdefghijklmnopqrstuvwxyz")
  rw [letters_tl]
  exact List.mem_map.mpr ⟨c - 97, List.mem_range.mpr (by omega), by omega⟩
theorem txd_ok {z : Str} (h : NmOk z) : TxD (.str z) := fun y e => by
  cases e
  exact h.tx.mono (by decide)
section
variable {ec : EC} {N M : Addr} {w : Wd} {Q : VK} {E : XK} {n p : Str} {lo hi : Int}
theorem mk_fin {k : Kd} {u v : Wd} {x dx : Addr} (ek : EK K ec) (e1 : Ext Non w u) (nx : w.H x = none) (e2 : Ext (One x) u v) (o : Own v x (.ins (ec.of k) dx (fldS ⟨k, n, p, lo, hi⟩))) (kk : ∀ v x, Ext Non w v → w.H x = none → SimS K ec v.S (.ref x) ⟨k, n, p, lo, hi⟩ → Q (.ref x) v.H) : Q (.ref x) v.H := by
  refine lay (R := fun H => Q (.ref x) H) o fun v2 e3 s3 => ?_
  exact kk v2 x ((e1.step e2 fun b hb => .inl (by rw [show b = x from hb]; exact nx)).step e3 fun b hb => .inl (by rw [show b = x from hb]; exact nx)) nx ⟨ek, x, dx, rfl, s3⟩
theorem name_no {X : Prop} (hn : NmOk n) (h : nameB (.str n) = false) : X := by rw [nameB_ok hn] at h; cases h
theorem mk_any (ek : EK K ec) (hn : NmOk n) (kk : ∀ v x, Ext Non w v → w.H x = none → SimS K ec v.S (.ref x) ⟨.any, n, p, lo, hi⟩ → Q (.ref x) v.H) : rMake ec.any (pr2 (p_Entry_init K N)) E Q [.str n] w.H := by
  refine s_rmake fun x dx v1 e1 n1 o1 => s_pm2 ⟨x, _, dx, _, rfl, o1, (ek.cl .any trivial), .str n, txd_ok hn, fun z hz _ v2 e2 o2 => ⟨rfl, ?_⟩, fun h => name_no hn h⟩
  cases hz
  exact mk_fin (k := .any) (n := n) (p := p) (lo := lo) (hi := hi) ek e1 n1 e2 o2 kk
theorem mom_yes {m : Int} (h0 : 0 ≤ m) (h1 : m ≤ 1000000000) : wholeB (.int m) 0 1000000000 = true := by unfold wholeB; simp; exact ⟨h0, h1⟩
theorem rdg_yes {m : Int} (h0 : -10000000000 ≤ m) (h1 : m ≤ 10000000000) : wholeB (.int m) (0 - 10000000000) 10000000000 = true := by unfold wholeB; simp; exact ⟨h0, h1⟩
theorem mk_within (ek : EK K ec) (hn : NmOk n) (b1 : 0 ≤ lo) (b2 : lo ≤ 1000000000) (b3 : 0 ≤ hi) (b4 : hi ≤ 1000000000) (kk : ∀ v x, Ext Non w v → w.H x = none → SimS K ec v.S (.ref x) ⟨.within, n, p, lo, hi⟩ → Q (.ref x) v.H) : rMake ec.within (pr4 (p_Within_init K N M)) E Q [.str n, .int lo, .int hi] w.H := by
  refine s_rmake fun x dx v1 e1 n1 o1 => s_pm4 ⟨x, _, dx, _, _, _, rfl, o1, (ek.cl .within trivial), .str n, txd_ok hn, .int lo, .int hi, fun z a b hz _ ha hb _ _ _ _ v2 e2 o2 => ⟨rfl, ?_⟩, fun h => name_no hn h, fun _ h => (by rw [mom_yes b1 b2] at h; cases h), fun _ _ h => (by rw [mom_yes b3 b4] at h; cases h)⟩
  cases hz; cases ha; cases hb
  exact mk_fin (k := .within) (n := n) (p := p) (lo := lo) (hi := hi) ek e1 n1 e2 o2 kk
theorem mk_att (ek : EK K ec) (hn : NmOk n) (b1 : 0 ≤ lo) (b2 : lo ≤ 1000000000) (kk : ∀ v x, Ext Non w v → w.H x = none → SimS K ec v.S (.ref x) ⟨.att, n, p, lo, lo⟩ → Q (.ref x) v.H) : rMake ec.att (pr3 (p_At_init K N M)) E Q [.str n, .int lo] w.H := by
  refine s_rmake fun x dx v1 e1 n1 o1 => s_pm3 ⟨x, _, dx, _, _, rfl, o1, (ek.cl .att trivial), .str n, txd_ok hn, .int lo, fun z a hz _ ha _ _ v2 e2 o2 => ⟨rfl, ?_⟩, fun h => name_no hn h, fun _ h => (by rw [mom_yes b1 b2] at h; cases h)⟩
  cases hz; cases ha
  exact mk_fin (k := .att) (n := n) (p := p) (lo := lo) (hi := lo) ek e1 n1 e2 o2 kk
theorem mk_between (ek : EK K ec) (hn : NmOk n) (hp : NmOk p) (b1 : -10000000000 ≤ lo) (b2 : lo ≤ 10000000000) (b3 : -10000000000 ≤ hi) (b4 : hi ≤ 10000000000) (kk : ∀ v x, Ext Non w v → w.H x = none → SimS K ec v.S (.ref x) ⟨.between, n, p, lo, hi⟩ → Q (.ref x) v.H) : rMake ec.between (pr5 (p_Between_init K N M)) E Q [.str n, .str p, .int lo, .int hi] w.H := by
  refine s_rmake fun x dx v1 e1 n1 o1 => s_pm5 ⟨x, _, dx, _, _, _, _, rfl, o1, (ek.cl .between trivial), .str n, txd_ok hn, .str p, txd_ok hp, .int lo, .int hi, fun z y a b hz _ hy _ ha hb _ _ _ _ v2 e2 o2 => ⟨rfl, ?_⟩, fun h => name_no hn h, fun _ h => name_no hp h, fun _ _ h => (by rw [rdg_yes b1 b2] at h; cases h), fun _ _ _ h => (by rw [rdg_yes b3 b4] at h; cases h)⟩
  cases hz; cases hy; cases ha; cases hb
  exact mk_fin (k := .between) (n := n) (p := p) (lo := lo) (hi := hi) ek e1 n1 e2 o2 kk
theorem mk_read (ek : EK K ec) (hn : NmOk n) (hp : NmOk p) (b1 : -10000000000 ≤ lo) (b2 : lo ≤ 10000000000) (kk : ∀ v x, Ext Non w v → w.H x = none → SimS K ec v.S (.ref x) ⟨.read, n, p, lo, lo⟩ → Q (.ref x) v.H) : rMake ec.read (pr4 (p_Read_init K N M)) E Q [.str n, .str p, .int lo] w.H := by
  refine s_rmake fun x dx v1 e1 n1 o1 => s_pm4 ⟨x, _, dx, _, _, _, rfl, o1, (ek.cl .read trivial), .str n, txd_ok hn, .str p, txd_ok hp, .int lo, fun z y a hz _ hy _ ha _ _ v2 e2 o2 => ⟨rfl, ?_⟩, fun h => name_no hn h, fun _ h => name_no hp h, fun _ _ h => (by rw [rdg_yes b1 b2] at h; cases h)⟩
  cases hz; cases hy; cases ha
  exact mk_fin (k := .read) (n := n) (p := p) (lo := lo) (hi := lo) ek e1 n1 e2 o2 kk
end
local macro_rules | `(tactic| wtm_at "kl") => `(tactic| first
  | exact KitL.nil
  | (refine' KitL.cons ?a ?b; (case a => assumption); (case b => wtm_at "kl"))
  | fail "kl")
local macro_rules | `(tactic| wtm_at "go1") => `(tactic| first
  | ((with_reducible refine' s_isXT ?c ?s ?e ?h ?k); (case c => assumption); (case s => wtm_at "stb"); (case e => wtm_at "kl"); (case h => wtm_at "hh"))
  | fail "go1k34")
inductive Wrd | nm | mo | rd | en | mn
  deriving DecidableEq
def Wrd.f : Wrd → Str
  | .mn => Str.ofString "many"
  | _ => Str.ofString "found"
structure Xs where
  nm : Addr
  mo : Addr
  rd : Addr
  en : Addr
  mn : Addr
def Xs.of (c : Xs) : Wrd → Addr
  | .nm => c.nm | .mo => c.mo | .rd => c.rd | .en => c.en | .mn => c.mn
/-- a refusal, by its word -/
def RzW (m : Addr → Prop) (w : Wd) (c : Xs) (wd : Wrd) (y : V) (E : XK) : Prop := ∀ v e, Ext m w v → w.H e = none → Own v e (.xd [(wd.f, y)]) → E (.ref (c.of wd)) (some e) v.H
theorem RzW.up {w u : Wd} {c : Xs} {wd : Wrd} {y : V} {E : XK} {x : Addr} (h : RzW Non w c wd y E) (e : Ext Non w u) (nx : w.H x = none) : RzW (One x) u c wd y E := fun v ex e2 n o => h v ex (e.step e2 fun b hb => .inl (by rw [show b = x from hb]; exact nx)) (e.back n) o
theorem RzW.go {w u : Wd} {c : Xs} {wd : Wrd} {y : V} {E : XK} {m : Addr → Prop} (h : RzW m w c wd y E) (e : Ext m w u) : RzW m u c wd y E := fun v ex e2 n o => h v ex (e.trans e2) (e.back n) o
/-- what is an entry, but no joint one; and what is not -/
def Frnd (K : PySem.W.Frag) (ec : EC) (S : Hp) (y : V) : Prop := ∃ t, TyOf K S y t ∧ PySem.W.kitOne K t (.ref ec.any) = some true ∧ PySem.W.kitOne K t (.ref ec.joint) = some false
def Strg (K : PySem.W.Frag) (ec : EC) (S : Hp) (y : V) : Prop := ∃ t b1 b2, TyOf K S y t ∧ PySem.W.kitOne K t (.ref ec.any) = some b1 ∧ PySem.W.kitOne K t (.ref ec.joint) = some b2 ∧ (b1 = false ∨ b2 = true)
theorem Frnd.mono {K : PySem.W.Frag} {ec : EC} {S T : Hp} {y : V} (e : Same S T) (h : Frnd K ec S y) : Frnd K ec T y := by
  obtain ⟨t, h1, h2⟩ := h
  exact ⟨t, TyOf.up (fun a o => e a o) h1, h2⟩
theorem Strg.mono {K : PySem.W.Frag} {ec : EC} {S T : Hp} {y : V} (e : Same S T) (h : Strg K ec S y) : Strg K ec T y := by
  obtain ⟨t, b1, b2, h1, h2⟩ := h
  exact ⟨t, b1, b2, TyOf.up (fun a o => e a o) h1, h2⟩
abbrev Out := Option (Wrd × V)
/-- the parts of a joint entry: good, or refused -/
def PartsA (K : PySem.W.Frag) (ec : EC) (S : Hp) (v : V) : Out → Prop
  | none => ∃ p vs qs, v = .ref p ∧ S p = some (.lst vs) ∧ AllR (PrtS K ec S) vs qs ∧ (∀ q ∈ qs, q.ok) ∧ 0 < qs.length ∧ qs.length ≤ 8
  | some (.en, x) => (x = v ∧ ((∃ t, TyOf K S v t ∧ PySem.W.kitOne K t (.type "list") = some false) ∨ ∃ p, v = .ref p ∧ S p = some (.lst []))) ∨ ∃ (p : Addr) (vs : List V) (i : Nat), v = .ref p ∧ S p = some (.lst vs) ∧ 0 < vs.length ∧ vs.length ≤ 8 ∧ (∀ j y, j < i → vs[j]? = some y → Frnd K ec S y) ∧ vs[i]? = some x ∧ Strg K ec S x
  | some (.mn, x) => ∃ (p : Addr) (vs : List V), v = .ref p ∧ S p = some (.lst vs) ∧ 8 < vs.length ∧ vs.length < 10000 ∧ x = .int vs.length
  | _ => False
/-- the part of a sifted entry -/
def PartA (K : PySem.W.Frag) (ec : EC) (S : Hp) (v : V) : Out → Prop
  | none => ∃ e, SimS K ec S v e ∧ SiftOk e
  | some (.en, x) => x = v ∧ ∃ t, TyOf K S v t ∧ PySem.W.kitOne K t (.ref ec.within) = some false ∧ PySem.W.kitOne K t (.ref ec.read) = some false
  | some (.mn, x) => ∃ e, SimS K ec S v e ∧ e.k = .within ∧ 1000 ≤ e.hi - e.lo ∧ x = .int (e.hi - e.lo + 1)
  | _ => False
theorem PartsA.mono {K : PySem.W.Frag} {ec : EC} {S T : Hp} {v : V} {o : Out} (e : Same S T) (h : PartsA K ec S v o) : PartsA K ec T v o := by
  rcases o with _ | ⟨wd, x⟩
  · obtain ⟨p, vs, qs, h1, h2, h3, h4⟩ := h
    exact ⟨p, vs, qs, h1, e _ _ h2, h3.mono fun _ _ z => PrtS.mono e z, h4⟩
  · cases wd with
    | en =>
      rcases h with ⟨h1, ⟨t, h2, h3⟩ | ⟨p, h2, h3⟩⟩ | ⟨p, vs, i, h1, h2, h3, h4, h5, h6, h7⟩
      · exact .inl ⟨h1, .inl ⟨t, TyOf.up (fun a o => e a o) h2, h3⟩⟩
      · exact .inl ⟨h1, .inr ⟨p, h2, e _ _ h3⟩⟩
      · exact .inr ⟨p, vs, i, h1, e _ _ h2, h3, h4, fun j y a b => (h5 j y a b).mono e, h6, h7.mono e⟩
    | mn =>
      obtain ⟨p, vs, h1, h2, h3⟩ := h
      exact ⟨p, vs, h1, e _ _ h2, h3⟩
    | _ => exact h.elim
theorem PartA.mono {K : PySem.W.Frag} {ec : EC} {S T : Hp} {v : V} {o : Out} (e : Same S T) (h : PartA K ec S v o) : PartA K ec T v o := by
  rcases o with _ | ⟨wd, x⟩
  · obtain ⟨q, h1, h2⟩ := h
    exact ⟨q, h1.mono e, h2⟩
  · cases wd with
    | en => obtain ⟨h1, t, h2, h3⟩ := h; exact ⟨h1, t, TyOf.up (fun a o => e a o) h2, h3⟩
    | mn => obtain ⟨q, h1, h2⟩ := h; exact ⟨q, h1.mono e, h2⟩
    | _ => exact h.elim
theorem frnd_prt {K : PySem.W.Frag} {ec : EC} {S : Hp} {v : V} {q : Prt} (hj : ec.kds .joint) (h : PrtS K ec S v q) (ok : q.ok) : Frnd K ec S v := by
  obtain ⟨ek, hkd, xp, dxp, fs, rfl, sxp, _⟩ := PrtS.ins h ok
  have eclp := ek.clA _ hkd
  have k1 := ek.kitA _ .any hkd (ek.sm _ trivial)
  refine ⟨_, .ins sxp eclp.cl eclp.ci.ha eclp.ci.hn eclp.ci.ht eclp.ci.hm, ?_, ?_⟩
  · rw [show Value.ref ec.any = .ref (ec.of .any) from rfl, k1]
    rw [show subK q.kd .any = true by cases q.kd <;> rfl]
  · have kj : ec.kds .joint := hj
    rw [show Value.ref ec.joint = .ref (ec.of .joint) from rfl, ek.kitA _ .joint hkd kj]
    rw [show subK q.kd .joint = false by
      cases q with
      | sim e =>
        have hs : simple e.k := (show e.ok from ok).1
        show subK e.k .joint = false
        cases hk : e.k <;> first | rfl | (rw [hk] at hs; exact hs.elim)
      | sift n e g => rfl]
abbrev nm_TooMany_init : List Str := ["self", "many"]
theorem sc_TooMany_init : FnScope nm_TooMany_init ["self", "many"] (defScope s_TooMany_init) := ⟨rfl, rfl, rfl, by decide +kernel, rfl, by decide +kernel, by decide +kernel⟩
theorem st_TooMany_init (a b : V) : start nm_TooMany_init [a, b] = [some a, some b] := rfl
abbrev p_TooMany_init (C : Addr) := initX (Str.ofString "many") C
theorem ok_TooMany_init {f : Addr} {fd : FuncData} {C_Entry C_Within C_At C_Between C_Read C_Joint C_Sifted C_LogError C_NoBond C_NoEntry C_NoMinutes C_NoMoment C_NoName C_NoPlace C_NoReading C_Taken C_TooMany : Addr} (F : Fun K "__init__" "TooMany.__init__" s_TooMany_init f fd) (T : Txt K mg C_Entry C_Within C_At C_Between C_Read C_Joint C_Sifted C_LogError C_NoBond C_NoEntry C_NoMinutes C_NoMoment C_NoName C_NoPlace C_NoReading C_Taken C_TooMany)  : FnOk P ww K mg base CX0 1 f fd ["self", "many"] (pr2 (p_TooMany_init C_TooMany)) := by
  refine F.ok sc_TooMany_init (fun vs H Q E h => len2 h) (fun cdv A outer s H vs Q E hr h => ?_)
  obtain ⟨w, x0, x1,  rfl, rfl, h⟩ := h
  have ekT := ek_T (P := P) (ww := ww) (base := base) T
  have oex_NoBond := T.oex_NoBond; have xf_NoBond := T.xf_NoBond; have ec_NoBond := T.ec_NoBond; have xn_NoBond := T.xn_NoBond
  have oex_NoEntry := T.oex_NoEntry; have xf_NoEntry := T.xf_NoEntry; have ec_NoEntry := T.ec_NoEntry; have xn_NoEntry := T.xn_NoEntry
  have oex_NoMinutes := T.oex_NoMinutes; have xf_NoMinutes := T.xf_NoMinutes; have ec_NoMinutes := T.ec_NoMinutes; have xn_NoMinutes := T.xn_NoMinutes
  have oex_NoMoment := T.oex_NoMoment; have xf_NoMoment := T.xf_NoMoment; have ec_NoMoment := T.ec_NoMoment; have xn_NoMoment := T.xn_NoMoment
  have oex_NoName := T.oex_NoName; have xf_NoName := T.xf_NoName; have ec_NoName := T.ec_NoName; have xn_NoName := T.xn_NoName
  have oex_NoPlace := T.oex_NoPlace; have xf_NoPlace := T.xf_NoPlace; have ec_NoPlace := T.ec_NoPlace; have xn_NoPlace := T.xn_NoPlace
  have oex_NoReading := T.oex_NoReading; have xf_NoReading := T.xf_NoReading; have ec_NoReading := T.ec_NoReading; have xn_NoReading := T.xn_NoReading
  have oex_Taken := T.oex_Taken; have xf_Taken := T.xf_Taken; have ec_Taken := T.ec_Taken; have xn_Taken := T.xn_Taken
  have oex_TooMany := T.oex_TooMany; have xf_TooMany := T.xf_TooMany; have ec_TooMany := T.ec_TooMany; have xn_TooMany := T.xn_TooMany
  refine ⟨_, (pss_cons (ps_expr (pe_xinit (pe_glob (v := .ref C_LogError) (u := .ref C_LogError) rfl T.g_LogError rfl) T.rd_LogError T.gs_LogError T.vv_LogError (pa_cons (pv 0) (pa_cons pe_str pa_nil))))
      (pss_one (ps_ost (pv 0) (pv 1)))), ?_⟩
  rw [st_TooMany_init]
  obtain ⟨x, rfl, hx, k⟩ := h
  ((with_reducible refine s_seq ?_); (with_reducible refine s_drop ?_); (with_reducible refine s_veI ?_); (with_reducible refine s_cons ?_); (with_reducible refine' s_var ?q0 ?q1); (case q0 => exact rfl); (with_reducible refine s_cons ?_); (with_reducible refine s_c ?_); (with_reducible refine s_nil ?_))
  refine ⟨x, _, _, rfl, by simp, oex_TooMany, hx, ?_⟩
  ((with_reducible refine s_ost ?_); (with_reducible refine' s_var ?q2 ?q3); (case q2 => exact rfl); (with_reducible refine' s_var ?q4 ?q5); (case q4 => exact rfl))
  exact ⟨x, C_TooMany, rfl, oex_TooMany, xn_TooMany, .inl ⟨hx, fun dx h1 h2 => k dx h1 h2⟩⟩
abbrev nm_NoEntry_init : List Str := ["self", "found"]
theorem sc_NoEntry_init : FnScope nm_NoEntry_init ["self", "found"] (defScope s_NoEntry_init) := ⟨rfl, rfl, rfl, by decide +kernel, rfl, by decide +kernel, by decide +kernel⟩
theorem st_NoEntry_init (a b : V) : start nm_NoEntry_init [a, b] = [some a, some b] := rfl
abbrev p_NoEntry_init (C : Addr) := initX (Str.ofString "found") C
theorem ok_NoEntry_init {f : Addr} {fd : FuncData} {C_Entry C_Within C_At C_Between C_Read C_Joint C_Sifted C_LogError C_NoBond C_NoEntry C_NoMinutes C_NoMoment C_NoName C_NoPlace C_NoReading C_Taken C_TooMany : Addr} (F : Fun K "__init__" "NoEntry.__init__" s_NoEntry_init f fd) (T : Txt K mg C_Entry C_Within C_At C_Between C_Read C_Joint C_Sifted C_LogError C_NoBond C_NoEntry C_NoMinutes C_NoMoment C_NoName C_NoPlace C_NoReading C_Taken C_TooMany)  : FnOk P ww K mg base CX0 1 f fd ["self", "found"] (pr2 (p_NoEntry_init C_NoEntry)) := by
  refine F.ok sc_NoEntry_init (fun vs H Q E h => len2 h) (fun cdv A outer s H vs Q E hr h => ?_)
  obtain ⟨w, x0, x1,  rfl, rfl, h⟩ := h
  have ekT := ek_T (P := P) (ww := ww) (base := base) T
  have oex_NoBond := T.oex_NoBond; have xf_NoBond := T.xf_NoBond; have ec_NoBond := T.ec_NoBond; have xn_NoBond := T.xn_NoBond
  have oex_NoEntry := T.oex_NoEntry; have xf_NoEntry := T.xf_NoEntry; have ec_NoEntry := T.ec_NoEntry; have xn_NoEntry := T.xn_NoEntry
  have oex_NoMinutes := T.oex_NoMinutes; have xf_NoMinutes := T.xf_NoMinutes; have ec_NoMinutes := T.ec_NoMinutes; have xn_NoMinutes := T.xn_NoMinutes
  have oex_NoMoment := T.oex_NoMoment; have xf_NoMoment := T.xf_NoMoment; have ec_NoMoment := T.ec_NoMoment; have xn_NoMoment := T.xn_NoMoment
  have oex_NoName := T.oex_NoName; have xf_NoName := T.xf_NoName; have ec_NoName := T.ec_NoName; have xn_NoName := T.xn_NoName
  have oex_NoPlace := T.oex_NoPlace; have xf_NoPlace := T.xf_NoPlace; have ec_NoPlace := T.ec_NoPlace; have xn_NoPlace := T.xn_NoPlace
  have oex_NoReading := T.oex_NoReading; have xf_NoReading := T.xf_NoReading; have ec_NoReading := T.ec_NoReading; have xn_NoReading := T.xn_NoReading
  have oex_Taken := T.oex_Taken; have xf_Taken := T.xf_Taken; have ec_Taken := T.ec_Taken; have xn_Taken := T.xn_Taken
  have oex_TooMany := T.oex_TooMany; have xf_TooMany := T.xf_TooMany; have ec_TooMany := T.ec_TooMany; have xn_TooMany := T.xn_TooMany
  refine ⟨_, (pss_cons (ps_expr (pe_xinit (pe_glob (v := .ref C_LogError) (u := .ref C_LogError) rfl T.g_LogError rfl) T.rd_LogError T.gs_LogError T.vv_LogError (pa_cons (pv 0) (pa_cons pe_str pa_nil))))
      (pss_one (ps_ost (pv 0) (pv 1)))), ?_⟩
  rw [st_NoEntry_init]
  obtain ⟨x, rfl, hx, k⟩ := h
  ((with_reducible refine s_seq ?_); (with_reducible refine s_drop ?_); (with_reducible refine s_veI ?_); (with_reducible refine s_cons ?_); (with_reducible refine' s_var ?q6 ?q7); (case q6 => exact rfl); (with_reducible refine s_cons ?_); (with_reducible refine s_c ?_); (with_reducible refine s_nil ?_))
  refine ⟨x, _, _, rfl, by simp, oex_NoEntry, hx, ?_⟩
  ((with_reducible refine s_ost ?_); (with_reducible refine' s_var ?q8 ?q9); (case q8 => exact rfl); (with_reducible refine' s_var ?q10 ?q11); (case q10 => exact rfl))
  exact ⟨x, C_NoEntry, rfl, oex_NoEntry, xn_NoEntry, .inl ⟨hx, fun dx h1 h2 => k dx h1 h2⟩⟩
abbrev nm_Joint_init : List Str := ["self", "name", "parts", "part"]
theorem sc_Joint_init : FnScope nm_Joint_init ["self", "name", "parts"] (defScope s_Joint_init) := ⟨rfl, rfl, rfl, by decide +kernel, rfl, by decide +kernel, by decide +kernel⟩
theorem st_Joint_init (a b c : V) : start nm_Joint_init [a, b, c] = [some a, some b, some c, none] := rfl
def p_Joint_init (K : PySem.W.Frag) (ec : EC) (N M R G T : Addr) (w : Wd) (a b c : V) (Q : VK) (E : XK) : Prop := ∃ x dx dn o, a = .ref x ∧ Own w x (.ins ec.joint dx []) ∧ EK K ec ∧ ec.kds .joint ∧ Rp w.S b dn ∧ TxD dn ∧ PartsA K ec w.S c o ∧
  (nameB dn = true → o = none → ∀ v fs, Ext (One x) w v → Own v x (.ins ec.joint dx fs) → Q .non v.H) ∧ (nameB dn = false → Rz (One x) w N b E) ∧ (nameB dn = true → ∀ wd y, o = some (wd, y) → RzW (One x) w ⟨N, M, R, G, T⟩ wd y E)
theorem ok_Joint_init {f : Addr} {fd : FuncData} {C_Entry C_Within C_At C_Between C_Read C_Joint C_Sifted C_LogError C_NoBond C_NoEntry C_NoMinutes C_NoMoment C_NoName C_NoPlace C_NoReading C_Taken C_TooMany : Addr} (F : Fun K "__init__" "Joint.__init__" s_Joint_init f fd) (T : Txt K mg C_Entry C_Within C_At C_Between C_Read C_Joint C_Sifted C_LogError C_NoBond C_NoEntry C_NoMinutes C_NoMoment C_NoName C_NoPlace C_NoReading C_Taken C_TooMany) (c_NoEntry_init : Mxr P ww K mg base C_NoEntry 1 (pr2 (p_NoEntry_init C_NoEntry))) (c_TooMany_init : Mxr P ww K mg base C_TooMany 1 (pr2 (p_TooMany_init C_TooMany))) (b_Entry_init : Bin P ww K mg base (L2.CX P ww) C_Entry 3 (pr2 (p_Entry_init K C_NoName))) : FnOk P ww K mg base (L2.CX P ww) 4 f fd ["self", "name", "parts"] (pr3 (p_Joint_init K (EC.mk C_Entry C_Within C_At C_Between C_Read C_Joint C_Sifted kdAll noKp) C_NoName C_NoMoment C_NoReading C_NoEntry C_TooMany)) := by
  refine F.okX sc_Joint_init (fun vs H Q E h => len3 h) (fun cdv A outer s H vs Q E hr h => ?_)
  obtain ⟨w, x0, x1, x2,  rfl, rfl, h⟩ := h
  have ekT := ek_T (P := P) (ww := ww) (base := base) T
  have oex_NoBond := T.oex_NoBond; have xf_NoBond := T.xf_NoBond; have ec_NoBond := T.ec_NoBond; have xn_NoBond := T.xn_NoBond
  have oex_NoEntry := T.oex_NoEntry; have xf_NoEntry := T.xf_NoEntry; have ec_NoEntry := T.ec_NoEntry; have xn_NoEntry := T.xn_NoEntry
  have oex_NoMinutes := T.oex_NoMinutes; have xf_NoMinutes := T.xf_NoMinutes; have ec_NoMinutes := T.ec_NoMinutes; have xn_NoMinutes := T.xn_NoMinutes
  have oex_NoMoment := T.oex_NoMoment; have xf_NoMoment := T.xf_NoMoment; have ec_NoMoment := T.ec_NoMoment; have xn_NoMoment := T.xn_NoMoment
  have oex_NoName := T.oex_NoName; have xf_NoName := T.xf_NoName; have ec_NoName := T.ec_NoName; have xn_NoName := T.xn_NoName
  have oex_NoPlace := T.oex_NoPlace; have xf_NoPlace := T.xf_NoPlace; have ec_NoPlace := T.ec_NoPlace; have xn_NoPlace := T.xn_NoPlace
  have oex_NoReading := T.oex_NoReading; have xf_NoReading := T.xf_NoReading; have ec_NoReading := T.ec_NoReading; have xn_NoReading := T.xn_NoReading
  have oex_Taken := T.oex_Taken; have xf_Taken := T.xf_Taken; have ec_Taken := T.ec_Taken; have xn_Taken := T.xn_Taken
  have oex_TooMany := T.oex_TooMany; have xf_TooMany := T.xf_TooMany; have ec_TooMany := T.ec_TooMany; have xn_TooMany := T.xn_TooMany
  refine ⟨_, (pss_cons (ps_expr (pe_bin (takes_of rfl rfl rfl rfl) b_Entry_init hr (by decide) (pe_glob (v := .ref C_Entry) (u := .ref C_Entry) rfl T.g_Entry rfl) (pa_cons (pv 0) (pa_cons (pv 1) pa_nil))))
      (pss_cons (ps_if (PW.pt (pw_or (pt_not (pt_val (pe_callB (kIsi K) (by rfl) T.n_isinstance (by decide +kernel) (pa_cons (pv 2) (pa_cons (pe_bltn (v := .ty "list") (u := .type "list") rfl T.n_list (by decide +kernel) rfl) pa_nil))))) (pw_or1 (pt_cmpR (kEqL0 hr.units) (pv 2) (pe_lst pa_nil) (nomark _))))) (pss_one (ps_raiseX rfl (takes_of rfl rfl rfl rfl) c_NoEntry_init hr (by decide) T.g_NoEntry (pa_cons (pv 2) pa_nil))) pss_nil)
      (pss_cons (ps_if (pt_cmpR g_gt (pe_callB (kLen K) (by rfl) T.n_len (by decide +kernel) (pa_cons (pv 2) pa_nil)) (pe_gco rfl T.c_MOST_PARTS) (nomark _)) (pss_one (ps_raiseX rfl (takes_of rfl rfl rfl rfl) c_TooMany_init hr (by decide) T.g_TooMany (pa_cons (pe_callB (kLen K) (by rfl) T.n_len (by decide +kernel) (pa_cons (pv 2) pa_nil)) pa_nil))) pss_nil)
      (pss_cons (ps_for (passes_of rfl) rfl (kpList K (pv 2)) (pg_name (i := 3) sc_Joint_init.nd rfl (Or.inl rfl)) (pss_one (ps_if (PW.pt (pw_or (pt_not (pt_val (pe_callB (kIsi K) (by rfl) T.n_isinstance (by decide +kernel) (pa_cons (pv 3) (pa_cons (pe_glob (v := .ref C_Entry) (u := .ref C_Entry) rfl T.g_Entry rfl) pa_nil))))) (pw_or1 (pt_val (pe_callB (kIsi K) (by rfl) T.n_isinstance (by decide +kernel) (pa_cons (pv 3) (pa_cons (pe_glob (v := .ref C_Joint) (u := .ref C_Joint) rfl T.g_Joint rfl) pa_nil))))))) (pss_one (ps_raiseX rfl (takes_of rfl rfl rfl rfl) c_NoEntry_init hr (by decide) T.g_NoEntry (pa_cons (pv 3) pa_nil))) pss_nil)))
      (pss_one (ps_fld (pv 0) (pe_callTy (kList K) (by rfl) T.n_list (by decide +kernel) (pa_cons (pv 2) pa_nil)) rfl)))))), ?_⟩
  rw [st_Joint_init]
  obtain ⟨x, dx, dn, o, rfl, ow, ek, kd, hn, tx, hp, k1, k2, k3⟩ := h
  have ecl := ek.clA _ kd
  have cl := ecl.cl; have nknown := ecl.known
  ((with_reducible refine s_seq ?_); (with_reducible refine s_drop ?_); (with_reducible refine s_callX ?_); (with_reducible refine s_cons ?_); (with_reducible refine' s_var ?q0 ?q1); (case q0 => exact rfl); (with_reducible refine s_cons ?_); (with_reducible refine' s_var ?q2 ?q3); (case q2 => exact rfl); (with_reducible refine s_nil ?_); (with_reducible refine s_pr2 ?_))
  refine ⟨x, _, dx, dn, rfl, ow, ecl, hn, tx, fun z hz hb v1 e1 o1 => ?_, k2⟩
  have hp1 := hp.mono e1.st
  clear hp
  rcases ho : o with _ | ⟨wd, y⟩ <;> rw [ho] at hp1
  rotate_left
  cases wd
  case nm => exact hp1.elim
  case mo => exact hp1.elim
  case rd => exact hp1.elim
  case mn =>
    obtain ⟨p, vs, rfl, sp, h8, hlt, rfl⟩ := hp1
    have k3 := k3 hb .mn _ ho
    ((with_reducible refine s_seq ?_); (with_reducible refine s_ifS ?_); (with_reducible refine s_or ?_); (with_reducible refine s_not ?_); (with_reducible refine s_B ?_); (with_reducible refine s_CB ?_); (with_reducible refine s_cons ?_); (with_reducible refine' s_var ?q4 ?q5); (case q4 => exact rfl); (with_reducible refine s_cons ?_); (with_reducible refine s_c ?_); (with_reducible refine s_nil ?_); (with_reducible refine' si_lst ?q22 ?q23 ?q24); (case q22 => assumption); (case q23 => exact kb_bool_int); (with_reducible refine s_bl ?_); (with_reducible refine ite_nt ?_); (with_reducible refine s_test ?_); (with_reducible refine s_op ?_); (with_reducible refine' s_var ?q25 ?q26); (case q25 => exact rfl); (with_reducible refine t_lst ?_); (with_reducible refine s_nil ?_); (with_reducible refine' t_newLS ?q27 ?q28); (case q27 => simp only [ List.length , sizeLine_eq ]; omega); intro _ _ _ _ _)
    rename_i p2 v2 e2 n2 s2
    have ew2 : Ext (One x) w v2 := e1.trans (e2.more fun _ z => z.elim)
    have sp2 := st_go e2 sp
    refine s_eqL0 (v2.ok _ _ sp2) (v2.ok _ _ s2) ?_
    rw [show vs.isEmpty = false by cases vs with | nil => (simp at h8) | cons _ _ => rfl]
    ((with_reducible refine s_bl ?_); (with_reducible refine ite_ff ?_); (with_reducible refine s_next ?_); (with_reducible refine s_seq ?_); (with_reducible refine s_ifS ?_); (with_reducible refine s_test ?_); (with_reducible refine s_op ?_); (with_reducible refine s_CB ?_); (with_reducible refine s_cons ?_); (with_reducible refine' s_var ?q32 ?q33); (case q32 => exact rfl); (with_reducible refine s_nil ?_); (with_reducible refine' s_lenL ?q37 ?q38); (case q37 => assumption); (with_reducible refine s_c ?_); (with_reducible refine s_gt ?_); (with_reducible refine s_bl ?_))
    refine ite_d (fun c => ?_) (fun c => absurd c (by omega))
    skip
    refine s_raiseX rfl ?_
    ((with_reducible refine s_cons ?_); (with_reducible refine s_CB ?_); (with_reducible refine s_cons ?_); (with_reducible refine' s_var ?q42 ?q43); (case q42 => exact rfl); (with_reducible refine s_nil ?_); (with_reducible refine' s_lenL ?q47 ?q48); (case q47 => assumption); (with_reducible refine s_nil ?_))
    exact s_raised (W := fun cls d _ H => E cls d H) (σ := []) fun e v ev n o => k3 v e (ew2.step ev fun _ z => z.elim) (ew2.back n) o
  case en =>
    have k3 := k3 hb .en _ ho
    rcases hp1 with ⟨rfl, ⟨t, ht, hk⟩ | ⟨p, rfl, sp⟩⟩ | ⟨p, vs, i, rfl, sp, h0, h8, hfr, hi, hst⟩
    · ((with_reducible refine s_seq ?_); (with_reducible refine s_ifS ?_); (with_reducible refine s_or ?_); (with_reducible refine s_not ?_); (with_reducible refine s_B ?_); (with_reducible refine s_CB ?_); (with_reducible refine s_cons ?_); (with_reducible refine' s_var ?q49 ?q50); (case q49 => exact rfl); (with_reducible refine s_cons ?_); (with_reducible refine s_c ?_); (with_reducible refine s_nil ?_))
      refine s_isTt (TyOf.up (fun a o => v1.ok a o) ht) hk ?_
      ((with_reducible refine s_bl ?_); (with_reducible refine ite_nf ?_); (with_reducible refine ite_tt ?_))
      refine s_raiseX rfl ?_
      ((with_reducible refine s_cons ?_); (with_reducible refine' s_var ?q54 ?q55); (case q54 => exact rfl); (with_reducible refine s_nil ?_))
      exact s_raised (W := fun cls d _ H => E cls d H) (σ := []) fun e v ev n o => k3 v e (e1.step ev fun _ z => z.elim) (e1.back n) o
    · ((with_reducible refine s_seq ?_); (with_reducible refine s_ifS ?_); (with_reducible refine s_or ?_); (with_reducible refine s_not ?_); (with_reducible refine s_B ?_); (with_reducible refine s_CB ?_); (with_reducible refine s_cons ?_); (with_reducible refine' s_var ?q56 ?q57); (case q56 => exact rfl); (with_reducible refine s_cons ?_); (with_reducible refine s_c ?_); (with_reducible refine s_nil ?_); (with_reducible refine' sd_list ?q58 ?q59); (case q58 => refine' Rp.lst ?q63 ?q64; (case q63 => assumption); (case q64 => exact RpA.nil)); (with_reducible refine s_bl ?_))
      rw [show isList (PyData.list []) = true from rfl]
      ((with_reducible refine ite_nt ?_); (with_reducible refine s_test ?_); (with_reducible refine s_op ?_); (with_reducible refine' s_var ?q65 ?q66); (case q65 => exact rfl); (with_reducible refine t_lst ?_); (with_reducible refine s_nil ?_); (with_reducible refine' t_newLS ?q67 ?q68); (case q67 => simp only [ List.length , sizeLine_eq ]; omega); intro _ _ _ _ _)
      rename_i p2 v2 e2 n2 s2
      have ew2 : Ext (One x) w v2 := e1.trans (e2.more fun _ z => z.elim)
      refine s_eqL0 (v2.ok _ _ (st_go e2 sp)) (v2.ok _ _ s2) ?_
      rw [show ([] : List V).isEmpty = true from rfl]
      ((with_reducible refine s_bl ?_); (with_reducible refine ite_tt ?_))
      refine s_raiseX rfl ?_
      ((with_reducible refine s_cons ?_); (with_reducible refine' s_var ?q69 ?q70); (case q69 => exact rfl); (with_reducible refine s_nil ?_))
      exact s_raised (W := fun cls d _ H => E cls d H) (σ := []) fun e v ev n o => k3 v e (ew2.step ev fun _ z => z.elim) (ew2.back n) o
    · ((with_reducible refine s_seq ?_); (with_reducible refine s_ifS ?_); (with_reducible refine s_or ?_); (with_reducible refine s_not ?_); (with_reducible refine s_B ?_); (with_reducible refine s_CB ?_); (with_reducible refine s_cons ?_); (with_reducible refine' s_var ?q71 ?q72); (case q71 => exact rfl); (with_reducible refine s_cons ?_); (with_reducible refine s_c ?_); (with_reducible refine s_nil ?_); (with_reducible refine' si_lst ?q89 ?q90 ?q91); (case q89 => assumption); (case q90 => exact kb_bool_int); (with_reducible refine s_bl ?_); (with_reducible refine ite_nt ?_); (with_reducible refine s_test ?_); (with_reducible refine s_op ?_); (with_reducible refine' s_var ?q92 ?q93); (case q92 => exact rfl); (with_reducible refine t_lst ?_); (with_reducible refine s_nil ?_); (with_reducible refine' t_newLS ?q94 ?q95); (case q94 => simp only [ List.length , sizeLine_eq ]; omega); intro _ _ _ _ _)
      rename_i p2 v2 e2 n2 s2
      have ew2 : Ext (One x) w v2 := e1.trans (e2.more fun _ z => z.elim)
      have sp2 := st_go e2 sp
      refine s_eqL0 (v2.ok _ _ sp2) (v2.ok _ _ s2) ?_
      rw [show vs.isEmpty = false by cases vs with | nil => (simp at h0) | cons _ _ => rfl]
      clear s2 n2
      ((with_reducible refine s_bl ?_); (with_reducible refine ite_ff ?_); (with_reducible refine s_next ?_); (with_reducible refine s_seq ?_); (with_reducible refine s_ifS ?_); (with_reducible refine s_test ?_); (with_reducible refine s_op ?_); (with_reducible refine s_CB ?_); (with_reducible refine s_cons ?_); (with_reducible refine' s_var ?q99 ?q100); (case q99 => exact rfl); (with_reducible refine s_nil ?_); (with_reducible refine' s_lenL ?q104 ?q105); (case q104 => assumption); (with_reducible refine s_c ?_); (with_reducible refine s_gt ?_); (with_reducible refine s_bl ?_))
      refine ite_d (fun c => absurd c (by omega)) (fun c => ?_)
      ((with_reducible refine s_next ?_); (with_reducible refine s_seq ?_); (with_reducible refine s_for ?_); (with_reducible refine s_iList ?_); (with_reducible refine' s_var ?q106 ?q107); (case q106 => exact rfl); refine' ⟨ _ , rfl , ⟨ _ , ?q108 ⟩ , ?q109 ⟩; (case q108 => refine' SqL.of ( Wd.ok _ _ _ ?q110 ); (case q110 => assumption)))
      refine forW (ww_list (xs := vs)) (fun j σ u => Ext Non v2 u ∧ j ≤ i ∧ ∃ g, σ = [some (.ref x), some x1, some (.ref p), g]) ⟨Ext.refl _ _, Nat.zero_le _, _, rfl⟩ (fun i σ u _ hh => sql_of (st_go hh.1 sp2)) ?_ ?_
      · rintro j y0 σ _ u hj ⟨eu, hji, g, rfl⟩ ⟨rfl, hx⟩
        have ewu : Ext (One x) w u := ew2.trans (eu.more fun _ z => z.elim)
        have e1u : Same v1.S u.S := fun a o z => eu.st a o (e2.st a o z)
        by_cases hjj : j = i
        · subst hjj
          rw [hi] at hx
          cases hx
          obtain ⟨t, b1, b2, ht, q1, q2, hb12⟩ := hst.mono e1u
          have ht' := TyOf.up (fun a o => u.ok a o) ht
          ((with_reducible refine' s_gname ?q111 ?q112); (case q111 => simp only [ List.set_cons_succ , List.set_cons_zero ]; exact rfl); (with_reducible refine s_ifS ?_); (with_reducible refine s_or ?_); (with_reducible refine s_not ?_); (with_reducible refine s_B ?_); (with_reducible refine s_CB ?_); (with_reducible refine s_cons ?_); (with_reducible refine' s_var ?q113 ?q114); (case q113 => exact rfl); (with_reducible refine s_cons ?_); (with_reducible refine s_c ?_); (with_reducible refine s_nil ?_))
          refine s_isTo ht' q1 ?_
          cases b1 with
          | false =>
            ((with_reducible refine s_bl ?_); (with_reducible refine ite_nf ?_); (with_reducible refine ite_tt ?_))
            refine s_raiseX rfl ?_
            ((with_reducible refine s_cons ?_); (with_reducible refine' s_var ?q115 ?q116); (case q115 => exact rfl); (with_reducible refine s_nil ?_))
            exact s_raised (W := fun cls d _ H => E cls d H) (σ := []) fun e v ev n o => k3 v e (ewu.step ev fun _ z => z.elim) (ewu.back n) o
          | true =>
            obtain rfl : b2 = true := by rcases hb12 with h | h; cases h; exact h
            ((with_reducible refine s_bl ?_); (with_reducible refine ite_nt ?_); (with_reducible refine s_B ?_); (with_reducible refine s_CB ?_); (with_reducible refine s_cons ?_); (with_reducible refine' s_var ?q120 ?q121); (case q120 => exact rfl); (with_reducible refine s_cons ?_); (with_reducible refine s_c ?_); (with_reducible refine s_nil ?_))
            refine s_isTo ht' q2 ?_
            ((with_reducible refine s_bl ?_); (with_reducible refine ite_tt ?_))
            refine s_raiseX rfl ?_
            ((with_reducible refine s_cons ?_); (with_reducible refine' s_var ?q122 ?q123); (case q122 => exact rfl); (with_reducible refine s_nil ?_))
            exact s_raised (W := fun cls d _ H => E cls d H) (σ := []) fun e v ev n o => k3 v e (ewu.step ev fun _ z => z.elim) (ewu.back n) o
        · obtain ⟨t, ht, q1, q2⟩ := (hfr j y0 (by omega) hx).mono e1u
          have ht' := TyOf.up (fun a o => u.ok a o) ht
          ((with_reducible refine' s_gname ?q124 ?q125); (case q124 => simp only [ List.set_cons_succ , List.set_cons_zero ]; exact rfl); (with_reducible refine s_ifS ?_); (with_reducible refine s_or ?_); (with_reducible refine s_not ?_); (with_reducible refine s_B ?_); (with_reducible refine s_CB ?_); (with_reducible refine s_cons ?_); (with_reducible refine' s_var ?q126 ?q127); (case q126 => exact rfl); (with_reducible refine s_cons ?_); (with_reducible refine s_c ?_); (with_reducible refine s_nil ?_))
          refine s_isTo ht' q1 ?_
          ((with_reducible refine s_bl ?_); (with_reducible refine ite_nt ?_); (with_reducible refine s_B ?_); (with_reducible refine s_CB ?_); (with_reducible refine s_cons ?_); (with_reducible refine' s_var ?q131 ?q132); (case q131 => exact rfl); (with_reducible refine s_cons ?_); (with_reducible refine s_c ?_); (with_reducible refine s_nil ?_))
          refine s_isTo ht' q2 ?_
          ((with_reducible refine s_bl ?_); (with_reducible refine ite_ff ?_); (with_reducible refine s_next ?_); (with_reducible refine wds_i ?_))
          exact ⟨eu, by omega, _, rfl⟩
      · rintro σ u ⟨eu, hji, g, rfl⟩
        have := (List.getElem?_eq_some_iff.mp hi).1
        omega
  · obtain ⟨p, vs, qs, rfl, sp, ra, hok, h0, h8⟩ := hp1
    have hl := ra.len
    ((with_reducible refine s_seq ?_); (with_reducible refine s_ifS ?_); (with_reducible refine s_or ?_); (with_reducible refine s_not ?_); (with_reducible refine s_B ?_); (with_reducible refine s_CB ?_); (with_reducible refine s_cons ?_); (with_reducible refine' s_var ?q136 ?q137); (case q136 => exact rfl); (with_reducible refine s_cons ?_); (with_reducible refine s_c ?_); (with_reducible refine s_nil ?_); (with_reducible refine' si_lst ?q154 ?q155 ?q156); (case q154 => assumption); (case q155 => exact kb_bool_int); (with_reducible refine s_bl ?_); (with_reducible refine ite_nt ?_); (with_reducible refine s_test ?_); (with_reducible refine s_op ?_); (with_reducible refine' s_var ?q157 ?q158); (case q157 => exact rfl); (with_reducible refine t_lst ?_); (with_reducible refine s_nil ?_); (with_reducible refine' t_newLS ?q159 ?q160); (case q159 => simp only [ List.length , sizeLine_eq ]; omega); intro _ _ _ _ _)
    rename_i p2 v2 e2 n2 s2
    have ew2 : Ext (One x) w v2 := e1.trans (e2.more fun _ z => z.elim)
    have sp2 := st_go e2 sp
    have o2 := o1.ext e2 fun z => z
    refine s_eqL0 (v2.ok _ _ sp2) (v2.ok _ _ s2) ?_
    rw [show vs.isEmpty = false by cases vs with | nil => (simp at hl; omega) | cons _ _ => rfl]
    clear s2 n2
    ((with_reducible refine s_bl ?_); (with_reducible refine ite_ff ?_); (with_reducible refine s_next ?_); (with_reducible refine s_seq ?_); (with_reducible refine s_ifS ?_); (with_reducible refine s_test ?_); (with_reducible refine s_op ?_); (with_reducible refine s_CB ?_); (with_reducible refine s_cons ?_); (with_reducible refine' s_var ?q164 ?q165); (case q164 => exact rfl); (with_reducible refine s_nil ?_); (with_reducible refine' s_lenL ?q169 ?q170); (case q169 => assumption); (with_reducible refine s_c ?_); (with_reducible refine s_gt ?_); (with_reducible refine s_bl ?_))
    refine ite_d (fun c => absurd c (by omega)) (fun c => ?_)
    ((with_reducible refine s_next ?_); (with_reducible refine s_seq ?_); (with_reducible refine s_for ?_); (with_reducible refine s_iList ?_); (with_reducible refine' s_var ?q171 ?q172); (case q171 => exact rfl); refine' ⟨ _ , rfl , ⟨ _ , ?q173 ⟩ , ?q174 ⟩; (case q173 => refine' SqL.of ( Wd.ok _ _ _ ?q175 ); (case q175 => assumption)))
    refine forW (ww_list (xs := vs)) (fun j σ u => Ext Non v2 u ∧ ∃ g, σ = [some (.ref x), some x1, some (.ref p), g]) ⟨Ext.refl _ _, _, rfl⟩ (fun i σ u _ hh => sql_of (st_go hh.1 sp2)) ?_ ?_
    · rintro j y0 σ _ u hj ⟨eu, g, rfl⟩ ⟨rfl, hx⟩
      have e1u : Same v1.S u.S := fun a o z => eu.st a o (e2.st a o z)
      obtain ⟨q, hq, hP⟩ := ra.get hx
      obtain ⟨t, ht, q1, q2⟩ := (frnd_prt kd hP (hok q (List.mem_of_getElem? hq))).mono e1u
      have ht' := TyOf.up (fun a o => u.ok a o) ht
      ((with_reducible refine' s_gname ?q176 ?q177); (case q176 => simp only [ List.set_cons_succ , List.set_cons_zero ]; exact rfl); (with_reducible refine s_ifS ?_); (with_reducible refine s_or ?_); (with_reducible refine s_not ?_); (with_reducible refine s_B ?_); (with_reducible refine s_CB ?_); (with_reducible refine s_cons ?_); (with_reducible refine' s_var ?q178 ?q179); (case q178 => exact rfl); (with_reducible refine s_cons ?_); (with_reducible refine s_c ?_); (with_reducible refine s_nil ?_))
      refine s_isTo ht' q1 ?_
      ((with_reducible refine s_bl ?_); (with_reducible refine ite_nt ?_); (with_reducible refine s_B ?_); (with_reducible refine s_CB ?_); (with_reducible refine s_cons ?_); (with_reducible refine' s_var ?q183 ?q184); (case q183 => exact rfl); (with_reducible refine s_cons ?_); (with_reducible refine s_c ?_); (with_reducible refine s_nil ?_))
      refine s_isTo ht' q2 ?_
      ((with_reducible refine s_bl ?_); (with_reducible refine ite_ff ?_); (with_reducible refine s_next ?_); (with_reducible refine wds_i ?_))
      exact ⟨eu, _, rfl⟩
    · rintro σ u ⟨eu, g, rfl⟩
      have ou := o2.ext eu fun z => z
      have spu := st_go eu sp2
      have ewu : Ext (One x) w u := ew2.trans (eu.more fun _ z => z.elim)
      clear eu o2 sp2 ew2 e2 e1 o1
      ((with_reducible refine s_sfld ?_); (with_reducible refine s_CB ?_); (with_reducible refine s_cons ?_); (with_reducible refine' s_var ?q188 ?q189); (case q188 => exact rfl); (with_reducible refine s_nil ?_); (with_reducible refine' s_listS ?q190 ?q191); (case q190 => refine' Or.inl ?q192; (case q192 => refine' SqL.of ( Wd.ok _ _ _ ?q193 ); (case q193 => assumption))); intro _ _ _ _ _; (with_reducible refine' s_var ?q194 ?q195); (case q194 => exact rfl); (with_reducible refine' s_rsfl ?q196 ?q197 ?q198 ?q199 ?q200 ?q201); (case q196 => refine' Own.ext ( by assumption ) ?q202 ?q203; (case q202 => exact fun h => h); (case q203 => assumption)); (case q197 => assumption); (case q198 => assumption); (case q199 => simp only [ List.length_cons , List.length_nil ]; omega); (case q200 => refine' pf_tl ?q204 ?q205; (case q204 => decide +kernel); (case q205 => exact pf_nil)); intro _ _ _)
      exact k1 hb ho _ _ (by (refine' Ext.step ?q206 ?q207 ?q208; (case q207 => assumption); (case q206 => refine' Ext.step ?q209 ?q210 ?q211; (case q210 => assumption); (case q209 => assumption); (case q211 => exact fun _ z => z.elim)); (case q208 => refine tch_one ?q212; refine Or.inr ?_; rfl))) (by assumption)
abbrev nm_Sifted_init : List Str := ["self", "name", "part", "keeps"]
theorem sc_Sifted_init : FnScope nm_Sifted_init ["self", "name", "part", "keeps"] (defScope s_Sifted_init) := ⟨rfl, rfl, rfl, by decide +kernel, rfl, by decide +kernel, by decide +kernel⟩
theorem st_Sifted_init (a b c d : V) : start nm_Sifted_init [a, b, c, d] = [some a, some b, some c, some d] := rfl
def p_Sifted_init (K : PySem.W.Frag) (ec : EC) (N M R G T : Addr) (w : Wd) (a b c d : V) (Q : VK) (E : XK) : Prop := ∃ x dx dn o, a = .ref x ∧ Own w x (.ins ec.sifted dx []) ∧ EK K ec ∧ ec.kds .sifted ∧ Rp w.S b dn ∧ TxD dn ∧ PartA K ec w.S c o ∧
  (nameB dn = true → o = none → ∀ v fs, Ext (One x) w v → Own v x (.ins ec.sifted dx fs) → Q .non v.H) ∧ (nameB dn = false → Rz (One x) w N b E) ∧ (nameB dn = true → ∀ wd y, o = some (wd, y) → RzW (One x) w ⟨N, M, R, G, T⟩ wd y E)
theorem ok_Sifted_init {f : Addr} {fd : FuncData} {C_Entry C_Within C_At C_Between C_Read C_Joint C_Sifted C_LogError C_NoBond C_NoEntry C_NoMinutes C_NoMoment C_NoName C_NoPlace C_NoReading C_Taken C_TooMany : Addr} (F : Fun K "__init__" "Sifted.__init__" s_Sifted_init f fd) (T : Txt K mg C_Entry C_Within C_At C_Between C_Read C_Joint C_Sifted C_LogError C_NoBond C_NoEntry C_NoMinutes C_NoMoment C_NoName C_NoPlace C_NoReading C_Taken C_TooMany) (c_NoEntry_init : Mxr P ww K mg base C_NoEntry 1 (pr2 (p_NoEntry_init C_NoEntry))) (c_TooMany_init : Mxr P ww K mg base C_TooMany 1 (pr2 (p_TooMany_init C_TooMany))) (b_Entry_init : Bin P ww K mg base (L2.CX P ww) C_Entry 3 (pr2 (p_Entry_init K C_NoName))) : FnOk P ww K mg base (L2.CX P ww) 4 f fd ["self", "name", "part", "keeps"] (pr4 (p_Sifted_init K (EC.mk C_Entry C_Within C_At C_Between C_Read C_Joint C_Sifted kdAll noKp) C_NoName C_NoMoment C_NoReading C_NoEntry C_TooMany)) := by
  refine F.okX sc_Sifted_init (fun vs H Q E h => len4 h) (fun cdv A outer s H vs Q E hr h => ?_)
  obtain ⟨w, x0, x1, x2, x3,  rfl, rfl, h⟩ := h
  have ekT := ek_T (P := P) (ww := ww) (base := base) T
  have oex_NoBond := T.oex_NoBond; have xf_NoBond := T.xf_NoBond; have ec_NoBond := T.ec_NoBond; have xn_NoBond := T.xn_NoBond
  have oex_NoEntry := T.oex_NoEntry; have xf_NoEntry := T.xf_NoEntry; have ec_NoEntry := T.ec_NoEntry; have xn_NoEntry := T.xn_NoEntry
  have oex_NoMinutes := T.oex_NoMinutes; have xf_NoMinutes := T.xf_NoMinutes; have ec_NoMinutes := T.ec_NoMinutes; have xn_NoMinutes := T.xn_NoMinutes
  have oex_NoMoment := T.oex_NoMoment; have xf_NoMoment := T.xf_NoMoment; have ec_NoMoment := T.ec_NoMoment; have xn_NoMoment := T.xn_NoMoment
  have oex_NoName := T.oex_NoName; have xf_NoName := T.xf_NoName; have ec_NoName := T.ec_NoName; have xn_NoName := T.xn_NoName
  have oex_NoPlace := T.oex_NoPlace; have xf_NoPlace := T.xf_NoPlace; have ec_NoPlace := T.ec_NoPlace; have xn_NoPlace := T.xn_NoPlace
  have oex_NoReading := T.oex_NoReading; have xf_NoReading := T.xf_NoReading; have ec_NoReading := T.ec_NoReading; have xn_NoReading := T.xn_NoReading
  have oex_Taken := T.oex_Taken; have xf_Taken := T.xf_Taken; have ec_Taken := T.ec_Taken; have xn_Taken := T.xn_Taken
  have oex_TooMany := T.oex_TooMany; have xf_TooMany := T.xf_TooMany; have ec_TooMany := T.ec_TooMany; have xn_TooMany := T.xn_TooMany
  refine ⟨_, (pss_cons (ps_expr (pe_bin (takes_of rfl rfl rfl rfl) b_Entry_init hr (by decide) (pe_glob (v := .ref C_Entry) (u := .ref C_Entry) rfl T.g_Entry rfl) (pa_cons (pv 0) (pa_cons (pv 1) pa_nil))))
      (pss_cons (ps_if (pt_not (pt_val (pe_callB (kIsiT K) (by rfl) T.n_isinstance (by decide +kernel) (pa_cons (pv 2) (pa_cons (pe_tup (pa_cons (pe_glob (v := .ref C_Within) (u := .ref C_Within) rfl T.g_Within rfl) (pa_cons (pe_glob (v := .ref C_Read) (u := .ref C_Read) rfl T.g_Read rfl) pa_nil))) pa_nil))))) (pss_one (ps_raiseX rfl (takes_of rfl rfl rfl rfl) c_NoEntry_init hr (by decide) T.g_NoEntry (pa_cons (pv 2) pa_nil))) pss_nil)
      (pss_cons (ps_if (PW.pt (pw_and (pt_val (pe_callB (kIsi K) (by rfl) T.n_isinstance (by decide +kernel) (pa_cons (pv 2) (pa_cons (pe_glob (v := .ref C_Within) (u := .ref C_Within) rfl T.g_Within rfl) pa_nil)))) (pw_and1 (pt_cmpR g_ge (pe_op g_sub (pe_fld (pv 2) rfl) (pe_fld (pv 2) rfl)) (pe_gco rfl T.c_MOST_SIFTED) (nomark _))))) (pss_one (ps_raiseX rfl (takes_of rfl rfl rfl rfl) c_TooMany_init hr (by decide) T.g_TooMany (pa_cons (pe_op (kAdd K) (pe_op g_sub (pe_fld (pv 2) rfl) (pe_fld (pv 2) rfl)) pe_int) pa_nil))) pss_nil)
      (pss_cons (ps_fld (pv 0) (pv 2) rfl)
      (pss_one (ps_fld (pv 0) (pv 3) rfl)))))), ?_⟩
  rw [st_Sifted_init]
  obtain ⟨x, dx, dn, o, rfl, ow, ek, kd, hn, tx, hp, k1, k2, k3⟩ := h
  have ecl := ek.clA _ kd
  have cl := ecl.cl; have npart := ecl.part; have nkeeps := ecl.keeps
  ((with_reducible refine s_seq ?_); (with_reducible refine s_drop ?_); (with_reducible refine s_callX ?_); (with_reducible refine s_cons ?_); (with_reducible refine' s_var ?q0 ?q1); (case q0 => exact rfl); (with_reducible refine s_cons ?_); (with_reducible refine' s_var ?q2 ?q3); (case q2 => exact rfl); (with_reducible refine s_nil ?_); (with_reducible refine s_pr2 ?_))
  refine ⟨x, _, dx, dn, rfl, ow, ecl, hn, tx, fun z hz hb v1 e1 o1 => ?_, k2⟩
  have hp1 := hp.mono e1.st
  clear hp
  rcases ho : o with _ | ⟨wd, y⟩ <;> rw [ho] at hp1
  rotate_left
  cases wd
  case nm => exact hp1.elim
  case mo => exact hp1.elim
  case rd => exact hp1.elim
  case en =>
    obtain ⟨rfl, t, ht, q1, q2⟩ := hp1
    have k3 := k3 hb .en _ ho
    ((with_reducible refine s_seq ?_); (with_reducible refine s_ifS ?_); (with_reducible refine s_not ?_); (with_reducible refine s_B ?_); (with_reducible refine s_CB ?_); (with_reducible refine s_cons ?_); (with_reducible refine' s_var ?q4 ?q5); (case q4 => exact rfl); (with_reducible refine s_cons ?_); (with_reducible refine t_tup ?_); (with_reducible refine s_cons ?_); (with_reducible refine s_c ?_); (with_reducible refine s_cons ?_); (with_reducible refine s_c ?_); (with_reducible refine s_nil ?_); (with_reducible refine' t_newT ?q6 ?q7); (case q6 => simp only [ List.length , sizeLine_eq ]; omega); intro _ _ _ _ _; (with_reducible refine s_nil ?_))
    rename_i p2 v2 e2 n2 s2
    have ew2 : Ext (One x) w v2 := e1.trans (e2.more fun _ z => z.elim)
    refine s_isT2 s2 (TyOf.up (fun a o z => v2.ok a o (e2.st a o z)) ht) q1 q2 ?_
    rw [Bool.or_false]
    ((with_reducible refine s_bl ?_); (with_reducible refine ite_nf ?_))
    refine s_raiseX rfl ?_
    ((with_reducible refine s_cons ?_); (with_reducible refine' s_var ?q15 ?q16); (case q15 => exact rfl); (with_reducible refine s_nil ?_))
    exact s_raised (W := fun cls d _ H => E cls d H) (σ := []) fun e v ev n o => k3 v e (ew2.step ev fun _ z => z.elim) (ew2.back n) o
  case mn =>
    obtain ⟨e, hS, hk, hbig, rfl⟩ := hp1
    have k3 := k3 hb .mn _ ho
    obtain ⟨_, xe, dxe, rfl, sxe⟩ := id hS
    obtain ⟨kk, en, ep, elo, ehi⟩ := e
    have hk : kk = .within := hk
    subst hk
    have ecle := ek.cl .within trivial
    have kW := ek.kit .within .within trivial trivial
    have kR := ek.kit .within .read trivial trivial
    ((with_reducible refine s_seq ?_); (with_reducible refine s_ifS ?_); (with_reducible refine s_not ?_); (with_reducible refine s_B ?_); (with_reducible refine s_CB ?_); (with_reducible refine s_cons ?_); (with_reducible refine' s_var ?q17 ?q18); (case q17 => exact rfl); (with_reducible refine s_cons ?_); (with_reducible refine t_tup ?_); (with_reducible refine s_cons ?_); (with_reducible refine s_c ?_); (with_reducible refine s_cons ?_); (with_reducible refine s_c ?_); (with_reducible refine s_nil ?_); (with_reducible refine' t_newT ?q19 ?q20); (case q19 => simp only [ List.length , sizeLine_eq ]; omega); intro _ _ _ _ _; (with_reducible refine s_nil ?_))
    rename_i p2 v2 e2 n2 s2
    have ew2 : Ext (One x) w v2 := e1.trans (e2.more fun _ z => z.elim)
    have hx2 := v2.ok _ _ (st_go e2 sxe)
    refine s_isiC2 s2 hx2 ecle.cl ecle.ci kW kR ?_
    rw [show (subK .within .within || subK .within .read) = true from rfl]
    ((with_reducible refine s_bl ?_); (with_reducible refine ite_nt ?_); (with_reducible refine s_next ?_); (with_reducible refine s_seq ?_); (with_reducible refine s_ifS ?_); (with_reducible refine s_and ?_); (with_reducible refine s_B ?_); (with_reducible refine s_CB ?_); (with_reducible refine s_cons ?_); (with_reducible refine' s_var ?q31 ?q32); (case q31 => exact rfl); (with_reducible refine s_cons ?_); (with_reducible refine s_c ?_); (with_reducible refine s_nil ?_))
    refine s_isiCC hx2 ecle.cl ecle.ci kW ?_
    rw [show subK .within .within = true from rfl]
    have lh : (fldS ⟨.within, en, ep, elo, ehi⟩).lookup ("high" : Str) = some (.int ehi) := by (refine' lk_tl ?q67 ?q68; (case q67 => decide +kernel); (case q68 => refine' lk_tl ?q69 ?q70; (case q69 => decide +kernel); (case q70 => exact lk_hd)))
    have ll : (fldS ⟨.within, en, ep, elo, ehi⟩).lookup ("low" : Str) = some (.int elo) := by (refine' lk_tl ?q71 ?q72; (case q71 => decide +kernel); (case q72 => exact lk_hd))
    ((with_reducible refine s_bl ?_); (with_reducible refine ite_tt ?_); (with_reducible refine s_test ?_); (with_reducible refine s_op ?_); (with_reducible refine s_op ?_); (with_reducible refine s_fld ?_); (with_reducible refine' s_var ?q76 ?q77); (case q76 => exact rfl))
    refine s_rfld hx2 ecle.cl ecle.high lh ?_
    ((with_reducible refine s_fld ?_); (with_reducible refine' s_var ?q113 ?q114); (case q113 => exact rfl))
    refine s_rfld hx2 ecle.cl ecle.low ll ?_
    ((with_reducible refine s_sub ?_); (with_reducible refine s_c ?_); (with_reducible refine s_ge ?_); (with_reducible refine s_bl ?_))
    refine ite_d (fun c => ?_) (fun c => absurd hbig (fun z => c z))
    skip
    refine s_raiseX rfl ?_
    ((with_reducible refine s_cons ?_); (with_reducible refine s_op ?_); (with_reducible refine s_op ?_); (with_reducible refine s_fld ?_); (with_reducible refine' s_var ?q153 ?q154); (case q153 => exact rfl))
    refine s_rfld hx2 ecle.cl ecle.high lh ?_
    ((with_reducible refine s_fld ?_); (with_reducible refine' s_var ?q190 ?q191); (case q190 => exact rfl))
    refine s_rfld hx2 ecle.cl ecle.low ll ?_
    ((with_reducible refine s_sub ?_); (with_reducible refine s_c ?_); (with_reducible refine s_add ?_); (with_reducible refine s_nil ?_))
    exact s_raised (W := fun cls d _ H => E cls d H) (σ := []) fun e v ev n o => k3 v e (ew2.step ev fun _ z => z.elim) (ew2.back n) o
  · obtain ⟨e, hS, ok⟩ := hp1
    obtain ⟨_, xe, dxe, rfl, sxe⟩ := id hS
    have ecle := ek.cl _ ok.1.1
    have kW := ek.kit e.k .within ok.1.1 trivial
    have kR := ek.kit e.k .read ok.1.1 trivial
    ((with_reducible refine s_seq ?_); (with_reducible refine s_ifS ?_); (with_reducible refine s_not ?_); (with_reducible refine s_B ?_); (with_reducible refine s_CB ?_); (with_reducible refine s_cons ?_); (with_reducible refine' s_var ?q227 ?q228); (case q227 => exact rfl); (with_reducible refine s_cons ?_); (with_reducible refine t_tup ?_); (with_reducible refine s_cons ?_); (with_reducible refine s_c ?_); (with_reducible refine s_cons ?_); (with_reducible refine s_c ?_); (with_reducible refine s_nil ?_); (with_reducible refine' t_newT ?q229 ?q230); (case q229 => simp only [ List.length , sizeLine_eq ]; omega); intro _ _ _ _ _; (with_reducible refine s_nil ?_))
    rename_i p2 v2 e2 n2 s2
    have sx2 := st_go e2 sxe
    have hx2 := v2.ok _ _ sx2
    have o2 := o1.ext e2 fun z => z
    have ew2 : Ext (One x) w v2 := e1.trans (e2.more fun _ z => z.elim)
    refine s_isiC2 s2 hx2 ecle.cl ecle.ci kW kR ?_
    by_cases hp : placed e.k
    · have hr : e.k = .read := by
        rcases ok.2.1 with z | z | z
        · rw [z] at hp; exact hp.elim
        · rw [z] at hp; exact hp.elim
        · exact z
      rw [show (subK e.k .within || subK e.k .read) = true by rw [hr]; rfl]
      ((with_reducible refine s_bl ?_); (with_reducible refine ite_nt ?_); (with_reducible refine s_next ?_); (with_reducible refine s_seq ?_); (with_reducible refine s_ifS ?_); (with_reducible refine s_and ?_); (with_reducible refine s_B ?_); (with_reducible refine s_CB ?_); (with_reducible refine s_cons ?_); (with_reducible refine' s_var ?q241 ?q242); (case q241 => exact rfl); (with_reducible refine s_cons ?_); (with_reducible refine s_c ?_); (with_reducible refine s_nil ?_))
      refine s_isiCC hx2 ecle.cl ecle.ci kW ?_
      rw [show subK e.k .within = false by rw [hr]; rfl]
      ((with_reducible refine s_bl ?_); (with_reducible refine ite_ff ?_); (with_reducible refine ite_ff ?_); (with_reducible refine s_next ?_); (with_reducible refine s_seq ?_); (with_reducible refine s_sfld ?_); (with_reducible refine' s_var ?q283 ?q284); (case q283 => exact rfl); (with_reducible refine' s_var ?q285 ?q286); (case q285 => exact rfl); (with_reducible refine' s_rsfl ?q287 ?q288 ?q289 ?q290 ?q291 ?q292); (case q287 => assumption); (case q288 => assumption); (case q289 => assumption); (case q290 => simp only [ List.length_cons , List.length_nil ]; omega); (case q291 => refine' pf_tl ?q293 ?q294; (case q293 => decide +kernel); (case q294 => exact pf_nil)); intro _ _ _; (with_reducible refine s_sfld ?_); (with_reducible refine' s_var ?q295 ?q296); (case q295 => exact rfl); (with_reducible refine' s_var ?q297 ?q298); (case q297 => exact rfl); (with_reducible refine' s_rsfl ?q299 ?q300 ?q301 ?q302 ?q303 ?q304); (case q299 => assumption); (case q300 => assumption); (case q301 => assumption); (case q302 => simp only [ List.length_cons , List.length_nil ]; omega); (case q303 => refine' pf_tl ?q305 ?q306; (case q305 => decide +kernel); (case q306 => refine' pf_tl ?q307 ?q308; (case q307 => decide +kernel); (case q308 => exact pf_nil))); intro _ _ _)
      exact k1 hb ho _ _ (by (refine' Ext.step ?q309 ?q310 ?q311; (case q310 => assumption); (case q309 => refine' Ext.step ?q312 ?q313 ?q314; (case q313 => assumption); (case q312 => assumption); (case q314 => refine tch_one ?q315; refine Or.inr ?_; rfl)); (case q311 => refine tch_one ?q316; refine Or.inr ?_; rfl))) (by assumption)
    · have hlh : (fldS e).lookup ("low" : Str) = some (.int e.lo) ∧ (fldS e).lookup ("high" : Str) = some (.int e.hi) := by
        have hk := ok.2.1
        obtain ⟨k, n, p, lo, hi⟩ := e
        rcases hk with rfl | rfl | rfl
        · exact ⟨by (refine' lk_tl ?q317 ?q318; (case q317 => decide +kernel); (case q318 => exact lk_hd)), by (refine' lk_tl ?q319 ?q320; (case q319 => decide +kernel); (case q320 => refine' lk_tl ?q321 ?q322; (case q321 => decide +kernel); (case q322 => exact lk_hd)))⟩
        · exact ⟨by (refine' lk_tl ?q323 ?q324; (case q323 => decide +kernel); (case q324 => exact lk_hd)), by (refine' lk_tl ?q325 ?q326; (case q325 => decide +kernel); (case q326 => refine' lk_tl ?q327 ?q328; (case q327 => decide +kernel); (case q328 => exact lk_hd)))⟩
        · exact absurd trivial hp
      have hsw : subK e.k .within = true := by
        rcases ok.2.1 with z | z | z
        · rw [z]; rfl
        · rw [z]; rfl
        · rw [z] at hp; exact absurd trivial hp
      rw [hsw, Bool.true_or]
      ((with_reducible refine s_bl ?_); (with_reducible refine ite_nt ?_); (with_reducible refine s_next ?_); (with_reducible refine s_seq ?_); (with_reducible refine s_ifS ?_); (with_reducible refine s_and ?_); (with_reducible refine s_B ?_); (with_reducible refine s_CB ?_); (with_reducible refine s_cons ?_); (with_reducible refine' s_var ?q332 ?q333); (case q332 => exact rfl); (with_reducible refine s_cons ?_); (with_reducible refine s_c ?_); (with_reducible refine s_nil ?_))
      refine s_isiCC hx2 ecle.cl ecle.ci kW ?_
      rw [hsw]
      ((with_reducible refine s_bl ?_); (with_reducible refine ite_tt ?_); (with_reducible refine s_test ?_); (with_reducible refine s_op ?_); (with_reducible refine s_op ?_); (with_reducible refine s_fld ?_); (with_reducible refine' s_var ?q371 ?q372); (case q371 => exact rfl))
      refine s_rfld hx2 ecle.cl ecle.high hlh.2 ?_
      ((with_reducible refine s_fld ?_); (with_reducible refine' s_var ?q379 ?q380); (case q379 => exact rfl))
      refine s_rfld hx2 ecle.cl ecle.low hlh.1 ?_
      have hb3 := ok.2.2 hp
      ((with_reducible refine s_sub ?_); (with_reducible refine s_c ?_); (with_reducible refine s_ge ?_); (with_reducible refine s_bl ?_))
      refine ite_d (fun c => absurd c (by omega)) (fun c => ?_)
      ((with_reducible refine s_next ?_); (with_reducible refine s_seq ?_); (with_reducible refine s_sfld ?_); (with_reducible refine' s_var ?q387 ?q388); (case q387 => exact rfl); (with_reducible refine' s_var ?q389 ?q390); (case q389 => exact rfl); (with_reducible refine' s_rsfl ?q391 ?q392 ?q393 ?q394 ?q395 ?q396); (case q391 => assumption); (case q392 => assumption); (case q393 => assumption); (case q394 => simp only [ List.length_cons , List.length_nil ]; omega); (case q395 => refine' pf_tl ?q397 ?q398; (case q397 => decide +kernel); (case q398 => exact pf_nil)); intro _ _ _; (with_reducible refine s_sfld ?_); (with_reducible refine' s_var ?q399 ?q400); (case q399 => exact rfl); (with_reducible refine' s_var ?q401 ?q402); (case q401 => exact rfl); (with_reducible refine' s_rsfl ?q403 ?q404 ?q405 ?q406 ?q407 ?q408); (case q403 => assumption); (case q404 => assumption); (case q405 => assumption); (case q406 => simp only [ List.length_cons , List.length_nil ]; omega); (case q407 => refine' pf_tl ?q409 ?q410; (case q409 => decide +kernel); (case q410 => refine' pf_tl ?q411 ?q412; (case q411 => decide +kernel); (case q412 => exact pf_nil))); intro _ _ _)
      exact k1 hb ho _ _ (by (refine' Ext.step ?q413 ?q414 ?q415; (case q414 => assumption); (case q413 => refine' Ext.step ?q416 ?q417 ?q418; (case q417 => assumption); (case q416 => assumption); (case q418 => refine tch_one ?q419; refine Or.inr ?_; rfl)); (case q415 => refine tch_one ?q420; refine Or.inr ?_; rfl))) (by assumption)
/-- the script -/
def Scr (K : PySem.W.Frag) (w : Wd) (v : V) : Prop := ∃ a, ∃ ns : List Int, v = .ref a ∧ SqL K w.S a (ns.map V.int) ∧ ns.length ≤ 63
theorem Scr.go {K : PySem.W.Frag} {w u : Wd} {v : V} {m : Addr → Prop} (e : Ext m w u) (h : Scr K w v) : Scr K u v := by
  obtain ⟨a, ns, rfl, h1, h2⟩ := h
  exact ⟨a, ns, rfl, sq_go e h1, h2⟩
/-- a state of drawn numbers stands at a -/
def Stt (w : Wd) (a : Addr) : Prop := ∃ l s t : Int, 0 ≤ l ∧ Own w a (.lst [.int l, .int s, .int t])
theorem Stt.go {w u : Wd} {a : Addr} {m : Addr → Prop} (e : Ext m w u) (n : ¬ m a) (h : Stt w a) : Stt u a := by
  obtain ⟨l, s, t, h0, h⟩ := h
  exact ⟨l, s, t, h0, h.ext e n⟩
theorem stt_new {w : Wd} {p l : Addr} (n : w.H l = none) (h : Stt w p) : l ≠ p := by
  obtain ⟨_, _, _, _, o⟩ := h
  exact o.ne' n
theorem stt_new' {w : Wd} {p l : Addr} (n : w.H l = none) (h : Stt w p) : p ≠ l := (stt_new n h).symm
theorem Stt.none {w : Wd} {p : Addr} (h : Stt w p) : w.S p = none := by
  obtain ⟨_, _, _, _, o⟩ := h
  exact o.s
local macro_rules | `(tactic| wtm_at "stt") => `(tactic| first
  | assumption
  | (refine' Stt.go (by assumption) ?nm ?pu; (case nm => wtm_at "nm"); (case pu => wtm_at "stt"))
  | fail "stt")
local macro_rules | `(tactic| wtm_at "scr") => `(tactic| first
  | assumption
  | (refine' Scr.go (by assumption) ?s; (case s => wtm_at "scr"))
  | fail "scr")
local macro_rules | `(tactic| wtm_at "ne") => `(tactic| first
  | (refine' stt_new ?n ?pu; (case n => assumption); (case pu => wtm_at "stt"))
  | (refine' stt_new' ?n ?pu; (case n => assumption); (case pu => wtm_at "stt"))
  | fail "ne")
abbrev nm_l_cell : List Str := ["_law_script", "_law_k"]
theorem sc_l_cell : FnScope nm_l_cell ["_law_script", "_law_k"] (defScope s_l_cell) := ⟨rfl, rfl, rfl, by decide +kernel, rfl, by decide +kernel, by decide +kernel⟩
theorem st_l_cell (a b : V) : start nm_l_cell [a, b] = [some a, some b] := rfl
def p_l_cell (K : PySem.W.Frag) (w : Wd) (a b : V) (Q : VK) (_ : XK) : Prop := ∃ k : Int, Scr K w a ∧ b = .int k ∧ 0 ≤ k ∧ ∀ v z, Ext Non w v → Q (.int z) v.H
theorem ok_l_cell {f : Addr} {fd : FuncData} {C_Entry C_Within C_At C_Between C_Read C_Joint C_Sifted C_LogError C_NoBond C_NoEntry C_NoMinutes C_NoMoment C_NoName C_NoPlace C_NoReading C_Taken C_TooMany : Addr} (F : Fun K "_law_cell" "_law_cell" s_l_cell f fd) (T : Txt K mg C_Entry C_Within C_At C_Between C_Read C_Joint C_Sifted C_LogError C_NoBond C_NoEntry C_NoMinutes C_NoMoment C_NoName C_NoPlace C_NoReading C_Taken C_TooMany)  : FnOk P ww K mg base CX0 1 f fd ["_law_script", "_law_k"] (pr2 (p_l_cell K)) := by
  refine F.ok sc_l_cell (fun vs H Q E h => len2 h) (fun cdv A outer s H vs Q E hr h => ?_)
  obtain ⟨w, x0, x1,  rfl, rfl, h⟩ := h
  have ekT := ek_T (P := P) (ww := ww) (base := base) T
  have oex_NoBond := T.oex_NoBond; have xf_NoBond := T.xf_NoBond; have ec_NoBond := T.ec_NoBond; have xn_NoBond := T.xn_NoBond
  have oex_NoEntry := T.oex_NoEntry; have xf_NoEntry := T.xf_NoEntry; have ec_NoEntry := T.ec_NoEntry; have xn_NoEntry := T.xn_NoEntry
  have oex_NoMinutes := T.oex_NoMinutes; have xf_NoMinutes := T.xf_NoMinutes; have ec_NoMinutes := T.ec_NoMinutes; have xn_NoMinutes := T.xn_NoMinutes
  have oex_NoMoment := T.oex_NoMoment; have xf_NoMoment := T.xf_NoMoment; have ec_NoMoment := T.ec_NoMoment; have xn_NoMoment := T.xn_NoMoment
  have oex_NoName := T.oex_NoName; have xf_NoName := T.xf_NoName; have ec_NoName := T.ec_NoName; have xn_NoName := T.xn_NoName
  have oex_NoPlace := T.oex_NoPlace; have xf_NoPlace := T.xf_NoPlace; have ec_NoPlace := T.ec_NoPlace; have xn_NoPlace := T.xn_NoPlace
  have oex_NoReading := T.oex_NoReading; have xf_NoReading := T.xf_NoReading; have ec_NoReading := T.ec_NoReading; have xn_NoReading := T.xn_NoReading
  have oex_Taken := T.oex_Taken; have xf_Taken := T.xf_Taken; have ec_Taken := T.ec_Taken; have xn_Taken := T.xn_Taken
  have oex_TooMany := T.oex_TooMany; have xf_TooMany := T.xf_TooMany; have ec_TooMany := T.ec_TooMany; have xn_TooMany := T.xn_TooMany
  refine ⟨_, (pss_cons (ps_if (pt_cmpR g_lt (pv 1) (pe_callB (kLen K) (by rfl) T.n_len (by decide +kernel) (pa_cons (pv 0) pa_nil)) (nomark _)) (pss_one (ps_ret (pe_ix (kIx K) (pv 0) (pv 1) (fun _ _ => rfl)))) pss_nil)
      (pss_one (ps_ret (pe_op (kAdd K) (pe_op (kMul K) pe_int (pv 1)) pe_int)))), ?_⟩
  rw [st_l_cell]
  obtain ⟨k, ⟨a, ns, rfl, hs, hl⟩, rfl, h0, q⟩ := h
  have hs' : SqL K w.H a (ns.map V.int) := w.ok.seq hs
  ((with_reducible refine s_seq ?_); (with_reducible refine s_ifS ?_); (with_reducible refine s_test ?_); (with_reducible refine s_op ?_); (with_reducible refine' s_var ?q0 ?q1); (case q0 => exact rfl); (with_reducible refine s_CB ?_); (with_reducible refine s_cons ?_); (with_reducible refine' s_var ?q2 ?q3); (case q2 => exact rfl); (with_reducible refine s_nil ?_))
  refine s_lenK hs' ?_
  ((with_reducible refine s_lt ?_); (with_reducible refine s_bl ?_))
  refine ite_d (fun hb => ?_) (fun hb => ?_)
  · ((with_reducible refine s_ret ?_); (with_reducible refine s_op ?_); (with_reducible refine' s_var ?q12 ?q13); (case q12 => exact rfl); (with_reducible refine' s_var ?q14 ?q15); (case q14 => exact rfl))
    rw [List.length_map] at hb
    refine ⟨_, .int ns[k.toNat], .inl hs', ?_, ?_⟩
    · rw [atI_nn h0 (by rw [List.length_map]; omega), List.getElem?_map, List.getElem?_eq_getElem (by omega)]
      rfl
    · exact q w _ (Ext.refl _ _)
  · ((with_reducible refine s_next ?_); (with_reducible refine s_ret ?_); (with_reducible refine s_op ?_); (with_reducible refine s_op ?_); (with_reducible refine s_c ?_); (with_reducible refine' s_var ?q31 ?q32); (case q31 => exact rfl); (with_reducible refine s_mul ?q33 ?q34); (case q33 => exact .inl ( .inl ⟨ by decide , by decide ⟩ )); (with_reducible refine s_c ?_); (with_reducible refine s_add ?_))
    exact q w _ (Ext.refl _ _)
abbrev nm_l_mix : List Str := ["_law_cell_here", "_law_k", "_law_number"]
theorem sc_l_mix : FnScope nm_l_mix ["_law_cell_here", "_law_k"] (defScope s_l_mix) := ⟨rfl, rfl, rfl, by decide +kernel, rfl, by decide +kernel, by decide +kernel⟩
theorem st_l_mix (a b : V) : start nm_l_mix [a, b] = [some a, some b, none] := rfl
def p_l_mix (w : Wd) (a b : V) (Q : VK) (_ : XK) : Prop := ∃ z k : Int, a = .int z ∧ b = .int k ∧ ∀ v r, Ext Non w v → 0 ≤ r → r < 2 ^ 29 → Q (.int r) v.H
theorem ok_l_mix {f : Addr} {fd : FuncData} {C_Entry C_Within C_At C_Between C_Read C_Joint C_Sifted C_LogError C_NoBond C_NoEntry C_NoMinutes C_NoMoment C_NoName C_NoPlace C_NoReading C_Taken C_TooMany : Addr} (F : Fun K "_law_mix" "_law_mix" s_l_mix f fd) (T : Txt K mg C_Entry C_Within C_At C_Between C_Read C_Joint C_Sifted C_LogError C_NoBond C_NoEntry C_NoMinutes C_NoMoment C_NoName C_NoPlace C_NoReading C_Taken C_TooMany)  : FnOk P ww K mg base CX0 1 f fd ["_law_cell_here", "_law_k"] (pr2 (p_l_mix)) := by
  refine F.ok sc_l_mix (fun vs H Q E h => len2 h) (fun cdv A outer s H vs Q E hr h => ?_)
  obtain ⟨w, x0, x1,  rfl, rfl, h⟩ := h
  have ekT := ek_T (P := P) (ww := ww) (base := base) T
  have oex_NoBond := T.oex_NoBond; have xf_NoBond := T.xf_NoBond; have ec_NoBond := T.ec_NoBond; have xn_NoBond := T.xn_NoBond
  have oex_NoEntry := T.oex_NoEntry; have xf_NoEntry := T.xf_NoEntry; have ec_NoEntry := T.ec_NoEntry; have xn_NoEntry := T.xn_NoEntry
  have oex_NoMinutes := T.oex_NoMinutes; have xf_NoMinutes := T.xf_NoMinutes; have ec_NoMinutes := T.ec_NoMinutes; have xn_NoMinutes := T.xn_NoMinutes
  have oex_NoMoment := T.oex_NoMoment; have xf_NoMoment := T.xf_NoMoment; have ec_NoMoment := T.ec_NoMoment; have xn_NoMoment := T.xn_NoMoment
  have oex_NoName := T.oex_NoName; have xf_NoName := T.xf_NoName; have ec_NoName := T.ec_NoName; have xn_NoName := T.xn_NoName
  have oex_NoPlace := T.oex_NoPlace; have xf_NoPlace := T.xf_NoPlace; have ec_NoPlace := T.ec_NoPlace; have xn_NoPlace := T.xn_NoPlace
  have oex_NoReading := T.oex_NoReading; have xf_NoReading := T.xf_NoReading; have ec_NoReading := T.ec_NoReading; have xn_NoReading := T.xn_NoReading
  have oex_Taken := T.oex_Taken; have xf_Taken := T.xf_Taken; have ec_Taken := T.ec_Taken; have xn_Taken := T.xn_Taken
  have oex_TooMany := T.oex_TooMany; have xf_TooMany := T.xf_TooMany; have ec_TooMany := T.ec_TooMany; have xn_TooMany := T.xn_TooMany
  refine ⟨_, (pss_cons (ps_set (i := 2) sc_l_mix.nd rfl (Or.inl rfl) (pe_op g_mod (pe_op (kAdd K) (pe_op (kAdd K) (pv 0) (pe_op (kMul K) pe_int (pv 1))) pe_int) pe_int))
      (pss_cons (ps_set (i := 2) sc_l_mix.nd rfl (Or.inl rfl) (pe_op g_mod (pe_op (kMul K) (pe_op g_mod (pe_op (kMul K) (pv 2) (pv 2)) pe_int) pe_int) pe_int))
      (pss_one (ps_ret (pe_op g_div (pe_op g_mod (pe_op (kMul K) (pv 2) (pe_op (kAdd K) (pv 2) pe_int)) pe_int) pe_int))))), ?_⟩
  rw [st_l_mix]
  obtain ⟨z, k, rfl, rfl, q⟩ := h
  ((with_reducible refine s_seq ?_); (with_reducible refine s_asg ?_); (with_reducible refine s_op ?_); (with_reducible refine s_op ?_); (with_reducible refine s_op ?_); (with_reducible refine' s_var ?q35 ?q36); (case q35 => exact rfl); (with_reducible refine s_op ?_); (with_reducible refine s_c ?_); (with_reducible refine' s_var ?q37 ?q38); (case q37 => exact rfl); (with_reducible refine s_mul ?q39 ?q40); (case q39 => exact .inl ( .inl ⟨ by decide , by decide ⟩ )); (with_reducible refine s_add ?_); (with_reducible refine s_c ?_); (with_reducible refine s_add ?_); (with_reducible refine s_c ?_); (with_reducible refine s_mod ?q41 ?q42); (case q41 => omega); (with_reducible refine' s_gname ?q43 ?q44); (case q43 => simp only [ List.set_cons_succ , List.set_cons_zero ]; exact rfl); (with_reducible refine s_seq ?_); (with_reducible refine s_asg ?_); (with_reducible refine s_op ?_); (with_reducible refine s_op ?_); (with_reducible refine s_op ?_); (with_reducible refine s_op ?_); (with_reducible refine' s_var ?q45 ?q46); (case q45 => exact rfl); (with_reducible refine' s_var ?q47 ?q48); (case q47 => exact rfl); (with_reducible refine s_mul ?q49 ?q50); (case q49 => exact .inl ( .inl ⟨ by omega , by omega ⟩ )); (with_reducible refine s_c ?_); (with_reducible refine s_mod ?q51 ?q52); (case q51 => omega); (with_reducible refine s_c ?_); (with_reducible refine s_mul ?q53 ?q54); (case q53 => exact .inl ( .inr ⟨ by decide , by decide ⟩ )); (with_reducible refine s_c ?_); (with_reducible refine s_mod ?q55 ?q56); (case q55 => omega); (with_reducible refine' s_gname ?q57 ?q58); (case q57 => simp only [ List.set_cons_succ , List.set_cons_zero ]; exact rfl); (with_reducible refine s_ret ?_); (with_reducible refine s_op ?_); (with_reducible refine s_op ?_); (with_reducible refine s_op ?_); (with_reducible refine' s_var ?q59 ?q60); (case q59 => exact rfl); (with_reducible refine s_op ?_); (with_reducible refine' s_var ?q61 ?q62); (case q61 => exact rfl); (with_reducible refine s_c ?_); (with_reducible refine s_add ?_); (with_reducible refine s_mul ?q63 ?q64); (case q63 => exact .inl ( .inl ⟨ by omega , by omega ⟩ )); (with_reducible refine s_c ?_); (with_reducible refine s_mod ?q65 ?q66); (case q65 => omega); (with_reducible refine s_c ?_); (with_reducible refine s_div ?q67 ?q68); (case q67 => exact ⟨ by decide , by decide ⟩))
  exact q w _ (Ext.refl _ _) (by omega) (by omega)
abbrev nm_l_begun : List Str := ["_law_cell_here"]
theorem sc_l_begun : FnScope nm_l_begun ["_law_cell_here"] (defScope s_l_begun) := ⟨rfl, rfl, rfl, by decide +kernel, rfl, by decide +kernel, by decide +kernel⟩
theorem st_l_begun (a : V) : start nm_l_begun [a] = [some a] := rfl
def p_l_begun (w : Wd) (a : V) (Q : VK) (_ : XK) : Prop := ∃ z : Int, a = .int z ∧ ∀ v p, Ext Non w v → w.H p = none → Stt v p → Q (.ref p) v.H
theorem ok_l_begun {f : Addr} {fd : FuncData} {C_Entry C_Within C_At C_Between C_Read C_Joint C_Sifted C_LogError C_NoBond C_NoEntry C_NoMinutes C_NoMoment C_NoName C_NoPlace C_NoReading C_Taken C_TooMany : Addr} (F : Fun K "_law_begun" "_law_begun" s_l_begun f fd) (T : Txt K mg C_Entry C_Within C_At C_Between C_Read C_Joint C_Sifted C_LogError C_NoBond C_NoEntry C_NoMinutes C_NoMoment C_NoName C_NoPlace C_NoReading C_Taken C_TooMany)  : FnOk P ww K mg base CX0 1 f fd ["_law_cell_here"] (pr1 (p_l_begun)) := by
  refine F.ok sc_l_begun (fun vs H Q E h => len1 h) (fun cdv A outer s H vs Q E hr h => ?_)
  obtain ⟨w, x0,  rfl, rfl, h⟩ := h
  have ekT := ek_T (P := P) (ww := ww) (base := base) T
  have oex_NoBond := T.oex_NoBond; have xf_NoBond := T.xf_NoBond; have ec_NoBond := T.ec_NoBond; have xn_NoBond := T.xn_NoBond
  have oex_NoEntry := T.oex_NoEntry; have xf_NoEntry := T.xf_NoEntry; have ec_NoEntry := T.ec_NoEntry; have xn_NoEntry := T.xn_NoEntry
  have oex_NoMinutes := T.oex_NoMinutes; have xf_NoMinutes := T.xf_NoMinutes; have ec_NoMinutes := T.ec_NoMinutes; have xn_NoMinutes := T.xn_NoMinutes
  have oex_NoMoment := T.oex_NoMoment; have xf_NoMoment := T.xf_NoMoment; have ec_NoMoment := T.ec_NoMoment; have xn_NoMoment := T.xn_NoMoment
  have oex_NoName := T.oex_NoName; have xf_NoName := T.xf_NoName; have ec_NoName := T.ec_NoName; have xn_NoName := T.xn_NoName
  have oex_NoPlace := T.oex_NoPlace; have xf_NoPlace := T.xf_NoPlace; have ec_NoPlace := T.ec_NoPlace; have xn_NoPlace := T.xn_NoPlace
  have oex_NoReading := T.oex_NoReading; have xf_NoReading := T.xf_NoReading; have ec_NoReading := T.ec_NoReading; have xn_NoReading := T.xn_NoReading
  have oex_Taken := T.oex_Taken; have xf_Taken := T.xf_Taken; have ec_Taken := T.ec_Taken; have xn_Taken := T.xn_Taken
  have oex_TooMany := T.oex_TooMany; have xf_TooMany := T.xf_TooMany; have ec_TooMany := T.ec_TooMany; have xn_TooMany := T.xn_TooMany
  refine ⟨_, (pss_one (ps_ret (pe_lst (pa_cons (pe_callB (kMax K rfl) (by rfl) T.n_max (by decide +kernel) (pa_cons pe_int (pa_cons (pe_op g_sub (pv 0) (pe_op g_pow pe_int pe_int)) pa_nil))) (pa_cons (pe_op g_mod (pv 0) pe_int) (pa_cons pe_int pa_nil)))))), ?_⟩
  rw [st_l_begun]
  obtain ⟨z, rfl, q⟩ := h
  ((with_reducible refine s_ret ?_); (with_reducible refine t_lst ?_); (with_reducible refine s_cons ?_); (with_reducible refine s_CB ?_); (with_reducible refine s_cons ?_); (with_reducible refine s_c ?_); (with_reducible refine s_cons ?_); (with_reducible refine s_op ?_); (with_reducible refine' s_var ?q69 ?q70); (case q69 => exact rfl); (with_reducible refine s_op ?_); (with_reducible refine s_c ?_); (with_reducible refine s_c ?_); (with_reducible refine' s_powN ?q71 ?q72 ?q73); (case q71 => exact ⟨ by decide , by decide , by decide ⟩); (case q72 => exact p10_18); (with_reducible refine s_sub ?_); (with_reducible refine s_nil ?_); (with_reducible refine s_max ?_); (with_reducible refine s_cons ?_); (with_reducible refine s_op ?_); (with_reducible refine' s_var ?q74 ?q75); (case q74 => exact rfl); (with_reducible refine s_c ?_); (with_reducible refine s_mod ?q76 ?q77); (case q76 => omega); (with_reducible refine s_cons ?_); (with_reducible refine s_c ?_); (with_reducible refine s_nil ?_); (with_reducible refine' t_newL ?q78 ?q79); (case q78 => simp only [ List.length , sizeLine_eq ]; omega); intro _ _ _ _ _)
  rename_i p v e n o
  exact q v p e n ⟨_, _, _, (show (0 : Int) ≤ max 0 (z - 1000000000000000000) by omega), o⟩
abbrev nm_l_pull : List Str := ["_law_state", "_law_many", "_law_digit", "_law_high", "_law_low"]
theorem sc_l_pull : FnScope nm_l_pull ["_law_state", "_law_many"] (defScope s_l_pull) := ⟨rfl, rfl, rfl, by decide +kernel, rfl, by decide +kernel, by decide +kernel⟩
theorem st_l_pull (a b : V) : start nm_l_pull [a, b] = [some a, some b, none, none, none] := rfl
def p_l_pull (w : Wd) (a b : V) (Q : VK) (_ : XK) : Prop := ∃ p, ∃ m : Int, a = .ref p ∧ b = .int m ∧ Stt w p ∧ 0 < m ∧ m < 2 ^ 200 ∧ ∀ v d, Ext (One p) w v → Stt v p → 0 ≤ d → d < m → Q (.int d) v.H
theorem ok_l_pull {f : Addr} {fd : FuncData} {C_Entry C_Within C_At C_Between C_Read C_Joint C_Sifted C_LogError C_NoBond C_NoEntry C_NoMinutes C_NoMoment C_NoName C_NoPlace C_NoReading C_Taken C_TooMany : Addr} (F : Fun K "_law_pull" "_law_pull" s_l_pull f fd) (T : Txt K mg C_Entry C_Within C_At C_Between C_Read C_Joint C_Sifted C_LogError C_NoBond C_NoEntry C_NoMinutes C_NoMoment C_NoName C_NoPlace C_NoReading C_Taken C_TooMany) (c_l_mix : Fnc P ww K mg base CX0 1 "_law_mix" (pr2 (p_l_mix))) : FnOk P ww K mg base CX0 2 f fd ["_law_state", "_law_many"] (pr2 (p_l_pull)) := by
  refine F.ok sc_l_pull (fun vs H Q E h => len2 h) (fun cdv A outer s H vs Q E hr h => ?_)
  obtain ⟨w, x0, x1,  rfl, rfl, h⟩ := h
  have ekT := ek_T (P := P) (ww := ww) (base := base) T
  have oex_NoBond := T.oex_NoBond; have xf_NoBond := T.xf_NoBond; have ec_NoBond := T.ec_NoBond; have xn_NoBond := T.xn_NoBond
  have oex_NoEntry := T.oex_NoEntry; have xf_NoEntry := T.xf_NoEntry; have ec_NoEntry := T.ec_NoEntry; have xn_NoEntry := T.xn_NoEntry
  have oex_NoMinutes := T.oex_NoMinutes; have xf_NoMinutes := T.xf_NoMinutes; have ec_NoMinutes := T.ec_NoMinutes; have xn_NoMinutes := T.xn_NoMinutes
  have oex_NoMoment := T.oex_NoMoment; have xf_NoMoment := T.xf_NoMoment; have ec_NoMoment := T.ec_NoMoment; have xn_NoMoment := T.xn_NoMoment
  have oex_NoName := T.oex_NoName; have xf_NoName := T.xf_NoName; have ec_NoName := T.ec_NoName; have xn_NoName := T.xn_NoName
  have oex_NoPlace := T.oex_NoPlace; have xf_NoPlace := T.xf_NoPlace; have ec_NoPlace := T.ec_NoPlace; have xn_NoPlace := T.xn_NoPlace
  have oex_NoReading := T.oex_NoReading; have xf_NoReading := T.xf_NoReading; have ec_NoReading := T.ec_NoReading; have xn_NoReading := T.xn_NoReading
  have oex_Taken := T.oex_Taken; have xf_Taken := T.xf_Taken; have ec_Taken := T.ec_Taken; have xn_Taken := T.xn_Taken
  have oex_TooMany := T.oex_TooMany; have xf_TooMany := T.xf_TooMany; have ec_TooMany := T.ec_TooMany; have xn_TooMany := T.xn_TooMany
  refine ⟨_, (pss_cons (ps_if (pt_cmpR g_gt (pe_ix (kIx K) (pv 0) pe_int (fun _ _ => rfl)) pe_int (nomark _)) (pss_cons (ps_set (i := 2) sc_l_pull.nd rfl (Or.inl rfl) (pe_op g_mod (pe_ix (kIx K) (pv 0) pe_int (fun _ _ => rfl)) (pv 1)))
      (pss_cons (ps_asg (pe_op g_div (pe_ix (kIx K) (pv 0) pe_int (fun _ _ => rfl)) (pv 1)) (pg_sub (pv 0) pe_int set_list))
      (pss_one (ps_ret (pv 2))))) pss_nil)
      (pss_cons (ps_asg (pe_op (kAdd K) (pe_ix (kIx K) (pv 0) pe_int (fun _ _ => rfl)) pe_int) (pg_sub (pv 0) pe_int set_list))
      (pss_cons (ps_set (i := 3) sc_l_pull.nd rfl (Or.inl rfl) (pe_fn c_l_mix hr (by decide) pass0 (pa_cons (pe_ix (kIx K) (pv 0) pe_int (fun _ _ => rfl)) (pa_cons (pe_op (kMul K) pe_int (pe_ix (kIx K) (pv 0) pe_int (fun _ _ => rfl))) pa_nil))))
      (pss_cons (ps_set (i := 4) sc_l_pull.nd rfl (Or.inl rfl) (pe_fn c_l_mix hr (by decide) pass0 (pa_cons (pe_ix (kIx K) (pv 0) pe_int (fun _ _ => rfl)) (pa_cons (pe_op (kAdd K) (pe_op (kMul K) pe_int (pe_ix (kIx K) (pv 0) pe_int (fun _ _ => rfl))) pe_int) pa_nil))))
      (pss_one (ps_ret (pe_op g_mod (pe_op (kAdd K) (pe_op (kMul K) (pv 3) pe_int) (pv 4)) (pv 1)))))))), ?_⟩
  rw [st_l_pull]
  obtain ⟨p, m, rfl, rfl, ⟨l, s, t, hl, o⟩, h1, h2, q⟩ := h
  ((with_reducible refine s_seq ?_); (with_reducible refine s_ifS ?_); (with_reducible refine s_test ?_); (with_reducible refine s_op ?_); (with_reducible refine s_op ?_); (with_reducible refine' s_var ?q80 ?q81); (case q80 => exact rfl); (with_reducible refine s_c ?_); (with_reducible refine' s_ixO ?q88 ?q89 ?q90); (case q88 => assumption); (case q89 => exact rfl); (with_reducible refine s_c ?_); (with_reducible refine s_gt ?_); (with_reducible refine s_bl ?_))
  refine ite_d (fun hb => ?_) (fun hb => ?_)
  · ((with_reducible refine s_seq ?_); (with_reducible refine s_asg ?_); (with_reducible refine s_op ?_); (with_reducible refine s_op ?_); (with_reducible refine' s_var ?q91 ?q92); (case q91 => exact rfl); (with_reducible refine s_c ?_); (with_reducible refine' s_ixO ?q99 ?q100 ?q101); (case q99 => assumption); (case q100 => exact rfl); (with_reducible refine' s_var ?q102 ?q103); (case q102 => exact rfl); (with_reducible refine s_mod ?q104 ?q105); (case q104 => assumption); (with_reducible refine' s_gname ?q106 ?q107); (case q106 => simp only [ List.set_cons_succ , List.set_cons_zero ]; exact rfl); (with_reducible refine s_seq ?_); (with_reducible refine s_asg ?_); (with_reducible refine s_op ?_); (with_reducible refine s_op ?_); (with_reducible refine' s_var ?q108 ?q109); (case q108 => exact rfl); (with_reducible refine s_c ?_); (with_reducible refine' s_ixO ?q116 ?q117 ?q118); (case q116 => assumption); (case q117 => exact rfl); (with_reducible refine' s_var ?q119 ?q120); (case q119 => exact rfl); (with_reducible refine s_div ?q121 ?q122); (case q121 => exact divW ( by omega ) ( by omega )); (with_reducible refine s_gsub ?_); (with_reducible refine' s_var ?q123 ?q124); (case q123 => exact rfl); (with_reducible refine s_c ?_); (with_reducible refine' s_setL ?q125 ?q126 ?q127); (case q125 => assumption); (case q126 => exact rfl); intro _ _ _; (with_reducible refine s_ret ?_); (with_reducible refine' s_var ?q128 ?q129); (case q128 => exact rfl))
    refine q _ _ (by (assumption)) ⟨_, _, _, ?_, by (assumption)⟩ (Int.emod_nonneg _ (by omega)) (Int.emod_lt_of_pos _ h1)
    exact Int.ediv_nonneg hl (by omega)
  · ((with_reducible refine s_next ?_); (with_reducible refine s_seq ?_); (with_reducible refine s_asg ?_); (with_reducible refine s_op ?_); (with_reducible refine s_op ?_); (with_reducible refine' s_var ?q130 ?q131); (case q130 => exact rfl); (with_reducible refine s_c ?_); (with_reducible refine' s_ixO ?q138 ?q139 ?q140); (case q138 => assumption); (case q139 => exact rfl); (with_reducible refine s_c ?_); (with_reducible refine s_add ?_); (with_reducible refine s_gsub ?_); (with_reducible refine' s_var ?q141 ?q142); (case q141 => exact rfl); (with_reducible refine s_c ?_); (with_reducible refine' s_setL ?q143 ?q144 ?q145); (case q143 => assumption); (case q144 => exact rfl); intro _ _ _; (with_reducible refine s_seq ?_); (with_reducible refine s_asg ?_); (with_reducible refine s_call ?_); (with_reducible refine s_cons ?_); (with_reducible refine s_op ?_); (with_reducible refine' s_var ?q146 ?q147); (case q146 => exact rfl); (with_reducible refine s_c ?_); (with_reducible refine' s_ixO ?q156 ?q157 ?q158); (case q156 => assumption); (case q157 => exact rfl); (with_reducible refine s_cons ?_); (with_reducible refine s_op ?_); (with_reducible refine s_c ?_); (with_reducible refine s_op ?_); (with_reducible refine' s_var ?q159 ?q160); (case q159 => exact rfl); (with_reducible refine s_c ?_); (with_reducible refine' s_ixO ?q169 ?q170 ?q171); (case q169 => assumption); (case q170 => exact rfl); (with_reducible refine s_mul ?q172 ?q173); (case q172 => exact .inl ( .inl ⟨ by decide , by decide ⟩ )); (with_reducible refine s_nil ?_); (with_reducible refine s_pr2 ?_))
    refine ⟨_, _, rfl, rfl, fun v1 r1 e1 a1 b1 => ?_⟩
    ((with_reducible refine' s_gname ?q174 ?q175); (case q174 => simp only [ List.set_cons_succ , List.set_cons_zero ]; exact rfl); (with_reducible refine s_seq ?_); (with_reducible refine s_asg ?_); (with_reducible refine s_call ?_); (with_reducible refine s_cons ?_); (with_reducible refine s_op ?_); (with_reducible refine' s_var ?q176 ?q177); (case q176 => exact rfl); (with_reducible refine s_c ?_); (with_reducible refine' s_ixO ?q188 ?q189 ?q190); (case q188 => refine' Own.ext ( by assumption ) ?q191 ?q192; (case q191 => exact fun h => h); (case q192 => assumption)); (case q189 => exact rfl); (with_reducible refine s_cons ?_); (with_reducible refine s_op ?_); (with_reducible refine s_op ?_); (with_reducible refine s_c ?_); (with_reducible refine s_op ?_); (with_reducible refine' s_var ?q193 ?q194); (case q193 => exact rfl); (with_reducible refine s_c ?_); (with_reducible refine' s_ixO ?q205 ?q206 ?q207); (case q205 => refine' Own.ext ( by assumption ) ?q208 ?q209; (case q208 => exact fun h => h); (case q209 => assumption)); (case q206 => exact rfl); (with_reducible refine s_mul ?q210 ?q211); (case q210 => exact .inl ( .inl ⟨ by decide , by decide ⟩ )); (with_reducible refine s_c ?_); (with_reducible refine s_add ?_); (with_reducible refine s_nil ?_); (with_reducible refine s_pr2 ?_))
    refine ⟨_, _, rfl, rfl, fun v2 r2 e2 a2 b2 => ?_⟩
    ((with_reducible refine' s_gname ?q212 ?q213); (case q212 => simp only [ List.set_cons_succ , List.set_cons_zero ]; exact rfl); (with_reducible refine s_ret ?_); (with_reducible refine s_op ?_); (with_reducible refine s_op ?_); (with_reducible refine s_op ?_); (with_reducible refine' s_var ?q214 ?q215); (case q214 => exact rfl); (with_reducible refine s_c ?_); (with_reducible refine s_mul ?q216 ?q217); (case q216 => exact .inl ( .inr ⟨ by decide , by decide ⟩ )); (with_reducible refine' s_var ?q218 ?q219); (case q218 => exact rfl); (with_reducible refine s_add ?_); (with_reducible refine' s_var ?q220 ?q221); (case q220 => exact rfl); (with_reducible refine s_mod ?q222 ?q223); (case q222 => assumption))
    exact q _ _ (by (refine' Ext.step ?q224 ?q225 ?q226; (case q225 => assumption); (case q224 => refine' Ext.step ?q227 ?q228 ?q229; (case q228 => assumption); (case q227 => assumption); (case q229 => exact fun _ z => z.elim)); (case q226 => exact fun _ z => z.elim))) ⟨_, _, _, hl, by (refine' Own.ext ( by assumption ) ?q230 ?q231; (case q230 => exact fun h => h); (case q231 => refine' Own.ext ( by assumption ) ?q232 ?q233; (case q232 => exact fun h => h); (case q233 => assumption)))⟩ (Int.emod_nonneg _ (by omega)) (Int.emod_lt_of_pos _ h1)
theorem pull_s {w : Wd} {p : Addr} {m : Int} {Q : VK} {E : XK} (pu : Stt w p) (a : 0 < m) (b : m < 2 ^ 200) (k : ∀ v d, Ext (One p) w v → Stt v p → 0 ≤ d → d < m → Q (.int d) v.H) : p_l_pull w (.ref p) (.int m) Q E := ⟨p, m, rfl, rfl, pu, a, b, k⟩
local macro_rules | `(tactic| wtm_at "go1") => `(tactic|
  (with_reducible refine' pull_s ?pu ?a ?b ?k; (case pu => wtm_at "stt"); (case a => first | decide | omega); (case b => first | decide | omega); (intro _v _d _e _pu _h0 _h1)))
abbrev nm_l_keeps : List Str := ["_law_moment"]
theorem sc_l_keeps : FnScope nm_l_keeps ["_law_moment"] (defScope s_l_keeps) := ⟨rfl, rfl, rfl, by decide +kernel, rfl, by decide +kernel, by decide +kernel⟩
theorem st_l_keeps (a : V) : start nm_l_keeps [a] = [some a] := rfl
def p_l_keeps (w : Wd) (a : V) (Q : VK) (_ : XK) : Prop := ∀ v, Ext Non w v → Q (.bl true) v.H
theorem ok_l_keeps {f : Addr} {fd : FuncData} {C_Entry C_Within C_At C_Between C_Read C_Joint C_Sifted C_LogError C_NoBond C_NoEntry C_NoMinutes C_NoMoment C_NoName C_NoPlace C_NoReading C_Taken C_TooMany : Addr} (F : Fun K "_law_keeps" "_law_keeps" s_l_keeps f fd) (T : Txt K mg C_Entry C_Within C_At C_Between C_Read C_Joint C_Sifted C_LogError C_NoBond C_NoEntry C_NoMinutes C_NoMoment C_NoName C_NoPlace C_NoReading C_Taken C_TooMany)  : FnOk P ww K mg base CX0 1 f fd ["_law_moment"] (pr1 (p_l_keeps)) := by
  refine F.ok sc_l_keeps (fun vs H Q E h => len1 h) (fun cdv A outer s H vs Q E hr h => ?_)
  obtain ⟨w, x0,  rfl, rfl, h⟩ := h
  have ekT := ek_T (P := P) (ww := ww) (base := base) T
  have oex_NoBond := T.oex_NoBond; have xf_NoBond := T.xf_NoBond; have ec_NoBond := T.ec_NoBond; have xn_NoBond := T.xn_NoBond
  have oex_NoEntry := T.oex_NoEntry; have xf_NoEntry := T.xf_NoEntry; have ec_NoEntry := T.ec_NoEntry; have xn_NoEntry := T.xn_NoEntry
  have oex_NoMinutes := T.oex_NoMinutes; have xf_NoMinutes := T.xf_NoMinutes; have ec_NoMinutes := T.ec_NoMinutes; have xn_NoMinutes := T.xn_NoMinutes
  have oex_NoMoment := T.oex_NoMoment; have xf_NoMoment := T.xf_NoMoment; have ec_NoMoment := T.ec_NoMoment; have xn_NoMoment := T.xn_NoMoment
  have oex_NoName := T.oex_NoName; have xf_NoName := T.xf_NoName; have ec_NoName := T.ec_NoName; have xn_NoName := T.xn_NoName
  have oex_NoPlace := T.oex_NoPlace; have xf_NoPlace := T.xf_NoPlace; have ec_NoPlace := T.ec_NoPlace; have xn_NoPlace := T.xn_NoPlace
  have oex_NoReading := T.oex_NoReading; have xf_NoReading := T.xf_NoReading; have ec_NoReading := T.ec_NoReading; have xn_NoReading := T.xn_NoReading
  have oex_Taken := T.oex_Taken; have xf_Taken := T.xf_Taken; have ec_Taken := T.ec_Taken; have xn_Taken := T.xn_Taken
  have oex_TooMany := T.oex_TooMany; have xf_TooMany := T.xf_TooMany; have ec_TooMany := T.ec_TooMany; have xn_TooMany := T.xn_TooMany
  refine ⟨_, (pss_one (ps_ret pe_bl)), ?_⟩
  rw [st_l_keeps]
  ((with_reducible refine s_ret ?_); (with_reducible refine s_c ?_))
  exact h _ (Ext.refl _ _)
theorem s_eqK {K : PySem.W.Frag} {a : Kd} (b : Kd) {H : Hp} {Q : VK} {bv : Bool} (e : decide (a = b) = bv) (k : Q (.bl bv) H) : gEq K (.str (wordK a)) (.str (wordK b)) H Q := s_eqS (by rw [word_eq, e]; exact k)
theorem s_eqK_any {K : PySem.W.Frag} {a : Kd} {H : Hp} {Q : VK} {bv : Bool} (e : decide (a = .any) = bv) (k : Q (.bl bv) H) : gEq K (.str (wordK a)) (.str (Str.ofString "any")) H Q := s_eqK .any e k
theorem s_eqK_within {K : PySem.W.Frag} {a : Kd} {H : Hp} {Q : VK} {bv : Bool} (e : decide (a = .within) = bv) (k : Q (.bl bv) H) : gEq K (.str (wordK a)) (.str (Str.ofString "within")) H Q := s_eqK .within e k
theorem s_eqK_att {K : PySem.W.Frag} {a : Kd} {H : Hp} {Q : VK} {bv : Bool} (e : decide (a = .att) = bv) (k : Q (.bl bv) H) : gEq K (.str (wordK a)) (.str (Str.ofString "at")) H Q := s_eqK .att e k
theorem s_eqK_between {K : PySem.W.Frag} {a : Kd} {H : Hp} {Q : VK} {bv : Bool} (e : decide (a = .between) = bv) (k : Q (.bl bv) H) : gEq K (.str (wordK a)) (.str (Str.ofString "between")) H Q := s_eqK .between e k
theorem s_eqK_read {K : PySem.W.Frag} {a : Kd} {H : Hp} {Q : VK} {bv : Bool} (e : decide (a = .read) = bv) (k : Q (.bl bv) H) : gEq K (.str (wordK a)) (.str (Str.ofString "read")) H Q := s_eqK .read e k
local macro_rules | `(tactic| wtm_at "eqk") => `(tactic| first | exact decide_eq_false (by decide) | exact decide_eq_true (by decide))
local macro_rules | `(tactic| wtm_at "go1") => `(tactic| first
  | ((with_reducible refine' s_eqK_any ?e ?k); (case e => wtm_at "eqk"))
  | ((with_reducible refine' s_eqK_within ?e ?k); (case e => wtm_at "eqk"))
  | ((with_reducible refine' s_eqK_att ?e ?k); (case e => wtm_at "eqk"))
  | ((with_reducible refine' s_eqK_between ?e ?k); (case e => wtm_at "eqk"))
  | ((with_reducible refine' s_eqK_read ?e ?k); (case e => wtm_at "eqk"))
  | fail "go1k")
inductive Srt | name | moment | reading | parts | part
  deriving DecidableEq
def Srt.z : Srt → Str
  | .name => Str.ofString "name" | .moment => Str.ofString "moment" | .reading => Str.ofString "reading" | .parts => Str.ofString "parts" | .part => Str.ofString "part"
def Wrd.z : Wrd → Str
  | .nm => Str.ofString "name" | .mo => Str.ofString "moment" | .rd => Str.ofString "reading" | .en => Str.ofString "entry" | .mn => Str.ofString "many"
def Srt.w : Srt → Wrd
  | .moment => .mo | .reading => .rd | _ => .nm
def okS : Srt → PyData → Bool
  | .moment, d => wholeB d 0 1000000000
  | .reading, d => wholeB d (0 - 10000000000) 10000000000
  | _, d => nameB d
def srts : Kd → List Srt
  | .any => [.name] | .within => [.name, .moment, .moment] | .att => [.name, .moment] | .between => [.name, .name, .reading, .reading] | .read => [.name, .name, .reading] | .joint => [.name, .parts] | .sifted => [.name, .part]
def DatA (S : Hp) (s : Srt) (v : V) (o : Out) : Prop := ∃ d, Rp S v d ∧ TxD d ∧ o = if okS s d = true then none else some (s.w, v)
def ArgA (K : PySem.W.Frag) (ec : EC) (S : Hp) (s : Srt) (v : V) (o : Out) : Prop := match s with
  | .parts => PartsA K ec S v o
  | .part => PartA K ec S v o
  | s => DatA S s v o
theorem ArgA.mono {K : PySem.W.Frag} {ec : EC} {S T : Hp} {s : Srt} {v : V} {o : Out} (e : Same S T) (h : ArgA K ec S s v o) : ArgA K ec T s v o := by
  cases s with
  | parts => exact PartsA.mono e h
  | part => exact PartA.mono e h
  | _ => obtain ⟨d, h1, h2, h3⟩ := h; exact ⟨d, h1.mono e, h2, h3⟩
inductive Args (K : PySem.W.Frag) (ec : EC) (S : Hp) : List Srt → List V → List Out → Prop
  | nil : Args K ec S [] [] []
  | cons {s v o ss vs os} : ArgA K ec S s v o → Args K ec S ss vs os → Args K ec S (s :: ss) (v :: vs) (o :: os)
theorem Args.mono {K : PySem.W.Frag} {ec : EC} {S T : Hp} (e : Same S T) : ∀ {ss vs os}, Args K ec S ss vs os → Args K ec T ss vs os
  | _, _, _, .nil => .nil
  | _, _, _, .cons a b => .cons (a.mono e) (b.mono e)
theorem Args.inv {K : PySem.W.Frag} {ec : EC} {S : Hp} {s : Srt} {ss : List Srt} {vs : List V} {os : List Out} (h : Args K ec S (s :: ss) vs os) : ∃ v o vs' os', vs = v :: vs' ∧ os = o :: os' ∧ ArgA K ec S s v o ∧ Args K ec S ss vs' os' := by
  cases h with
  | cons a b => exact ⟨_, _, _, _, rfl, rfl, a, b⟩
theorem Args.inv0 {K : PySem.W.Frag} {ec : EC} {S : Hp} {vs : List V} {os : List Out} (h : Args K ec S [] vs os) : vs = [] ∧ os = [] := by
  cases h
  exact ⟨rfl, rfl⟩
def fst : List Out → Out
  | [] => none
  | none :: r => fst r
  | some x :: _ => some x
theorem dat_yes {S : Hp} {s : Srt} {v : V} {o : Out} {d : PyData} (h : o = if okS s d = true then none else some (s.w, v)) (k : okS s d = true) : o = none := by rw [h, if_pos k]
theorem dat_no {S : Hp} {s : Srt} {v : V} {o : Out} {d : PyData} (h : o = if okS s d = true then none else some (s.w, v)) (k : okS s d = false) : o = some (s.w, v) := by rw [h, if_neg (by rw [k]; decide)]
theorem s_eqK_joint {K : PySem.W.Frag} {a : Kd} {H : Hp} {Q : VK} {bv : Bool} (e : decide (a = .joint) = bv) (k : Q (.bl bv) H) : gEq K (.str (wordK a)) (.str (Str.ofString "joint")) H Q := s_eqK .joint e k
section
variable {w : Wd} {a : Addr} {Q : VK} {y : V} {vs : List V}
theorem s_ixR0 (r : Rd w a (.lst vs)) (e : vs[0]? = some y) (k : Q y w.H) : gIx K (.ref a) (.int 0) w.H Q := s_ixA (i := 0) r e k
theorem s_ixR1 (r : Rd w a (.lst vs)) (e : vs[1]? = some y) (k : Q y w.H) : gIx K (.ref a) (.int 1) w.H Q := s_ixA (i := 1) r e k
theorem s_ixR2 (r : Rd w a (.lst vs)) (e : vs[2]? = some y) (k : Q y w.H) : gIx K (.ref a) (.int 2) w.H Q := s_ixA (i := 2) r e k
theorem s_ixR3 (r : Rd w a (.lst vs)) (e : vs[3]? = some y) (k : Q y w.H) : gIx K (.ref a) (.int 3) w.H Q := s_ixA (i := 3) r e k
end
theorem s_eqK_sifted {K : PySem.W.Frag} {a : Kd} {H : Hp} {Q : VK} {bv : Bool} (e : decide (a = .sifted) = bv) (k : Q (.bl bv) H) : gEq K (.str (wordK a)) (.str (Str.ofString "sifted")) H Q := s_eqK .sifted e k
theorem AllR.take {β : Type} {P : V → β → Prop} : ∀ {vs : List V} {bs : List β} (n : Nat), AllR P vs bs → AllR P (vs.take n) (bs.take n)
  | _, _, 0, _ => by rw [List.take_zero, List.take_zero]; exact .nil
  | _, _, _ + 1, .nil => .nil
  | _, _, n + 1, .cons a b => by rw [List.take_succ_cons, List.take_succ_cons]; exact .cons a (AllR.take n b)
local macro_rules | `(tactic| wtm_at "eqk") => `(tactic| assumption)
local macro_rules | `(tactic| wtm_at "go1") => `(tactic| first
  | ((with_reducible refine' s_eqK_joint ?e ?k); (case e => wtm_at "eqk"))
  | ((with_reducible refine' s_eqK_sifted ?e ?k); (case e => wtm_at "eqk"))
  | ((with_reducible refine' s_ixR0 ?r ?e ?k); (case r => wtm_at "rd0"); (case e => assumption))
  | ((with_reducible refine' s_ixR1 ?r ?e ?k); (case r => wtm_at "rd0"); (case e => assumption))
  | ((with_reducible refine' s_ixR2 ?r ?e ?k); (case r => wtm_at "rd0"); (case e => assumption))
  | ((with_reducible refine' s_ixR3 ?r ?e ?k); (case r => wtm_at "rd0"); (case e => assumption))
  | fail "go1kj")
abbrev nm_l_made : List Str := ["_law_kind", "_law_args"]
theorem sc_l_made : FnScope nm_l_made ["_law_kind", "_law_args"] (defScope s_l_made) := ⟨rfl, rfl, rfl, by decide +kernel, rfl, by decide +kernel, by decide +kernel⟩
theorem st_l_made (a b : V) : start nm_l_made [a, b] = [some a, some b] := rfl
def p_l_made (K : PySem.W.Frag) (ec : EC) (N M R G T : Addr) (w : Wd) (a b : V) (Q : VK) (E : XK) : Prop := ∃ k p vs os, a = .str (wordK k) ∧ b = .ref p ∧ Rd w p (.lst vs) ∧ EK K ec ∧ Args K ec w.S (srts k) vs os ∧
  (fst os = none → ∀ v r, Ext Non w v → Q r v.H) ∧ (∀ wd y, fst os = some (wd, y) → RzW Non w ⟨N, M, R, G, T⟩ wd y E)
theorem ok_l_made {f : Addr} {fd : FuncData} {C_Entry C_Within C_At C_Between C_Read C_Joint C_Sifted C_LogError C_NoBond C_NoEntry C_NoMinutes C_NoMoment C_NoName C_NoPlace C_NoReading C_Taken C_TooMany : Addr} (F : Fun K "_law_made" "_law_made" s_l_made f fd) (T : Txt K mg C_Entry C_Within C_At C_Between C_Read C_Joint C_Sifted C_LogError C_NoBond C_NoEntry C_NoMinutes C_NoMoment C_NoName C_NoPlace C_NoReading C_Taken C_TooMany) (c_At_init : Mkr P ww K mg base (L2.CX P ww) C_At 5 (pr3 (p_At_init K C_NoName C_NoMoment))) (c_Between_init : Mkr P ww K mg base (L2.CX P ww) C_Between 4 (pr5 (p_Between_init K C_NoName C_NoReading))) (c_Entry_init : Mkr P ww K mg base (L2.CX P ww) C_Entry 3 (pr2 (p_Entry_init K C_NoName))) (c_Joint_init : Mkr P ww K mg base (L2.CX P ww) C_Joint 4 (pr3 (p_Joint_init K (EC.mk C_Entry C_Within C_At C_Between C_Read C_Joint C_Sifted kdAll noKp) C_NoName C_NoMoment C_NoReading C_NoEntry C_TooMany))) (c_Read_init : Mkr P ww K mg base (L2.CX P ww) C_Read 5 (pr4 (p_Read_init K C_NoName C_NoReading))) (c_Sifted_init : Mkr P ww K mg base (L2.CX P ww) C_Sifted 4 (pr4 (p_Sifted_init K (EC.mk C_Entry C_Within C_At C_Between C_Read C_Joint C_Sifted kdAll noKp) C_NoName C_NoMoment C_NoReading C_NoEntry C_TooMany))) (c_Within_init : Mkr P ww K mg base (L2.CX P ww) C_Within 4 (pr4 (p_Within_init K C_NoName C_NoMoment))) (c_l_keeps : Fnc P ww K mg base CX0 1 "_law_keeps" (pr1 (p_l_keeps))) : FnOk P ww K mg base (L2.CX P ww) 7 f fd ["_law_kind", "_law_args"] (pr2 (p_l_made K (EC.mk C_Entry C_Within C_At C_Between C_Read C_Joint C_Sifted kdAll noKp) C_NoName C_NoMoment C_NoReading C_NoEntry C_TooMany)) := by
  refine F.okX sc_l_made (fun vs H Q E h => len2 h) (fun cdv A outer s H vs Q E hr h => ?_)
  obtain ⟨w, x0, x1,  rfl, rfl, h⟩ := h
  have ekT := ek_T (P := P) (ww := ww) (base := base) T
  have oex_NoBond := T.oex_NoBond; have xf_NoBond := T.xf_NoBond; have ec_NoBond := T.ec_NoBond; have xn_NoBond := T.xn_NoBond
  have oex_NoEntry := T.oex_NoEntry; have xf_NoEntry := T.xf_NoEntry; have ec_NoEntry := T.ec_NoEntry; have xn_NoEntry := T.xn_NoEntry
  have oex_NoMinutes := T.oex_NoMinutes; have xf_NoMinutes := T.xf_NoMinutes; have ec_NoMinutes := T.ec_NoMinutes; have xn_NoMinutes := T.xn_NoMinutes
  have oex_NoMoment := T.oex_NoMoment; have xf_NoMoment := T.xf_NoMoment; have ec_NoMoment := T.ec_NoMoment; have xn_NoMoment := T.xn_NoMoment
  have oex_NoName := T.oex_NoName; have xf_NoName := T.xf_NoName; have ec_NoName := T.ec_NoName; have xn_NoName := T.xn_NoName
  have oex_NoPlace := T.oex_NoPlace; have xf_NoPlace := T.xf_NoPlace; have ec_NoPlace := T.ec_NoPlace; have xn_NoPlace := T.xn_NoPlace
  have oex_NoReading := T.oex_NoReading; have xf_NoReading := T.xf_NoReading; have ec_NoReading := T.ec_NoReading; have xn_NoReading := T.xn_NoReading
  have oex_Taken := T.oex_Taken; have xf_Taken := T.xf_Taken; have ec_Taken := T.ec_Taken; have xn_Taken := T.xn_Taken
  have oex_TooMany := T.oex_TooMany; have xf_TooMany := T.xf_TooMany; have ec_TooMany := T.ec_TooMany; have xn_TooMany := T.xn_TooMany
  refine ⟨_, (pss_cons (ps_if (pt_cmpR (kEq K hr.units) (pv 0) pe_str (nomark _)) (pss_one (ps_ret (pe_mkX (takes_of rfl rfl rfl rfl) c_Entry_init hr (by decide) T.g_Entry (pa_cons (pe_ix (kIx K) (pv 1) pe_int (fun _ _ => rfl)) pa_nil)))) pss_nil)
      (pss_cons (ps_if (pt_cmpR (kEq K hr.units) (pv 0) pe_str (nomark _)) (pss_one (ps_ret (pe_mkX (takes_of rfl rfl rfl rfl) c_Within_init hr (by decide) T.g_Within (pa_cons (pe_ix (kIx K) (pv 1) pe_int (fun _ _ => rfl)) (pa_cons (pe_ix (kIx K) (pv 1) pe_int (fun _ _ => rfl)) (pa_cons (pe_ix (kIx K) (pv 1) pe_int (fun _ _ => rfl)) pa_nil)))))) pss_nil)
      (pss_cons (ps_if (pt_cmpR (kEq K hr.units) (pv 0) pe_str (nomark _)) (pss_one (ps_ret (pe_mkX (takes_of rfl rfl rfl rfl) c_At_init hr (by decide) T.g_At (pa_cons (pe_ix (kIx K) (pv 1) pe_int (fun _ _ => rfl)) (pa_cons (pe_ix (kIx K) (pv 1) pe_int (fun _ _ => rfl)) pa_nil))))) pss_nil)
      (pss_cons (ps_if (pt_cmpR (kEq K hr.units) (pv 0) pe_str (nomark _)) (pss_one (ps_ret (pe_mkX (takes_of rfl rfl rfl rfl) c_Between_init hr (by decide) T.g_Between (pa_cons (pe_ix (kIx K) (pv 1) pe_int (fun _ _ => rfl)) (pa_cons (pe_ix (kIx K) (pv 1) pe_int (fun _ _ => rfl)) (pa_cons (pe_ix (kIx K) (pv 1) pe_int (fun _ _ => rfl)) (pa_cons (pe_ix (kIx K) (pv 1) pe_int (fun _ _ => rfl)) pa_nil))))))) pss_nil)
      (pss_cons (ps_if (pt_cmpR (kEq K hr.units) (pv 0) pe_str (nomark _)) (pss_one (ps_ret (pe_mkX (takes_of rfl rfl rfl rfl) c_Read_init hr (by decide) T.g_Read (pa_cons (pe_ix (kIx K) (pv 1) pe_int (fun _ _ => rfl)) (pa_cons (pe_ix (kIx K) (pv 1) pe_int (fun _ _ => rfl)) (pa_cons (pe_ix (kIx K) (pv 1) pe_int (fun _ _ => rfl)) pa_nil)))))) pss_nil)
      (pss_cons (ps_if (pt_cmpR (kEq K hr.units) (pv 0) pe_str (nomark _)) (pss_one (ps_ret (pe_mkX (takes_of rfl rfl rfl rfl) c_Joint_init hr (by decide) T.g_Joint (pa_cons (pe_ix (kIx K) (pv 1) pe_int (fun _ _ => rfl)) (pa_cons (pe_ix (kIx K) (pv 1) pe_int (fun _ _ => rfl)) pa_nil))))) pss_nil)
      (pss_one (ps_ret (pe_mkX (takes_of rfl rfl rfl rfl) c_Sifted_init hr (by decide) T.g_Sifted (pa_cons (pe_ix (kIx K) (pv 1) pe_int (fun _ _ => rfl)) (pa_cons (pe_ix (kIx K) (pv 1) pe_int (fun _ _ => rfl)) (pa_cons (pe_fnv (k := 2) c_l_keeps (by decide)) pa_nil)))))))))))), ?_⟩
  rw [st_l_made]
  obtain ⟨k, p, vs, os, rfl, rfl, hp, ek, ha, k1, k2⟩ := h
  have fin : ∀ (u v : Wd) (x : Addr) (o : HO), fst os = none → Ext Non w u → w.H x = none → Ext (One x) u v → Own v x o → Q (.ref x) v.H := fun u v x _ hn e1 nx e2 o => k1 hn v (.ref x) (e1.step e2 fun b hb => .inl (by rw [show b = x from hb]; exact nx))
  cases k with
  | any =>
    obtain ⟨v0, o0, vs, os, rfl, rfl, h0, ha⟩ := ha.inv
    obtain ⟨rfl, rfl⟩ := ha.inv0
    obtain ⟨d0, r0, t0, q0⟩ := h0
    have i0 : [v0][0]? = some v0 := rfl
    ((with_reducible refine s_seq ?_); (with_reducible refine s_ifS ?_); (with_reducible refine s_test ?_); (with_reducible refine s_op ?_); (with_reducible refine' s_var ?q0 ?q1); (case q0 => exact rfl); (with_reducible refine s_c ?_); (with_reducible refine' s_eqK_any ?q2 ?q3); (case q2 => exact decide_eq_true ( by decide )); (with_reducible refine s_bl ?_); (with_reducible refine ite_tt ?_); (with_reducible refine s_ret ?_); (with_reducible refine s_makeX ?_); (with_reducible refine s_cons ?_); (with_reducible refine s_op ?_); (with_reducible refine' s_var ?q7 ?q8); (case q7 => exact rfl); (with_reducible refine s_c ?_); (with_reducible refine' s_ixR0 ?q9 ?q10 ?q11); (case q9 => assumption); (case q10 => assumption); (with_reducible refine s_nil ?_))
    refine s_rmake fun x dx v1 e1 n1 o1 => s_pm2 ⟨x, _, dx, _, rfl, o1, (ek.cl .any trivial), r0.go e1, t0, fun z hz hb v2 e2 o2 => ⟨rfl, ?_⟩, fun h => RzW.up (c := ⟨C_NoName, C_NoMoment, C_NoReading, C_NoEntry, C_TooMany⟩) (k2 .nm v0 (by rw [dat_no (S := w.S) q0 h]; rfl)) e1 n1⟩
    exact fin v1 v2 x _ (by rw [dat_yes (S := w.S) q0 (by rw [hz] at hb ⊢; exact hb)]; rfl) e1 n1 e2 o2
  | within =>
    obtain ⟨v0, o0, vs, os, rfl, rfl, h0, ha⟩ := ha.inv
    obtain ⟨v1, o1, vs, os, rfl, rfl, h1, ha⟩ := ha.inv
    obtain ⟨v2, o2, vs, os, rfl, rfl, h2, ha⟩ := ha.inv
    obtain ⟨rfl, rfl⟩ := ha.inv0
    obtain ⟨d0, r0, t0, q0⟩ := h0
    obtain ⟨d1, r1, t1, q1⟩ := h1
    obtain ⟨d2, r2, t2, q2⟩ := h2
    have i0 : [v0, v1, v2][0]? = some v0 := rfl
    have i1 : [v0, v1, v2][1]? = some v1 := rfl
    have i2 : [v0, v1, v2][2]? = some v2 := rfl
    ((with_reducible refine s_seq ?_); (with_reducible refine s_ifS ?_); (with_reducible refine s_test ?_); (with_reducible refine s_op ?_); (with_reducible refine' s_var ?q12 ?q13); (case q12 => exact rfl); (with_reducible refine s_c ?_); (with_reducible refine' s_eqK_any ?q14 ?q15); (case q14 => exact decide_eq_false ( by decide )); (with_reducible refine s_bl ?_); (with_reducible refine ite_ff ?_); (with_reducible refine s_next ?_); (with_reducible refine s_seq ?_); (with_reducible refine s_ifS ?_); (with_reducible refine s_test ?_); (with_reducible refine s_op ?_); (with_reducible refine' s_var ?q16 ?q17); (case q16 => exact rfl); (with_reducible refine s_c ?_); (with_reducible refine' s_eqK_within ?q18 ?q19); (case q18 => exact decide_eq_true ( by decide )); (with_reducible refine s_bl ?_); (with_reducible refine ite_tt ?_); (with_reducible refine s_ret ?_); (with_reducible refine s_makeX ?_); (with_reducible refine s_cons ?_); (with_reducible refine s_op ?_); (with_reducible refine' s_var ?q23 ?q24); (case q23 => exact rfl); (with_reducible refine s_c ?_); (with_reducible refine' s_ixR0 ?q25 ?q26 ?q27); (case q25 => assumption); (case q26 => assumption); (with_reducible refine s_cons ?_); (with_reducible refine s_op ?_); (with_reducible refine' s_var ?q28 ?q29); (case q28 => exact rfl); (with_reducible refine s_c ?_); (with_reducible refine' s_ixR1 ?q30 ?q31 ?q32); (case q30 => assumption); (case q31 => assumption); (with_reducible refine s_cons ?_); (with_reducible refine s_op ?_); (with_reducible refine' s_var ?q33 ?q34); (case q33 => exact rfl); (with_reducible refine s_c ?_); (with_reducible refine' s_ixR2 ?q35 ?q36 ?q37); (case q35 => assumption); (case q36 => assumption); (with_reducible refine s_nil ?_))
    refine s_rmake fun x dx u1 e1 n1 o1 => s_pm4 ⟨x, _, dx, _, _, _, rfl, o1, (ek.cl .within trivial), r0.go e1, t0, r1.go e1, r2.go e1, fun z a b hz hb ha hb2 b1 b2 b3 b4 u2 e2 oo2 => ⟨rfl, ?_⟩,
      fun h => RzW.up (c := ⟨C_NoName, C_NoMoment, C_NoReading, C_NoEntry, C_TooMany⟩) (k2 .nm v0 (by rw [dat_no (S := w.S) q0 h]; rfl)) e1 n1,
      fun ha h => RzW.up (c := ⟨C_NoName, C_NoMoment, C_NoReading, C_NoEntry, C_TooMany⟩) (k2 .mo v1 (by rw [dat_yes (S := w.S) q0 ha, dat_no (S := w.S) q1 h]; rfl)) e1 n1,
      fun ha hb h => RzW.up (c := ⟨C_NoName, C_NoMoment, C_NoReading, C_NoEntry, C_TooMany⟩) (k2 .mo v2 (by rw [dat_yes (S := w.S) q0 ha, dat_yes (S := w.S) q1 hb, dat_no (S := w.S) q2 h]; rfl)) e1 n1⟩
    exact fin u1 u2 x _ (by rw [dat_yes (S := w.S) q0 (by exact hb), dat_yes (S := w.S) q1 (by rw [ha]; exact mom_yes b1 b2), dat_yes (S := w.S) q2 (by rw [hb2]; exact mom_yes b3 b4)]; rfl) e1 n1 e2 oo2
  | att =>
    obtain ⟨v0, o0, vs, os, rfl, rfl, h0, ha⟩ := ha.inv
    obtain ⟨v1, o1, vs, os, rfl, rfl, h1, ha⟩ := ha.inv
    obtain ⟨rfl, rfl⟩ := ha.inv0
    obtain ⟨d0, r0, t0, q0⟩ := h0
    obtain ⟨d1, r1, t1, q1⟩ := h1
    have i0 : [v0, v1][0]? = some v0 := rfl
    have i1 : [v0, v1][1]? = some v1 := rfl
    ((with_reducible refine s_seq ?_); (with_reducible refine s_ifS ?_); (with_reducible refine s_test ?_); (with_reducible refine s_op ?_); (with_reducible refine' s_var ?q38 ?q39); (case q38 => exact rfl); (with_reducible refine s_c ?_); (with_reducible refine' s_eqK_any ?q40 ?q41); (case q40 => exact decide_eq_false ( by decide )); (with_reducible refine s_bl ?_); (with_reducible refine ite_ff ?_); (with_reducible refine s_next ?_); (with_reducible refine s_seq ?_); (with_reducible refine s_ifS ?_); (with_reducible refine s_test ?_); (with_reducible refine s_op ?_); (with_reducible refine' s_var ?q42 ?q43); (case q42 => exact rfl); (with_reducible refine s_c ?_); (with_reducible refine' s_eqK_within ?q44 ?q45); (case q44 => exact decide_eq_false ( by decide )); (with_reducible refine s_bl ?_); (with_reducible refine ite_ff ?_); (with_reducible refine s_next ?_); (with_reducible refine s_seq ?_); (with_reducible refine s_ifS ?_); (with_reducible refine s_test ?_); (with_reducible refine s_op ?_); (with_reducible refine' s_var ?q46 ?q47); (case q46 => exact rfl); (with_reducible refine s_c ?_); (with_reducible refine' s_eqK_att ?q48 ?q49); (case q48 => exact decide_eq_true ( by decide )); (with_reducible refine s_bl ?_); (with_reducible refine ite_tt ?_); (with_reducible refine s_ret ?_); (with_reducible refine s_makeX ?_); (with_reducible refine s_cons ?_); (with_reducible refine s_op ?_); (with_reducible refine' s_var ?q53 ?q54); (case q53 => exact rfl); (with_reducible refine s_c ?_); (with_reducible refine' s_ixR0 ?q55 ?q56 ?q57); (case q55 => assumption); (case q56 => assumption); (with_reducible refine s_cons ?_); (with_reducible refine s_op ?_); (with_reducible refine' s_var ?q58 ?q59); (case q58 => exact rfl); (with_reducible refine s_c ?_); (with_reducible refine' s_ixR1 ?q60 ?q61 ?q62); (case q60 => assumption); (case q61 => assumption); (with_reducible refine s_nil ?_))
    refine s_rmake fun x dx u1 e1 n1 o1 => s_pm3 ⟨x, _, dx, _, _, rfl, o1, (ek.cl .att trivial), r0.go e1, t0, r1.go e1, fun z a hz hb ha b1 b2 u2 e2 oo2 => ⟨rfl, ?_⟩,
      fun h => RzW.up (c := ⟨C_NoName, C_NoMoment, C_NoReading, C_NoEntry, C_TooMany⟩) (k2 .nm v0 (by rw [dat_no (S := w.S) q0 h]; rfl)) e1 n1,
      fun ha h => RzW.up (c := ⟨C_NoName, C_NoMoment, C_NoReading, C_NoEntry, C_TooMany⟩) (k2 .mo v1 (by rw [dat_yes (S := w.S) q0 ha, dat_no (S := w.S) q1 h]; rfl)) e1 n1⟩
    exact fin u1 u2 x _ (by rw [dat_yes (S := w.S) q0 (by exact hb), dat_yes (S := w.S) q1 (by rw [ha]; exact mom_yes b1 b2)]; rfl) e1 n1 e2 oo2
  | between =>
    obtain ⟨v0, o0, vs, os, rfl, rfl, h0, ha⟩ := ha.inv
    obtain ⟨v1, o1, vs, os, rfl, rfl, h1, ha⟩ := ha.inv
    obtain ⟨v2, o2, vs, os, rfl, rfl, h2, ha⟩ := ha.inv
    obtain ⟨v3, o3, vs, os, rfl, rfl, h3, ha⟩ := ha.inv
    obtain ⟨rfl, rfl⟩ := ha.inv0
    obtain ⟨d0, r0, t0, q0⟩ := h0
    obtain ⟨d1, r1, t1, q1⟩ := h1
    obtain ⟨d2, r2, t2, q2⟩ := h2
    obtain ⟨d3, r3, t3, q3⟩ := h3
    have i0 : [v0, v1, v2, v3][0]? = some v0 := rfl
    have i1 : [v0, v1, v2, v3][1]? = some v1 := rfl
    have i2 : [v0, v1, v2, v3][2]? = some v2 := rfl
    have i3 : [v0, v1, v2, v3][3]? = some v3 := rfl
    ((with_reducible refine s_seq ?_); (with_reducible refine s_ifS ?_); (with_reducible refine s_test ?_); (with_reducible refine s_op ?_); (with_reducible refine' s_var ?q63 ?q64); (case q63 => exact rfl); (with_reducible refine s_c ?_); (with_reducible refine' s_eqK_any ?q65 ?q66); (case q65 => exact decide_eq_false ( by decide )); (with_reducible refine s_bl ?_); (with_reducible refine ite_ff ?_); (with_reducible refine s_next ?_); (with_reducible refine s_seq ?_); (with_reducible refine s_ifS ?_); (with_reducible refine s_test ?_); (with_reducible refine s_op ?_); (with_reducible refine' s_var ?q67 ?q68); (case q67 => exact rfl); (with_reducible refine s_c ?_); (with_reducible refine' s_eqK_within ?q69 ?q70); (case q69 => exact decide_eq_false ( by decide )); (with_reducible refine s_bl ?_); (with_reducible refine ite_ff ?_); (with_reducible refine s_next ?_); (with_reducible refine s_seq ?_); (with_reducible refine s_ifS ?_); (with_reducible refine s_test ?_); (with_reducible refine s_op ?_); (with_reducible refine' s_var ?q71 ?q72); (case q71 => exact rfl); (with_reducible refine s_c ?_); (with_reducible refine' s_eqK_att ?q73 ?q74); (case q73 => exact decide_eq_false ( by decide )); (with_reducible refine s_bl ?_); (with_reducible refine ite_ff ?_); (with_reducible refine s_next ?_); (with_reducible refine s_seq ?_); (with_reducible refine s_ifS ?_); (with_reducible refine s_test ?_); (with_reducible refine s_op ?_); (with_reducible refine' s_var ?q75 ?q76); (case q75 => exact rfl); (with_reducible refine s_c ?_); (with_reducible refine' s_eqK_between ?q77 ?q78); (case q77 => exact decide_eq_true ( by decide )); (with_reducible refine s_bl ?_); (with_reducible refine ite_tt ?_); (with_reducible refine s_ret ?_); (with_reducible refine s_makeX ?_); (with_reducible refine s_cons ?_); (with_reducible refine s_op ?_); (with_reducible refine' s_var ?q82 ?q83); (case q82 => exact rfl); (with_reducible refine s_c ?_); (with_reducible refine' s_ixR0 ?q84 ?q85 ?q86); (case q84 => assumption); (case q85 => assumption); (with_reducible refine s_cons ?_); (with_reducible refine s_op ?_); (with_reducible refine' s_var ?q87 ?q88); (case q87 => exact rfl); (with_reducible refine s_c ?_); (with_reducible refine' s_ixR1 ?q89 ?q90 ?q91); (case q89 => assumption); (case q90 => assumption); (with_reducible refine s_cons ?_); (with_reducible refine s_op ?_); (with_reducible refine' s_var ?q92 ?q93); (case q92 => exact rfl); (with_reducible refine s_c ?_); (with_reducible refine' s_ixR2 ?q94 ?q95 ?q96); (case q94 => assumption); (case q95 => assumption); (with_reducible refine s_cons ?_); (with_reducible refine s_op ?_); (with_reducible refine' s_var ?q97 ?q98); (case q97 => exact rfl); (with_reducible refine s_c ?_); (with_reducible refine' s_ixR3 ?q99 ?q100 ?q101); (case q99 => assumption); (case q100 => assumption); (with_reducible refine s_nil ?_))
    refine s_rmake fun x dx u1 e1 n1 o1 => s_pm5 ⟨x, _, dx, _, _, _, _, rfl, o1, (ek.cl .between trivial), r0.go e1, t0, r1.go e1, t1, r2.go e1, r3.go e1, fun z y a b hz hb hy hby ha hb2 b1 b2 b3 b4 u2 e2 oo2 => ⟨rfl, ?_⟩,
      fun h => RzW.up (c := ⟨C_NoName, C_NoMoment, C_NoReading, C_NoEntry, C_TooMany⟩) (k2 .nm v0 (by rw [dat_no (S := w.S) q0 h]; rfl)) e1 n1,
      fun ha h => RzW.up (c := ⟨C_NoName, C_NoMoment, C_NoReading, C_NoEntry, C_TooMany⟩) (k2 .nm v1 (by rw [dat_yes (S := w.S) q0 ha, dat_no (S := w.S) q1 h]; rfl)) e1 n1,
      fun ha hb h => RzW.up (c := ⟨C_NoName, C_NoMoment, C_NoReading, C_NoEntry, C_TooMany⟩) (k2 .rd v2 (by rw [dat_yes (S := w.S) q0 ha, dat_yes (S := w.S) q1 hb, dat_no (S := w.S) q2 h]; rfl)) e1 n1,
      fun ha hb hc h => RzW.up (c := ⟨C_NoName, C_NoMoment, C_NoReading, C_NoEntry, C_TooMany⟩) (k2 .rd v3 (by rw [dat_yes (S := w.S) q0 ha, dat_yes (S := w.S) q1 hb, dat_yes (S := w.S) q2 hc, dat_no (S := w.S) q3 h]; rfl)) e1 n1⟩
    exact fin u1 u2 x _ (by rw [dat_yes (S := w.S) q0 (by exact hb), dat_yes (S := w.S) q1 (by exact hby), dat_yes (S := w.S) q2 (by rw [ha]; exact rdg_yes b1 b2), dat_yes (S := w.S) q3 (by rw [hb2]; exact rdg_yes b3 b4)]; rfl) e1 n1 e2 oo2
  | read =>
    obtain ⟨v0, o0, vs, os, rfl, rfl, h0, ha⟩ := ha.inv
    obtain ⟨v1, o1, vs, os, rfl, rfl, h1, ha⟩ := ha.inv
    obtain ⟨v2, o2, vs, os, rfl, rfl, h2, ha⟩ := ha.inv
    obtain ⟨rfl, rfl⟩ := ha.inv0
    obtain ⟨d0, r0, t0, q0⟩ := h0
    obtain ⟨d1, r1, t1, q1⟩ := h1
    obtain ⟨d2, r2, t2, q2⟩ := h2
    have i0 : [v0, v1, v2][0]? = some v0 := rfl
    have i1 : [v0, v1, v2][1]? = some v1 := rfl
    have i2 : [v0, v1, v2][2]? = some v2 := rfl
    ((with_reducible refine s_seq ?_); (with_reducible refine s_ifS ?_); (with_reducible refine s_test ?_); (with_reducible refine s_op ?_); (with_reducible refine' s_var ?q102 ?q103); (case q102 => exact rfl); (with_reducible refine s_c ?_); (with_reducible refine' s_eqK_any ?q104 ?q105); (case q104 => exact decide_eq_false ( by decide )); (with_reducible refine s_bl ?_); (with_reducible refine ite_ff ?_); (with_reducible refine s_next ?_); (with_reducible refine s_seq ?_); (with_reducible refine s_ifS ?_); (with_reducible refine s_test ?_); (with_reducible refine s_op ?_); (with_reducible refine' s_var ?q106 ?q107); (case q106 => exact rfl); (with_reducible refine s_c ?_); (with_reducible refine' s_eqK_within ?q108 ?q109); (case q108 => exact decide_eq_false ( by decide )); (with_reducible refine s_bl ?_); (with_reducible refine ite_ff ?_); (with_reducible refine s_next ?_); (with_reducible refine s_seq ?_); (with_reducible refine s_ifS ?_); (with_reducible refine s_test ?_); (with_reducible refine s_op ?_); (with_reducible refine' s_var ?q110 ?q111); (case q110 => exact rfl); (with_reducible refine s_c ?_); (with_reducible refine' s_eqK_att ?q112 ?q113); (case q112 => exact decide_eq_false ( by decide )); (with_reducible refine s_bl ?_); (with_reducible refine ite_ff ?_); (with_reducible refine s_next ?_); (with_reducible refine s_seq ?_); (with_reducible refine s_ifS ?_); (with_reducible refine s_test ?_); (with_reducible refine s_op ?_); (with_reducible refine' s_var ?q114 ?q115); (case q114 => exact rfl); (with_reducible refine s_c ?_); (with_reducible refine' s_eqK_between ?q116 ?q117); (case q116 => exact decide_eq_false ( by decide )); (with_reducible refine s_bl ?_); (with_reducible refine ite_ff ?_); (with_reducible refine s_next ?_); (with_reducible refine s_seq ?_); (with_reducible refine s_ifS ?_); (with_reducible refine s_test ?_); (with_reducible refine s_op ?_); (with_reducible refine' s_var ?q118 ?q119); (case q118 => exact rfl); (with_reducible refine s_c ?_); (with_reducible refine' s_eqK_read ?q120 ?q121); (case q120 => exact decide_eq_true ( by decide )); (with_reducible refine s_bl ?_); (with_reducible refine ite_tt ?_); (with_reducible refine s_ret ?_); (with_reducible refine s_makeX ?_); (with_reducible refine s_cons ?_); (with_reducible refine s_op ?_); (with_reducible refine' s_var ?q125 ?q126); (case q125 => exact rfl); (with_reducible refine s_c ?_); (with_reducible refine' s_ixR0 ?q127 ?q128 ?q129); (case q127 => assumption); (case q128 => assumption); (with_reducible refine s_cons ?_); (with_reducible refine s_op ?_); (with_reducible refine' s_var ?q130 ?q131); (case q130 => exact rfl); (with_reducible refine s_c ?_); (with_reducible refine' s_ixR1 ?q132 ?q133 ?q134); (case q132 => assumption); (case q133 => assumption); (with_reducible refine s_cons ?_); (with_reducible refine s_op ?_); (with_reducible refine' s_var ?q135 ?q136); (case q135 => exact rfl); (with_reducible refine s_c ?_); (with_reducible refine' s_ixR2 ?q137 ?q138 ?q139); (case q137 => assumption); (case q138 => assumption); (with_reducible refine s_nil ?_))
    refine s_rmake fun x dx u1 e1 n1 o1 => s_pm4 ⟨x, _, dx, _, _, _, rfl, o1, (ek.cl .read trivial), r0.go e1, t0, r1.go e1, t1, r2.go e1, fun z y a hz hb hy hby ha b1 b2 u2 e2 oo2 => ⟨rfl, ?_⟩,
      fun h => RzW.up (c := ⟨C_NoName, C_NoMoment, C_NoReading, C_NoEntry, C_TooMany⟩) (k2 .nm v0 (by rw [dat_no (S := w.S) q0 h]; rfl)) e1 n1,
      fun ha h => RzW.up (c := ⟨C_NoName, C_NoMoment, C_NoReading, C_NoEntry, C_TooMany⟩) (k2 .nm v1 (by rw [dat_yes (S := w.S) q0 ha, dat_no (S := w.S) q1 h]; rfl)) e1 n1,
      fun ha hb h => RzW.up (c := ⟨C_NoName, C_NoMoment, C_NoReading, C_NoEntry, C_TooMany⟩) (k2 .rd v2 (by rw [dat_yes (S := w.S) q0 ha, dat_yes (S := w.S) q1 hb, dat_no (S := w.S) q2 h]; rfl)) e1 n1⟩
    exact fin u1 u2 x _ (by rw [dat_yes (S := w.S) q0 (by exact hb), dat_yes (S := w.S) q1 (by exact hby), dat_yes (S := w.S) q2 (by rw [ha]; exact rdg_yes b1 b2)]; rfl) e1 n1 e2 oo2
  | joint =>
    obtain ⟨v0, o0, vs, os, rfl, rfl, h0, ha⟩ := ha.inv
    obtain ⟨v1, o1, vs, os, rfl, rfl, h1, ha⟩ := ha.inv
    obtain ⟨rfl, rfl⟩ := ha.inv0
    obtain ⟨d0, r0, t0, q0⟩ := h0
    have h1 : PartsA _ _ w.S v1 o1 := h1
    have i0 : [v0, v1][0]? = some v0 := rfl
    have i1 : [v0, v1][1]? = some v1 := rfl
    ((with_reducible refine s_seq ?_); (with_reducible refine s_ifS ?_); (with_reducible refine s_test ?_); (with_reducible refine s_op ?_); (with_reducible refine' s_var ?q140 ?q141); (case q140 => exact rfl); (with_reducible refine s_c ?_); (with_reducible refine' s_eqK_any ?q142 ?q143); (case q142 => exact decide_eq_false ( by decide )); (with_reducible refine s_bl ?_); (with_reducible refine ite_ff ?_); (with_reducible refine s_next ?_); (with_reducible refine s_seq ?_); (with_reducible refine s_ifS ?_); (with_reducible refine s_test ?_); (with_reducible refine s_op ?_); (with_reducible refine' s_var ?q144 ?q145); (case q144 => exact rfl); (with_reducible refine s_c ?_); (with_reducible refine' s_eqK_within ?q146 ?q147); (case q146 => exact decide_eq_false ( by decide )); (with_reducible refine s_bl ?_); (with_reducible refine ite_ff ?_); (with_reducible refine s_next ?_); (with_reducible refine s_seq ?_); (with_reducible refine s_ifS ?_); (with_reducible refine s_test ?_); (with_reducible refine s_op ?_); (with_reducible refine' s_var ?q148 ?q149); (case q148 => exact rfl); (with_reducible refine s_c ?_); (with_reducible refine' s_eqK_att ?q150 ?q151); (case q150 => exact decide_eq_false ( by decide )); (with_reducible refine s_bl ?_); (with_reducible refine ite_ff ?_); (with_reducible refine s_next ?_); (with_reducible refine s_seq ?_); (with_reducible refine s_ifS ?_); (with_reducible refine s_test ?_); (with_reducible refine s_op ?_); (with_reducible refine' s_var ?q152 ?q153); (case q152 => exact rfl); (with_reducible refine s_c ?_); (with_reducible refine' s_eqK_between ?q154 ?q155); (case q154 => exact decide_eq_false ( by decide )); (with_reducible refine s_bl ?_); (with_reducible refine ite_ff ?_); (with_reducible refine s_next ?_); (with_reducible refine s_seq ?_); (with_reducible refine s_ifS ?_); (with_reducible refine s_test ?_); (with_reducible refine s_op ?_); (with_reducible refine' s_var ?q156 ?q157); (case q156 => exact rfl); (with_reducible refine s_c ?_); (with_reducible refine' s_eqK_read ?q158 ?q159); (case q158 => exact decide_eq_false ( by decide )); (with_reducible refine s_bl ?_); (with_reducible refine ite_ff ?_); (with_reducible refine s_next ?_); (with_reducible refine s_seq ?_); (with_reducible refine s_ifS ?_); (with_reducible refine s_test ?_); (with_reducible refine s_op ?_); (with_reducible refine' s_var ?q160 ?q161); (case q160 => exact rfl); (with_reducible refine s_c ?_); (with_reducible refine' s_eqK_joint ?q162 ?q163); (case q162 => exact decide_eq_true ( by decide )); (with_reducible refine s_bl ?_); (with_reducible refine ite_tt ?_); (with_reducible refine s_ret ?_); (with_reducible refine s_makeX ?_); (with_reducible refine s_cons ?_); (with_reducible refine s_op ?_); (with_reducible refine' s_var ?q167 ?q168); (case q167 => exact rfl); (with_reducible refine s_c ?_); (with_reducible refine' s_ixR0 ?q169 ?q170 ?q171); (case q169 => assumption); (case q170 => assumption); (with_reducible refine s_cons ?_); (with_reducible refine s_op ?_); (with_reducible refine' s_var ?q172 ?q173); (case q172 => exact rfl); (with_reducible refine s_c ?_); (with_reducible refine' s_ixR1 ?q174 ?q175 ?q176); (case q174 => assumption); (case q175 => assumption); (with_reducible refine s_nil ?_))
    refine s_rmake fun x dx u1 e1 n1 oo1 => s_pm3 ⟨x, dx, _, o1, rfl, oo1, ek, trivial, r0.go e1, t0, h1.mono e1.st, fun hb ho u2 fs e2 oo2 => ⟨rfl, ?_⟩,
      fun h => RzW.up (c := ⟨C_NoName, C_NoMoment, C_NoReading, C_NoEntry, C_TooMany⟩) (k2 .nm v0 (by rw [dat_no (S := w.S) q0 h]; rfl)) e1 n1,
      fun ha wd y ho => RzW.up (k2 wd y (by rw [dat_yes (S := w.S) q0 ha, ho]; rfl)) e1 n1⟩
    exact fin u1 u2 x _ (by rw [dat_yes (S := w.S) q0 (by exact hb), ho]; rfl) e1 n1 e2 oo2
  | sifted =>
    obtain ⟨v0, o0, vs, os, rfl, rfl, h0, ha⟩ := ha.inv
    obtain ⟨v1, o1, vs, os, rfl, rfl, h1, ha⟩ := ha.inv
    obtain ⟨rfl, rfl⟩ := ha.inv0
    obtain ⟨d0, r0, t0, q0⟩ := h0
    have h1 : PartA _ _ w.S v1 o1 := h1
    have i0 : [v0, v1][0]? = some v0 := rfl
    have i1 : [v0, v1][1]? = some v1 := rfl
    ((with_reducible refine s_seq ?_); (with_reducible refine s_ifS ?_); (with_reducible refine s_test ?_); (with_reducible refine s_op ?_); (with_reducible refine' s_var ?q177 ?q178); (case q177 => exact rfl); (with_reducible refine s_c ?_); (with_reducible refine' s_eqK_any ?q179 ?q180); (case q179 => exact decide_eq_false ( by decide )); (with_reducible refine s_bl ?_); (with_reducible refine ite_ff ?_); (with_reducible refine s_next ?_); (with_reducible refine s_seq ?_); (with_reducible refine s_ifS ?_); (with_reducible refine s_test ?_); (with_reducible refine s_op ?_); (with_reducible refine' s_var ?q181 ?q182); (case q181 => exact rfl); (with_reducible refine s_c ?_); (with_reducible refine' s_eqK_within ?q183 ?q184); (case q183 => exact decide_eq_false ( by decide )); (with_reducible refine s_bl ?_); (with_reducible refine ite_ff ?_); (with_reducible refine s_next ?_); (with_reducible refine s_seq ?_); (with_reducible refine s_ifS ?_); (with_reducible refine s_test ?_); (with_reducible refine s_op ?_); (with_reducible refine' s_var ?q185 ?q186); (case q185 => exact rfl); (with_reducible refine s_c ?_); (with_reducible refine' s_eqK_att ?q187 ?q188); (case q187 => exact decide_eq_false ( by decide )); (with_reducible refine s_bl ?_); (with_reducible refine ite_ff ?_); (with_reducible refine s_next ?_); (with_reducible refine s_seq ?_); (with_reducible refine s_ifS ?_); (with_reducible refine s_test ?_); (with_reducible refine s_op ?_); (with_reducible refine' s_var ?q189 ?q190); (case q189 => exact rfl); (with_reducible refine s_c ?_); (with_reducible refine' s_eqK_between ?q191 ?q192); (case q191 => exact decide_eq_false ( by decide )); (with_reducible refine s_bl ?_); (with_reducible refine ite_ff ?_); (with_reducible refine s_next ?_); (with_reducible refine s_seq ?_); (with_reducible refine s_ifS ?_); (with_reducible refine s_test ?_); (with_reducible refine s_op ?_); (with_reducible refine' s_var ?q193 ?q194); (case q193 => exact rfl); (with_reducible refine s_c ?_); (with_reducible refine' s_eqK_read ?q195 ?q196); (case q195 => exact decide_eq_false ( by decide )); (with_reducible refine s_bl ?_); (with_reducible refine ite_ff ?_); (with_reducible refine s_next ?_); (with_reducible refine s_seq ?_); (with_reducible refine s_ifS ?_); (with_reducible refine s_test ?_); (with_reducible refine s_op ?_); (with_reducible refine' s_var ?q197 ?q198); (case q197 => exact rfl); (with_reducible refine s_c ?_); (with_reducible refine' s_eqK_joint ?q199 ?q200); (case q199 => exact decide_eq_false ( by decide )); (with_reducible refine s_bl ?_); (with_reducible refine ite_ff ?_); (with_reducible refine s_next ?_); (with_reducible refine s_ret ?_); (with_reducible refine s_makeX ?_); (with_reducible refine s_cons ?_); (with_reducible refine s_op ?_); (with_reducible refine' s_var ?q204 ?q205); (case q204 => exact rfl); (with_reducible refine s_c ?_); (with_reducible refine' s_ixR0 ?q206 ?q207 ?q208); (case q206 => assumption); (case q207 => assumption); (with_reducible refine s_cons ?_); (with_reducible refine s_op ?_); (with_reducible refine' s_var ?q209 ?q210); (case q209 => exact rfl); (with_reducible refine s_c ?_); (with_reducible refine' s_ixR1 ?q211 ?q212 ?q213); (case q211 => assumption); (case q212 => assumption); (with_reducible refine s_cons ?_); (with_reducible refine' s_fnv ?q214); intro _ _; (with_reducible refine s_nil ?_))
    refine s_rmake fun x dx u1 e1 n1 oo1 => s_pm4 ⟨x, dx, _, o1, rfl, oo1, ek, trivial, r0.go e1, t0, h1.mono e1.st, fun hb ho u2 fs e2 oo2 => ⟨rfl, ?_⟩,
      fun h => RzW.up (c := ⟨C_NoName, C_NoMoment, C_NoReading, C_NoEntry, C_TooMany⟩) (k2 .nm v0 (by rw [dat_no (S := w.S) q0 h]; rfl)) e1 n1,
      fun ha wd y ho => RzW.up (k2 wd y (by rw [dat_yes (S := w.S) q0 ha, ho]; rfl)) e1 n1⟩
    exact fin u1 u2 x _ (by rw [dat_yes (S := w.S) q0 (by exact hb), ho]; rfl) e1 n1 e2 oo2
def flags (wd : Wrd) : List V := [.bl (decide (wd = .nm)), .bl (decide (wd = .mo)), .bl (decide (wd = .rd)), .bl (decide (wd = .en)), .bl (decide (wd = .mn))]
local macro_rules | `(tactic| wtm_at "gsr") => `(tactic| repeat ((fail_if_success (with_reducible refine' s_repM ?h ?h0 ?h1 ?c ?k)); wtm_at "gs1"))
local macro_rules | `(tactic| wtm_at "gsc") => `(tactic| repeat ((fail_if_success (with_reducible refine' s_catS ?h1 ?h2 ?z ?k)); wtm_at "gs1"))
abbrev nm_l_refusal : List Str := ["_law_kind", "_law_args", "_law_told", "e", "_law_kinds", "_law_others"]
theorem sc_l_refusal : FnScope nm_l_refusal ["_law_kind", "_law_args"] (defScope s_l_refusal) := ⟨rfl, rfl, rfl, by decide +kernel, rfl, by decide +kernel, by decide +kernel⟩
theorem st_l_refusal (a b : V) : start nm_l_refusal [a, b] = [some a, some b, none, none, none, none] := rfl
def p_l_refusal (K : PySem.W.Frag) (ec : EC) (N M R G T : Addr) (w : Wd) (a b : V) (Q : VK) (_ : XK) : Prop := ∃ k p vs os, a = .str (wordK k) ∧ b = .ref p ∧ Rd w p (.lst vs) ∧ EK K ec ∧ Args K ec w.S (srts k) vs os ∧
  (fst os = none → ∀ v, Ext Non w v → Q .non v.H) ∧ (∀ wd y, fst os = some (wd, y) → ∀ v r q, Ext Non w v → v.S r = some (.lst [.ref q, .bl false, y]) → v.S q = some (.lst (flags wd)) → Q (.ref r) v.H)
theorem ok_l_refusal {f : Addr} {fd : FuncData} {C_Entry C_Within C_At C_Between C_Read C_Joint C_Sifted C_LogError C_NoBond C_NoEntry C_NoMinutes C_NoMoment C_NoName C_NoPlace C_NoReading C_Taken C_TooMany : Addr} (F : Fun K "_law_refusal" "_law_refusal" s_l_refusal f fd) (T : Txt K mg C_Entry C_Within C_At C_Between C_Read C_Joint C_Sifted C_LogError C_NoBond C_NoEntry C_NoMinutes C_NoMoment C_NoName C_NoPlace C_NoReading C_Taken C_TooMany) (c_l_made : Fnc P ww K mg base (L2.CX P ww) 7 "_law_made" (pr2 (p_l_made K (EC.mk C_Entry C_Within C_At C_Between C_Read C_Joint C_Sifted kdAll noKp) C_NoName C_NoMoment C_NoReading C_NoEntry C_TooMany))) : FnOk P ww K mg base CX0 8 f fd ["_law_kind", "_law_args"] (pr2 (p_l_refusal K (EC.mk C_Entry C_Within C_At C_Between C_Read C_Joint C_Sifted kdAll noKp) C_NoName C_NoMoment C_NoReading C_NoEntry C_TooMany)) := by
  refine F.ok sc_l_refusal (fun vs H Q E h => len2 h) (fun cdv A outer s H vs Q E hr h => ?_)
  obtain ⟨w, x0, x1,  rfl, rfl, h⟩ := h
  have ekT := ek_T (P := P) (ww := ww) (base := base) T
  have oex_NoBond := T.oex_NoBond; have xf_NoBond := T.xf_NoBond; have ec_NoBond := T.ec_NoBond; have xn_NoBond := T.xn_NoBond
  have oex_NoEntry := T.oex_NoEntry; have xf_NoEntry := T.xf_NoEntry; have ec_NoEntry := T.ec_NoEntry; have xn_NoEntry := T.xn_NoEntry
  have oex_NoMinutes := T.oex_NoMinutes; have xf_NoMinutes := T.xf_NoMinutes; have ec_NoMinutes := T.ec_NoMinutes; have xn_NoMinutes := T.xn_NoMinutes
  have oex_NoMoment := T.oex_NoMoment; have xf_NoMoment := T.xf_NoMoment; have ec_NoMoment := T.ec_NoMoment; have xn_NoMoment := T.xn_NoMoment
  have oex_NoName := T.oex_NoName; have xf_NoName := T.xf_NoName; have ec_NoName := T.ec_NoName; have xn_NoName := T.xn_NoName
  have oex_NoPlace := T.oex_NoPlace; have xf_NoPlace := T.xf_NoPlace; have ec_NoPlace := T.ec_NoPlace; have xn_NoPlace := T.xn_NoPlace
  have oex_NoReading := T.oex_NoReading; have xf_NoReading := T.xf_NoReading; have ec_NoReading := T.ec_NoReading; have xn_NoReading := T.xn_NoReading
  have oex_Taken := T.oex_Taken; have xf_Taken := T.xf_Taken; have ec_Taken := T.ec_Taken; have xn_Taken := T.xn_Taken
  have oex_TooMany := T.oex_TooMany; have xf_TooMany := T.xf_TooMany; have ec_TooMany := T.ec_TooMany; have xn_TooMany := T.xn_TooMany
  have rel_NoName_NoName := T.rel_NoName_NoName
  have rel_NoName_NoMoment := T.rel_NoName_NoMoment
  have rel_NoName_NoReading := T.rel_NoName_NoReading
  have rel_NoName_NoEntry := T.rel_NoName_NoEntry
  have rel_NoName_TooMany := T.rel_NoName_TooMany
  have rel_NoName_NoBond := T.rel_NoName_NoBond
  have rel_NoName_NoMinutes := T.rel_NoName_NoMinutes
  have rel_NoName_NoPlace := T.rel_NoName_NoPlace
  have rel_NoName_Taken := T.rel_NoName_Taken
  have rel_NoMoment_NoName := T.rel_NoMoment_NoName
  have rel_NoMoment_NoMoment := T.rel_NoMoment_NoMoment
  have rel_NoMoment_NoReading := T.rel_NoMoment_NoReading
  have rel_NoMoment_NoEntry := T.rel_NoMoment_NoEntry
  have rel_NoMoment_TooMany := T.rel_NoMoment_TooMany
  have rel_NoMoment_NoBond := T.rel_NoMoment_NoBond
  have rel_NoMoment_NoMinutes := T.rel_NoMoment_NoMinutes
  have rel_NoMoment_NoPlace := T.rel_NoMoment_NoPlace
  have rel_NoMoment_Taken := T.rel_NoMoment_Taken
  have rel_NoReading_NoName := T.rel_NoReading_NoName
  have rel_NoReading_NoMoment := T.rel_NoReading_NoMoment
  have rel_NoReading_NoReading := T.rel_NoReading_NoReading
  have rel_NoReading_NoEntry := T.rel_NoReading_NoEntry
  have rel_NoReading_TooMany := T.rel_NoReading_TooMany
  have rel_NoReading_NoBond := T.rel_NoReading_NoBond
  have rel_NoReading_NoMinutes := T.rel_NoReading_NoMinutes
  have rel_NoReading_NoPlace := T.rel_NoReading_NoPlace
  have rel_NoReading_Taken := T.rel_NoReading_Taken
  have rel_NoEntry_NoName := T.rel_NoEntry_NoName
  have rel_NoEntry_NoMoment := T.rel_NoEntry_NoMoment
  have rel_NoEntry_NoReading := T.rel_NoEntry_NoReading
  have rel_NoEntry_NoEntry := T.rel_NoEntry_NoEntry
  have rel_NoEntry_TooMany := T.rel_NoEntry_TooMany
  have rel_NoEntry_NoBond := T.rel_NoEntry_NoBond
  have rel_NoEntry_NoMinutes := T.rel_NoEntry_NoMinutes
  have rel_NoEntry_NoPlace := T.rel_NoEntry_NoPlace
  have rel_NoEntry_Taken := T.rel_NoEntry_Taken
  have rel_TooMany_NoName := T.rel_TooMany_NoName
  have rel_TooMany_NoMoment := T.rel_TooMany_NoMoment
  have rel_TooMany_NoReading := T.rel_TooMany_NoReading
  have rel_TooMany_NoEntry := T.rel_TooMany_NoEntry
  have rel_TooMany_TooMany := T.rel_TooMany_TooMany
  have rel_TooMany_NoBond := T.rel_TooMany_NoBond
  have rel_TooMany_NoMinutes := T.rel_TooMany_NoMinutes
  have rel_TooMany_NoPlace := T.rel_TooMany_NoPlace
  have rel_TooMany_Taken := T.rel_TooMany_Taken
  have rel_NoName_ValueError := T.rel_NoName_ValueError
  have rel_NoMoment_ValueError := T.rel_NoMoment_ValueError
  have rel_NoReading_ValueError := T.rel_NoReading_ValueError
  have rel_NoEntry_ValueError := T.rel_NoEntry_ValueError
  have rel_TooMany_ValueError := T.rel_TooMany_ValueError
  have exm_NoName_LogError := T.exm_NoName_LogError
  have exm_NoMoment_LogError := T.exm_NoMoment_LogError
  have exm_NoReading_LogError := T.exm_NoReading_LogError
  have exm_NoEntry_LogError := T.exm_NoEntry_LogError
  have exm_TooMany_LogError := T.exm_TooMany_LogError
  refine ⟨_, (pss_cons (ps_set (i := 2) sc_l_refusal.nd rfl (Or.inl rfl) pe_non)
      (pss_cons (ps_try_as (i := 3) rfl rfl sc_l_refusal.nd rfl rfl ⟨rfl, by decide, .inl T.g_LogError⟩ takes0 (fun W pn xe tk po => (pss_one (ps_expr (pe_fnX tk c_l_made hr (by decide) (pa_cons (pv 0) (pa_cons (pv 1) pa_nil)))))) (fun xa xo xc xd pn hz hf => (pss_cons (ps_set (i := 4) sc_l_refusal.nd rfl (Or.inl rfl) (pe_lst (pa_cons (pe_callB (call_isU (K := K) rfl hz hf) (by rfl) T.n_isinstance (by decide +kernel) (pa_cons (pv 3) (pa_cons (pe_glob (v := .ref C_NoName) (u := .ref C_NoName) rfl T.g_NoName rfl) pa_nil))) (pa_cons (pe_callB (call_isU (K := K) rfl hz hf) (by rfl) T.n_isinstance (by decide +kernel) (pa_cons (pv 3) (pa_cons (pe_glob (v := .ref C_NoMoment) (u := .ref C_NoMoment) rfl T.g_NoMoment rfl) pa_nil))) (pa_cons (pe_callB (call_isU (K := K) rfl hz hf) (by rfl) T.n_isinstance (by decide +kernel) (pa_cons (pv 3) (pa_cons (pe_glob (v := .ref C_NoReading) (u := .ref C_NoReading) rfl T.g_NoReading rfl) pa_nil))) (pa_cons (pe_callB (call_isU (K := K) rfl hz hf) (by rfl) T.n_isinstance (by decide +kernel) (pa_cons (pv 3) (pa_cons (pe_glob (v := .ref C_NoEntry) (u := .ref C_NoEntry) rfl T.g_NoEntry rfl) pa_nil))) pa_nil))))))
      (pss_cons (ps_set (i := 5) sc_l_refusal.nd rfl (Or.inl rfl) (pe_or (pe_callB (call_isUT (K := K) rfl hz hf) (by rfl) T.n_isinstance (by decide +kernel) (pa_cons (pv 3) (pa_cons (pe_tup (pa_cons (pe_glob (v := .ref C_NoBond) (u := .ref C_NoBond) rfl T.g_NoBond rfl) (pa_cons (pe_glob (v := .ref C_NoMinutes) (u := .ref C_NoMinutes) rfl T.g_NoMinutes rfl) (pa_cons (pe_glob (v := .ref C_NoPlace) (u := .ref C_NoPlace) rfl T.g_NoPlace rfl) (pa_cons (pe_glob (v := .ref C_Taken) (u := .ref C_Taken) rfl T.g_Taken rfl) pa_nil))))) pa_nil))) (pe_one (pe_not (pe_callB (call_isU (K := K) rfl hz hf) (by rfl) T.n_isinstance (by decide +kernel) (pa_cons (pv 3) (pa_cons (pe_bltn (v := .ty "ValueError") (u := .type "ValueError") rfl T.n_ValueError (by decide +kernel) rfl) pa_nil)))))))
      (pss_cons (ps_set (i := 2) sc_l_refusal.nd rfl (Or.inl rfl) (pe_lst (pa_cons (pe_op (kAdd K) (pv 4) (pe_lst (pa_cons (pe_callB (call_isU (K := K) rfl hz hf) (by rfl) T.n_isinstance (by decide +kernel) (pa_cons (pv 3) (pa_cons (pe_glob (v := .ref C_TooMany) (u := .ref C_TooMany) rfl T.g_TooMany rfl) pa_nil))) pa_nil))) (pa_cons (pv 5) (pa_cons pe_non pa_nil)))))
      (pss_cons (ps_if (pt_val (pe_callB (call_isUT (K := K) rfl hz hf) (by rfl) T.n_isinstance (by decide +kernel) (pa_cons (pv 3) (pa_cons (pe_tup (pa_cons (pe_glob (v := .ref C_NoName) (u := .ref C_NoName) rfl T.g_NoName rfl) (pa_cons (pe_glob (v := .ref C_NoMoment) (u := .ref C_NoMoment) rfl T.g_NoMoment rfl) (pa_cons (pe_glob (v := .ref C_NoReading) (u := .ref C_NoReading) rfl T.g_NoReading rfl) (pa_cons (pe_glob (v := .ref C_NoEntry) (u := .ref C_NoEntry) rfl T.g_NoEntry rfl) pa_nil))))) pa_nil)))) (pss_one (ps_asg (pe_xg (K := K) rfl hz hf (pv 3)) (pg_sub (pv 2) pe_int set_list))) pss_nil)
      (pss_one (ps_if (pt_val (pe_callB (call_isU (K := K) rfl hz hf) (by rfl) T.n_isinstance (by decide +kernel) (pa_cons (pv 3) (pa_cons (pe_glob (v := .ref C_TooMany) (u := .ref C_TooMany) rfl T.g_TooMany rfl) pa_nil)))) (pss_one (ps_asg (pe_xg (K := K) rfl hz hf (pv 3)) (pg_sub (pv 2) pe_int set_list))) pss_nil))))))))
      (pss_one (ps_ret (pv 2))))), ?_⟩
  rw [st_l_refusal]
  obtain ⟨k, p, vs, os, rfl, rfl, hp, ek, ha, k1, k2⟩ := h
  ((with_reducible refine s_seq ?_); (with_reducible refine s_asg ?_); (with_reducible refine s_c ?_); (with_reducible refine' s_gname ?q0 ?q1); (case q0 => simp only [ List.set_cons_succ , List.set_cons_zero ]; exact rfl); (with_reducible refine s_seq ?_); (with_reducible refine s_drop ?_); (with_reducible refine s_callX ?_); (with_reducible refine s_cons ?_); (with_reducible refine' s_var ?q2 ?q3); (case q2 => exact rfl); (with_reducible refine s_cons ?_); (with_reducible refine' s_var ?q4 ?q5); (case q4 => exact rfl); (with_reducible refine s_nil ?_); (with_reducible refine s_pr2 ?_))
  refine ⟨k, p, vs, os, rfl, rfl, hp, ek, ha, fun hn v r e => ?_, fun wd y hw v ex e n o => ?_⟩
  · ((with_reducible refine s_ret ?_); (with_reducible refine' s_var ?q6 ?q7); (case q6 => exact rfl))
    exact k1 hn _ e
  have k2 := k2 wd y hw
  clear k1 hw ha hp
  cases wd
  case nm =>
    dsimp only [Xs.of]
    have o : Own v ex (.xd [(Str.ofString "found", y)]) := o
    refine s_wAs exm_NoName_LogError fun xa hxa => ?_
    ((with_reducible refine s_seq ?_); (with_reducible refine s_asg ?_); (with_reducible refine t_lst ?_); (with_reducible refine s_cons ?_); (with_reducible refine s_CB ?_); (with_reducible refine s_cons ?_); (with_reducible refine' s_var ?q8 ?q9); (case q8 => exact rfl); (with_reducible refine s_cons ?_); (with_reducible refine s_c ?_); (with_reducible refine s_nil ?_); (with_reducible refine' s_isXc ?q10 ?q11 ?q12 ?q13); (case q10 => assumption); (case q11 => assumption); (case q12 => refine' Own.h ?q16; (case q16 => assumption)); (with_reducible refine s_cons ?_); (with_reducible refine s_CB ?_); (with_reducible refine s_cons ?_); (with_reducible refine' s_var ?q17 ?q18); (case q17 => exact rfl); (with_reducible refine s_cons ?_); (with_reducible refine s_c ?_); (with_reducible refine s_nil ?_); (with_reducible refine' s_isXc ?q19 ?q20 ?q21 ?q22); (case q19 => assumption); (case q20 => assumption); (case q21 => refine' Own.h ?q25; (case q25 => assumption)); (with_reducible refine s_cons ?_); (with_reducible refine s_CB ?_); (with_reducible refine s_cons ?_); (with_reducible refine' s_var ?q26 ?q27); (case q26 => exact rfl); (with_reducible refine s_cons ?_); (with_reducible refine s_c ?_); (with_reducible refine s_nil ?_); (with_reducible refine' s_isXc ?q28 ?q29 ?q30 ?q31); (case q28 => assumption); (case q29 => assumption); (case q30 => refine' Own.h ?q34; (case q34 => assumption)); (with_reducible refine s_cons ?_); (with_reducible refine s_CB ?_); (with_reducible refine s_cons ?_); (with_reducible refine' s_var ?q35 ?q36); (case q35 => exact rfl); (with_reducible refine s_cons ?_); (with_reducible refine s_c ?_); (with_reducible refine s_nil ?_); (with_reducible refine' s_isXc ?q37 ?q38 ?q39 ?q40); (case q37 => assumption); (case q38 => assumption); (case q39 => refine' Own.h ?q43; (case q43 => assumption)); (with_reducible refine s_nil ?_); (with_reducible refine' t_newLS ?q44 ?q45); (case q44 => simp only [ List.length , sizeLine_eq ]; omega); intro _ _ _ _ _; (with_reducible refine' s_gname ?q46 ?q47); (case q46 => simp only [ List.set_cons_succ , List.set_cons_zero ]; exact rfl); (with_reducible refine s_seq ?_); (with_reducible refine s_asg ?_); (with_reducible refine s_orV ?_); (with_reducible refine s_CB ?_); (with_reducible refine s_cons ?_); (with_reducible refine' s_var ?q48 ?q49); (case q48 => exact rfl); (with_reducible refine s_cons ?_); (with_reducible refine t_tup ?_); (with_reducible refine s_cons ?_); (with_reducible refine s_c ?_); (with_reducible refine s_cons ?_); (with_reducible refine s_c ?_); (with_reducible refine s_cons ?_); (with_reducible refine s_c ?_); (with_reducible refine s_cons ?_); (with_reducible refine s_c ?_); (with_reducible refine s_nil ?_); (with_reducible refine' t_newT ?q50 ?q51); (case q50 => simp only [ List.length , sizeLine_eq ]; omega); intro _ _ _ _ _; (with_reducible refine s_nil ?_); (with_reducible refine' s_isXT ?q52 ?q53 ?q54 ?q55 ?q56); (case q52 => assumption); (case q53 => assumption); (case q54 => refine' KitL.cons ?q57 ?q58; (case q57 => assumption); (case q58 => refine' KitL.cons ?q59 ?q60; (case q59 => assumption); (case q60 => refine' KitL.cons ?q61 ?q62; (case q61 => assumption); (case q62 => refine' KitL.cons ?q63 ?q64; (case q63 => assumption); (case q64 => exact KitL.nil))))); (case q55 => refine' Own.h ?q69; (case q69 => refine' Own.ext ( by assumption ) ?q70 ?q71; (case q70 => exact fun h => h); (case q71 => refine' Own.ext ( by assumption ) ?q72 ?q73; (case q72 => exact fun h => h); (case q73 => assumption)))); (with_reducible refine s_bl ?_))
    rw [show (false || (false || (false || (false || false)))) = false from rfl]
    ((with_reducible refine ite_ff ?_); (with_reducible refine s_notV ?_); (with_reducible refine s_CB ?_); (with_reducible refine s_cons ?_); (with_reducible refine' s_var ?q74 ?q75); (case q74 => exact rfl); (with_reducible refine s_cons ?_); (with_reducible refine s_c ?_); (with_reducible refine s_nil ?_); (with_reducible refine' s_isXt ?q76 ?q77 ?q78 ?q79); (case q76 => assumption); (case q77 => assumption); (case q78 => refine' Own.h ?q84; (case q84 => refine' Own.ext ( by assumption ) ?q85 ?q86; (case q85 => exact fun h => h); (case q86 => refine' Own.ext ( by assumption ) ?q87 ?q88; (case q87 => exact fun h => h); (case q88 => assumption)))); (with_reducible refine s_bl ?_); (with_reducible refine' s_gname ?q89 ?q90); (case q89 => simp only [ List.set_cons_succ , List.set_cons_zero ]; exact rfl); (with_reducible refine s_seq ?_); (with_reducible refine s_asg ?_); (with_reducible refine t_lst ?_); (with_reducible refine s_cons ?_); (with_reducible refine s_op ?_); (with_reducible refine' s_var ?q91 ?q92); (case q91 => exact rfl); (with_reducible refine t_lst ?_); (with_reducible refine s_cons ?_); (with_reducible refine s_CB ?_); (with_reducible refine s_cons ?_); (with_reducible refine' s_var ?q93 ?q94); (case q93 => exact rfl); (with_reducible refine s_cons ?_); (with_reducible refine s_c ?_); (with_reducible refine s_nil ?_); (with_reducible refine' s_isXc ?q95 ?q96 ?q97 ?q98); (case q95 => assumption); (case q96 => assumption); (case q97 => refine' Own.h ?q103; (case q103 => refine' Own.ext ( by assumption ) ?q104 ?q105; (case q104 => exact fun h => h); (case q105 => refine' Own.ext ( by assumption ) ?q106 ?q107; (case q106 => exact fun h => h); (case q107 => assumption)))); (with_reducible refine s_nil ?_); (with_reducible refine' t_newLS ?q108 ?q109); (case q108 => simp only [ List.length , sizeLine_eq ]; omega); intro _ _ _ _ _)
    refine' s_catS ?h10 ?h20 ?z0 fun q v5 e5 n5 s5 => ?_
    case h10 => (refine' Wd.ok _ _ _ ?q110; (case q110 => refine' st_go ( by assumption ) ?q111; (case q111 => refine' st_go ( by assumption ) ?q112; (case q112 => assumption))))
    case h20 => (refine' Wd.ok _ _ _ ?q113; (case q113 => assumption))
    case z0 => (simp only [ List.length_append , List.length_cons , List.length_nil , List.length_map , List.length_reverse , List.length_replicate , sizeLine_eq ]; omega)
    ((with_reducible refine s_cons ?_); (with_reducible refine' s_var ?q114 ?q115); (case q114 => exact rfl); (with_reducible refine s_cons ?_); (with_reducible refine s_c ?_); (with_reducible refine s_nil ?_); (with_reducible refine' t_newL ?q116 ?q117); (case q116 => simp only [ List.length , sizeLine_eq ]; omega); intro _ _ _ _ _; (with_reducible refine' s_gname ?q118 ?q119); (case q118 => simp only [ List.set_cons_succ , List.set_cons_zero ]; exact rfl); (with_reducible refine s_seq ?_); (with_reducible refine s_ifS ?_); (with_reducible refine s_B ?_); (with_reducible refine s_CB ?_); (with_reducible refine s_cons ?_); (with_reducible refine' s_var ?q120 ?q121); (case q120 => exact rfl); (with_reducible refine s_cons ?_); (with_reducible refine t_tup ?_); (with_reducible refine s_cons ?_); (with_reducible refine s_c ?_); (with_reducible refine s_cons ?_); (with_reducible refine s_c ?_); (with_reducible refine s_cons ?_); (with_reducible refine s_c ?_); (with_reducible refine s_cons ?_); (with_reducible refine s_c ?_); (with_reducible refine s_nil ?_); (with_reducible refine' t_newT ?q122 ?q123); (case q122 => simp only [ List.length , sizeLine_eq ]; omega); intro _ _ _ _ _; (with_reducible refine s_nil ?_); (with_reducible refine' s_isXT ?q124 ?q125 ?q126 ?q127 ?q128); (case q124 => assumption); (case q125 => assumption); (case q126 => refine' KitL.cons ?q129 ?q130; (case q129 => assumption); (case q130 => refine' KitL.cons ?q131 ?q132; (case q131 => assumption); (case q132 => refine' KitL.cons ?q133 ?q134; (case q133 => assumption); (case q134 => refine' KitL.cons ?q135 ?q136; (case q135 => assumption); (case q136 => exact KitL.nil))))); (case q127 => refine' Own.h ?q145; (case q145 => refine' Own.ext ( by assumption ) ?q146 ?q147; (case q146 => exact fun h => h); (case q147 => refine' Own.ext ( by assumption ) ?q148 ?q149; (case q148 => exact fun h => h); (case q149 => refine' Own.ext ( by assumption ) ?q150 ?q151; (case q150 => exact fun h => h); (case q151 => refine' Own.ext ( by assumption ) ?q152 ?q153; (case q152 => exact fun h => h); (case q153 => refine' Own.ext ( by assumption ) ?q154 ?q155; (case q154 => exact fun h => h); (case q155 => refine' Own.ext ( by assumption ) ?q156 ?q157; (case q156 => exact fun h => h); (case q157 => assumption)))))))); (with_reducible refine s_bl ?_))
    rw [show (true || (false || (false || (false || false)))) = true from rfl]
    ((with_reducible refine ite_tt ?_); (with_reducible refine s_asg ?_); (with_reducible refine s_xg ?_); (with_reducible refine' s_var ?q164 ?q165); (case q164 => exact rfl); (with_reducible refine' s_xgv ?q166 ?q167 ?q168 ?q169); (case q166 => refine' Own.h ?q178; (case q178 => refine' Own.ext ( by assumption ) ?q179 ?q180; (case q179 => exact fun h => h); (case q180 => refine' Own.ext ( by assumption ) ?q181 ?q182; (case q181 => exact fun h => h); (case q182 => refine' Own.ext ( by assumption ) ?q183 ?q184; (case q183 => exact fun h => h); (case q184 => refine' Own.ext ( by assumption ) ?q185 ?q186; (case q185 => exact fun h => h); (case q186 => refine' Own.ext ( by assumption ) ?q187 ?q188; (case q187 => exact fun h => h); (case q188 => refine' Own.ext ( by assumption ) ?q189 ?q190; (case q189 => exact fun h => h); (case q190 => assumption)))))))); (case q167 => assumption); (case q168 => assumption); (with_reducible refine s_gsub ?_); (with_reducible refine' s_var ?q191 ?q192); (case q191 => exact rfl); (with_reducible refine s_c ?_); (with_reducible refine' s_setL ?q193 ?q194 ?q195); (case q193 => refine' Own.ext ( by assumption ) ?q196 ?q197; (case q196 => exact fun h => h); (case q197 => assumption)); (case q194 => exact rfl); intro _ _ _; (with_reducible refine s_ifS ?_); (with_reducible refine s_B ?_); (with_reducible refine s_CB ?_); (with_reducible refine s_cons ?_); (with_reducible refine' s_var ?q198 ?q199); (case q198 => exact rfl); (with_reducible refine s_cons ?_); (with_reducible refine s_c ?_); (with_reducible refine s_nil ?_); (with_reducible refine' s_isXc ?q200 ?q201 ?q202 ?q203); (case q200 => assumption); (case q201 => assumption); (case q202 => refine' Own.h ?q213; (case q213 => refine' Own.ext ( by assumption ) ?q214 ?q215; (case q214 => refine nm_one ?_; refine' Own.ne ?q230 ?q231; (case q231 => assumption); (case q230 => refine' Own.ext ( by assumption ) ?q232 ?q233; (case q232 => exact fun h => h); (case q233 => refine' Own.ext ( by assumption ) ?q234 ?q235; (case q234 => exact fun h => h); (case q235 => refine' Own.ext ( by assumption ) ?q236 ?q237; (case q236 => exact fun h => h); (case q237 => refine' Own.ext ( by assumption ) ?q238 ?q239; (case q238 => exact fun h => h); (case q239 => assumption)))))); (case q215 => refine' Own.ext ( by assumption ) ?q240 ?q241; (case q240 => exact fun h => h); (case q241 => refine' Own.ext ( by assumption ) ?q242 ?q243; (case q242 => exact fun h => h); (case q243 => refine' Own.ext ( by assumption ) ?q244 ?q245; (case q244 => exact fun h => h); (case q245 => refine' Own.ext ( by assumption ) ?q246 ?q247; (case q246 => exact fun h => h); (case q247 => refine' Own.ext ( by assumption ) ?q248 ?q249; (case q248 => exact fun h => h); (case q249 => refine' Own.ext ( by assumption ) ?q250 ?q251; (case q250 => exact fun h => h); (case q251 => assumption))))))))); (with_reducible refine s_bl ?_); (with_reducible refine ite_ff ?_); (with_reducible refine s_next ?_); (with_reducible refine s_ret ?_); (with_reducible refine' s_var ?q252 ?q253); (case q252 => exact rfl))
    rename_i p7 v7 e7 n7 o7 p8 v8 e8 n8 s8 v9 e9 o9
    have s5 : v5.S q = some (.lst (flags .nm)) := s5
    have e5w : Ext Non w v5 := by (refine' Ext.step ?q254 ?q255 ?q256; (case q255 => assumption); (case q254 => refine' Ext.step ?q257 ?q258 ?q259; (case q258 => assumption); (case q257 => refine' Ext.step ?q260 ?q261 ?q262; (case q261 => assumption); (case q260 => refine' Ext.step ?q263 ?q264 ?q265; (case q264 => assumption); (case q263 => assumption); (case q265 => exact fun _ z => z.elim)); (case q262 => exact fun _ z => z.elim)); (case q259 => exact fun _ z => z.elim)); (case q256 => exact fun _ z => z.elim))
    have nw : w.H p7 = none := e5w.back n7
    have e79 : Ext Non w v9 := (e5w.trans (e7.trans e8)).step e9 fun b hb => .inl (by rw [show b = p7 from hb]; exact nw)
    refine lay (R := fun H => Q (V.ref p7) H) o9 fun u eu su => ?_
    exact k2 u p7 q (e79.step eu fun b hb => .inl (by rw [show b = p7 from hb]; exact nw)) su (st_go eu (st_go e9 (st_go e8 (st_go e7 s5))))
  case mo =>
    dsimp only [Xs.of]
    have o : Own v ex (.xd [(Str.ofString "found", y)]) := o
    refine s_wAs exm_NoMoment_LogError fun xa hxa => ?_
    ((with_reducible refine s_seq ?_); (with_reducible refine s_asg ?_); (with_reducible refine t_lst ?_); (with_reducible refine s_cons ?_); (with_reducible refine s_CB ?_); (with_reducible refine s_cons ?_); (with_reducible refine' s_var ?q266 ?q267); (case q266 => exact rfl); (with_reducible refine s_cons ?_); (with_reducible refine s_c ?_); (with_reducible refine s_nil ?_); (with_reducible refine' s_isXc ?q268 ?q269 ?q270 ?q271); (case q268 => assumption); (case q269 => assumption); (case q270 => refine' Own.h ?q274; (case q274 => assumption)); (with_reducible refine s_cons ?_); (with_reducible refine s_CB ?_); (with_reducible refine s_cons ?_); (with_reducible refine' s_var ?q275 ?q276); (case q275 => exact rfl); (with_reducible refine s_cons ?_); (with_reducible refine s_c ?_); (with_reducible refine s_nil ?_); (with_reducible refine' s_isXc ?q277 ?q278 ?q279 ?q280); (case q277 => assumption); (case q278 => assumption); (case q279 => refine' Own.h ?q283; (case q283 => assumption)); (with_reducible refine s_cons ?_); (with_reducible refine s_CB ?_); (with_reducible refine s_cons ?_); (with_reducible refine' s_var ?q284 ?q285); (case q284 => exact rfl); (with_reducible refine s_cons ?_); (with_reducible refine s_c ?_); (with_reducible refine s_nil ?_); (with_reducible refine' s_isXc ?q286 ?q287 ?q288 ?q289); (case q286 => assumption); (case q287 => assumption); (case q288 => refine' Own.h ?q292; (case q292 => assumption)); (with_reducible refine s_cons ?_); (with_reducible refine s_CB ?_); (with_reducible refine s_cons ?_); (with_reducible refine' s_var ?q293 ?q294); (case q293 => exact rfl); (with_reducible refine s_cons ?_); (with_reducible refine s_c ?_); (with_reducible refine s_nil ?_); (with_reducible refine' s_isXc ?q295 ?q296 ?q297 ?q298); (case q295 => assumption); (case q296 => assumption); (case q297 => refine' Own.h ?q301; (case q301 => assumption)); (with_reducible refine s_nil ?_); (with_reducible refine' t_newLS ?q302 ?q303); (case q302 => simp only [ List.length , sizeLine_eq ]; omega); intro _ _ _ _ _; (with_reducible refine' s_gname ?q304 ?q305); (case q304 => simp only [ List.set_cons_succ , List.set_cons_zero ]; exact rfl); (with_reducible refine s_seq ?_); (with_reducible refine s_asg ?_); (with_reducible refine s_orV ?_); (with_reducible refine s_CB ?_); (with_reducible refine s_cons ?_); (with_reducible refine' s_var ?q306 ?q307); (case q306 => exact rfl); (with_reducible refine s_cons ?_); (with_reducible refine t_tup ?_); (with_reducible refine s_cons ?_); (with_reducible refine s_c ?_); (with_reducible refine s_cons ?_); (with_reducible refine s_c ?_); (with_reducible refine s_cons ?_); (with_reducible refine s_c ?_); (with_reducible refine s_cons ?_); (with_reducible refine s_c ?_); (with_reducible refine s_nil ?_); (with_reducible refine' t_newT ?q308 ?q309); (case q308 => simp only [ List.length , sizeLine_eq ]; omega); intro _ _ _ _ _; (with_reducible refine s_nil ?_); (with_reducible refine' s_isXT ?q310 ?q311 ?q312 ?q313 ?q314); (case q310 => assumption); (case q311 => assumption); (case q312 => refine' KitL.cons ?q315 ?q316; (case q315 => assumption); (case q316 => refine' KitL.cons ?q317 ?q318; (case q317 => assumption); (case q318 => refine' KitL.cons ?q319 ?q320; (case q319 => assumption); (case q320 => refine' KitL.cons ?q321 ?q322; (case q321 => assumption); (case q322 => exact KitL.nil))))); (case q313 => refine' Own.h ?q327; (case q327 => refine' Own.ext ( by assumption ) ?q328 ?q329; (case q328 => exact fun h => h); (case q329 => refine' Own.ext ( by assumption ) ?q330 ?q331; (case q330 => exact fun h => h); (case q331 => assumption)))); (with_reducible refine s_bl ?_))
    rw [show (false || (false || (false || (false || false)))) = false from rfl]
    ((with_reducible refine ite_ff ?_); (with_reducible refine s_notV ?_); (with_reducible refine s_CB ?_); (with_reducible refine s_cons ?_); (with_reducible refine' s_var ?q332 ?q333); (case q332 => exact rfl); (with_reducible refine s_cons ?_); (with_reducible refine s_c ?_); (with_reducible refine s_nil ?_); (with_reducible refine' s_isXt ?q334 ?q335 ?q336 ?q337); (case q334 => assumption); (case q335 => assumption); (case q336 => refine' Own.h ?q342; (case q342 => refine' Own.ext ( by assumption ) ?q343 ?q344; (case q343 => exact fun h => h); (case q344 => refine' Own.ext ( by assumption ) ?q345 ?q346; (case q345 => exact fun h => h); (case q346 => assumption)))); (with_reducible refine s_bl ?_); (with_reducible refine' s_gname ?q347 ?q348); (case q347 => simp only [ List.set_cons_succ , List.set_cons_zero ]; exact rfl); (with_reducible refine s_seq ?_); (with_reducible refine s_asg ?_); (with_reducible refine t_lst ?_); (with_reducible refine s_cons ?_); (with_reducible refine s_op ?_); (with_reducible refine' s_var ?q349 ?q350); (case q349 => exact rfl); (with_reducible refine t_lst ?_); (with_reducible refine s_cons ?_); (with_reducible refine s_CB ?_); (with_reducible refine s_cons ?_); (with_reducible refine' s_var ?q351 ?q352); (case q351 => exact rfl); (with_reducible refine s_cons ?_); (with_reducible refine s_c ?_); (with_reducible refine s_nil ?_); (with_reducible refine' s_isXc ?q353 ?q354 ?q355 ?q356); (case q353 => assumption); (case q354 => assumption); (case q355 => refine' Own.h ?q361; (case q361 => refine' Own.ext ( by assumption ) ?q362 ?q363; (case q362 => exact fun h => h); (case q363 => refine' Own.ext ( by assumption ) ?q364 ?q365; (case q364 => exact fun h => h); (case q365 => assumption)))); (with_reducible refine s_nil ?_); (with_reducible refine' t_newLS ?q366 ?q367); (case q366 => simp only [ List.length , sizeLine_eq ]; omega); intro _ _ _ _ _)
    refine' s_catS ?h11 ?h21 ?z1 fun q v5 e5 n5 s5 => ?_
    case h11 => (refine' Wd.ok _ _ _ ?q368; (case q368 => refine' st_go ( by assumption ) ?q369; (case q369 => refine' st_go ( by assumption ) ?q370; (case q370 => assumption))))
    case h21 => (refine' Wd.ok _ _ _ ?q371; (case q371 => assumption))
    case z1 => (simp only [ List.length_append , List.length_cons , List.length_nil , List.length_map , List.length_reverse , List.length_replicate , sizeLine_eq ]; omega)
    ((with_reducible refine s_cons ?_); (with_reducible refine' s_var ?q372 ?q373); (case q372 => exact rfl); (with_reducible refine s_cons ?_); (with_reducible refine s_c ?_); (with_reducible refine s_nil ?_); (with_reducible refine' t_newL ?q374 ?q375); (case q374 => simp only [ List.length , sizeLine_eq ]; omega); intro _ _ _ _ _; (with_reducible refine' s_gname ?q376 ?q377); (case q376 => simp only [ List.set_cons_succ , List.set_cons_zero ]; exact rfl); (with_reducible refine s_seq ?_); (with_reducible refine s_ifS ?_); (with_reducible refine s_B ?_); (with_reducible refine s_CB ?_); (with_reducible refine s_cons ?_); (with_reducible refine' s_var ?q378 ?q379); (case q378 => exact rfl); (with_reducible refine s_cons ?_); (with_reducible refine t_tup ?_); (with_reducible refine s_cons ?_); (with_reducible refine s_c ?_); (with_reducible refine s_cons ?_); (with_reducible refine s_c ?_); (with_reducible refine s_cons ?_); (with_reducible refine s_c ?_); (with_reducible refine s_cons ?_); (with_reducible refine s_c ?_); (with_reducible refine s_nil ?_); (with_reducible refine' t_newT ?q380 ?q381); (case q380 => simp only [ List.length , sizeLine_eq ]; omega); intro _ _ _ _ _; (with_reducible refine s_nil ?_); (with_reducible refine' s_isXT ?q382 ?q383 ?q384 ?q385 ?q386); (case q382 => assumption); (case q383 => assumption); (case q384 => refine' KitL.cons ?q387 ?q388; (case q387 => assumption); (case q388 => refine' KitL.cons ?q389 ?q390; (case q389 => assumption); (case q390 => refine' KitL.cons ?q391 ?q392; (case q391 => assumption); (case q392 => refine' KitL.cons ?q393 ?q394; (case q393 => assumption); (case q394 => exact KitL.nil))))); (case q385 => refine' Own.h ?q403; (case q403 => refine' Own.ext ( by assumption ) ?q404 ?q405; (case q404 => exact fun h => h); (case q405 => refine' Own.ext ( by assumption ) ?q406 ?q407; (case q406 => exact fun h => h); (case q407 => refine' Own.ext ( by assumption ) ?q408 ?q409; (case q408 => exact fun h => h); (case q409 => refine' Own.ext ( by assumption ) ?q410 ?q411; (case q410 => exact fun h => h); (case q411 => refine' Own.ext ( by assumption ) ?q412 ?q413; (case q412 => exact fun h => h); (case q413 => refine' Own.ext ( by assumption ) ?q414 ?q415; (case q414 => exact fun h => h); (case q415 => assumption)))))))); (with_reducible refine s_bl ?_))
    rw [show (false || (true || (false || (false || false)))) = true from rfl]
    ((with_reducible refine ite_tt ?_); (with_reducible refine s_asg ?_); (with_reducible refine s_xg ?_); (with_reducible refine' s_var ?q422 ?q423); (case q422 => exact rfl); (with_reducible refine' s_xgv ?q424 ?q425 ?q426 ?q427); (case q424 => refine' Own.h ?q436; (case q436 => refine' Own.ext ( by assumption ) ?q437 ?q438; (case q437 => exact fun h => h); (case q438 => refine' Own.ext ( by assumption ) ?q439 ?q440; (case q439 => exact fun h => h); (case q440 => refine' Own.ext ( by assumption ) ?q441 ?q442; (case q441 => exact fun h => h); (case q442 => refine' Own.ext ( by assumption ) ?q443 ?q444; (case q443 => exact fun h => h); (case q444 => refine' Own.ext ( by assumption ) ?q445 ?q446; (case q445 => exact fun h => h); (case q446 => refine' Own.ext ( by assumption ) ?q447 ?q448; (case q447 => exact fun h => h); (case q448 => assumption)))))))); (case q425 => assumption); (case q426 => assumption); (with_reducible refine s_gsub ?_); (with_reducible refine' s_var ?q449 ?q450); (case q449 => exact rfl); (with_reducible refine s_c ?_); (with_reducible refine' s_setL ?q451 ?q452 ?q453); (case q451 => refine' Own.ext ( by assumption ) ?q454 ?q455; (case q454 => exact fun h => h); (case q455 => assumption)); (case q452 => exact rfl); intro _ _ _; (with_reducible refine s_ifS ?_); (with_reducible refine s_B ?_); (with_reducible refine s_CB ?_); (with_reducible refine s_cons ?_); (with_reducible refine' s_var ?q456 ?q457); (case q456 => exact rfl); (with_reducible refine s_cons ?_); (with_reducible refine s_c ?_); (with_reducible refine s_nil ?_); (with_reducible refine' s_isXc ?q458 ?q459 ?q460 ?q461); (case q458 => assumption); (case q459 => assumption); (case q460 => refine' Own.h ?q471; (case q471 => refine' Own.ext ( by assumption ) ?q472 ?q473; (case q472 => refine nm_one ?_; refine' Own.ne ?q488 ?q489; (case q489 => assumption); (case q488 => refine' Own.ext ( by assumption ) ?q490 ?q491; (case q490 => exact fun h => h); (case q491 => refine' Own.ext ( by assumption ) ?q492 ?q493; (case q492 => exact fun h => h); (case q493 => refine' Own.ext ( by assumption ) ?q494 ?q495; (case q494 => exact fun h => h); (case q495 => refine' Own.ext ( by assumption ) ?q496 ?q497; (case q496 => exact fun h => h); (case q497 => assumption)))))); (case q473 => refine' Own.ext ( by assumption ) ?q498 ?q499; (case q498 => exact fun h => h); (case q499 => refine' Own.ext ( by assumption ) ?q500 ?q501; (case q500 => exact fun h => h); (case q501 => refine' Own.ext ( by assumption ) ?q502 ?q503; (case q502 => exact fun h => h); (case q503 => refine' Own.ext ( by assumption ) ?q504 ?q505; (case q504 => exact fun h => h); (case q505 => refine' Own.ext ( by assumption ) ?q506 ?q507; (case q506 => exact fun h => h); (case q507 => refine' Own.ext ( by assumption ) ?q508 ?q509; (case q508 => exact fun h => h); (case q509 => assumption))))))))); (with_reducible refine s_bl ?_); (with_reducible refine ite_ff ?_); (with_reducible refine s_next ?_); (with_reducible refine s_ret ?_); (with_reducible refine' s_var ?q510 ?q511); (case q510 => exact rfl))
    rename_i p7 v7 e7 n7 o7 p8 v8 e8 n8 s8 v9 e9 o9
    have s5 : v5.S q = some (.lst (flags .mo)) := s5
    have e5w : Ext Non w v5 := by (refine' Ext.step ?q512 ?q513 ?q514; (case q513 => assumption); (case q512 => refine' Ext.step ?q515 ?q516 ?q517; (case q516 => assumption); (case q515 => refine' Ext.step ?q518 ?q519 ?q520; (case q519 => assumption); (case q518 => refine' Ext.step ?q521 ?q522 ?q523; (case q522 => assumption); (case q521 => assumption); (case q523 => exact fun _ z => z.elim)); (case q520 => exact fun _ z => z.elim)); (case q517 => exact fun _ z => z.elim)); (case q514 => exact fun _ z => z.elim))
    have nw : w.H p7 = none := e5w.back n7
    have e79 : Ext Non w v9 := (e5w.trans (e7.trans e8)).step e9 fun b hb => .inl (by rw [show b = p7 from hb]; exact nw)
    refine lay (R := fun H => Q (V.ref p7) H) o9 fun u eu su => ?_
    exact k2 u p7 q (e79.step eu fun b hb => .inl (by rw [show b = p7 from hb]; exact nw)) su (st_go eu (st_go e9 (st_go e8 (st_go e7 s5))))
  case rd =>
    dsimp only [Xs.of]
    have o : Own v ex (.xd [(Str.ofString "found", y)]) := o
    refine s_wAs exm_NoReading_LogError fun xa hxa => ?_
    ((with_reducible refine s_seq ?_); (with_reducible refine s_asg ?_); (with_reducible refine t_lst ?_); (with_reducible refine s_cons ?_); (with_reducible refine s_CB ?_); (with_reducible refine s_cons ?_); (with_reducible refine' s_var ?q524 ?q525); (case q524 => exact rfl); (with_reducible refine s_cons ?_); (with_reducible refine s_c ?_); (with_reducible refine s_nil ?_); (with_reducible refine' s_isXc ?q526 ?q527 ?q528 ?q529); (case q526 => assumption); (case q527 => assumption); (case q528 => refine' Own.h ?q532; (case q532 => assumption)); (with_reducible refine s_cons ?_); (with_reducible refine s_CB ?_); (with_reducible refine s_cons ?_); (with_reducible refine' s_var ?q533 ?q534); (case q533 => exact rfl); (with_reducible refine s_cons ?_); (with_reducible refine s_c ?_); (with_reducible refine s_nil ?_); (with_reducible refine' s_isXc ?q535 ?q536 ?q537 ?q538); (case q535 => assumption); (case q536 => assumption); (case q537 => refine' Own.h ?q541; (case q541 => assumption)); (with_reducible refine s_cons ?_); (with_reducible refine s_CB ?_); (with_reducible refine s_cons ?_); (with_reducible refine' s_var ?q542 ?q543); (case q542 => exact rfl); (with_reducible refine s_cons ?_); (with_reducible refine s_c ?_); (with_reducible refine s_nil ?_); (with_reducible refine' s_isXc ?q544 ?q545 ?q546 ?q547); (case q544 => assumption); (case q545 => assumption); (case q546 => refine' Own.h ?q550; (case q550 => assumption)); (with_reducible refine s_cons ?_); (with_reducible refine s_CB ?_); (with_reducible refine s_cons ?_); (with_reducible refine' s_var ?q551 ?q552); (case q551 => exact rfl); (with_reducible refine s_cons ?_); (with_reducible refine s_c ?_); (with_reducible refine s_nil ?_); (with_reducible refine' s_isXc ?q553 ?q554 ?q555 ?q556); (case q553 => assumption); (case q554 => assumption); (case q555 => refine' Own.h ?q559; (case q559 => assumption)); (with_reducible refine s_nil ?_); (with_reducible refine' t_newLS ?q560 ?q561); (case q560 => simp only [ List.length , sizeLine_eq ]; omega); intro _ _ _ _ _; (with_reducible refine' s_gname ?q562 ?q563); (case q562 => simp only [ List.set_cons_succ , List.set_cons_zero ]; exact rfl); (with_reducible refine s_seq ?_); (with_reducible refine s_asg ?_); (with_reducible refine s_orV ?_); (with_reducible refine s_CB ?_); (with_reducible refine s_cons ?_); (with_reducible refine' s_var ?q564 ?q565); (case q564 => exact rfl); (with_reducible refine s_cons ?_); (with_reducible refine t_tup ?_); (with_reducible refine s_cons ?_); (with_reducible refine s_c ?_); (with_reducible refine s_cons ?_); (with_reducible refine s_c ?_); (with_reducible refine s_cons ?_); (with_reducible refine s_c ?_); (with_reducible refine s_cons ?_); (with_reducible refine s_c ?_); (with_reducible refine s_nil ?_); (with_reducible refine' t_newT ?q566 ?q567); (case q566 => simp only [ List.length , sizeLine_eq ]; omega); intro _ _ _ _ _; (with_reducible refine s_nil ?_); (with_reducible refine' s_isXT ?q568 ?q569 ?q570 ?q571 ?q572); (case q568 => assumption); (case q569 => assumption); (case q570 => refine' KitL.cons ?q573 ?q574; (case q573 => assumption); (case q574 => refine' KitL.cons ?q575 ?q576; (case q575 => assumption); (case q576 => refine' KitL.cons ?q577 ?q578; (case q577 => assumption); (case q578 => refine' KitL.cons ?q579 ?q580; (case q579 => assumption); (case q580 => exact KitL.nil))))); (case q571 => refine' Own.h ?q585; (case q585 => refine' Own.ext ( by assumption ) ?q586 ?q587; (case q586 => exact fun h => h); (case q587 => refine' Own.ext ( by assumption ) ?q588 ?q589; (case q588 => exact fun h => h); (case q589 => assumption)))); (with_reducible refine s_bl ?_))
    rw [show (false || (false || (false || (false || false)))) = false from rfl]
    ((with_reducible refine ite_ff ?_); (with_reducible refine s_notV ?_); (with_reducible refine s_CB ?_); (with_reducible refine s_cons ?_); (with_reducible refine' s_var ?q590 ?q591); (case q590 => exact rfl); (with_reducible refine s_cons ?_); (with_reducible refine s_c ?_); (with_reducible refine s_nil ?_); (with_reducible refine' s_isXt ?q592 ?q593 ?q594 ?q595); (case q592 => assumption); (case q593 => assumption); (case q594 => refine' Own.h ?q600; (case q600 => refine' Own.ext ( by assumption ) ?q601 ?q602; (case q601 => exact fun h => h); (case q602 => refine' Own.ext ( by assumption ) ?q603 ?q604; (case q603 => exact fun h => h); (case q604 => assumption)))); (with_reducible refine s_bl ?_); (with_reducible refine' s_gname ?q605 ?q606); (case q605 => simp only [ List.set_cons_succ , List.set_cons_zero ]; exact rfl); (with_reducible refine s_seq ?_); (with_reducible refine s_asg ?_); (with_reducible refine t_lst ?_); (with_reducible refine s_cons ?_); (with_reducible refine s_op ?_); (with_reducible refine' s_var ?q607 ?q608); (case q607 => exact rfl); (with_reducible refine t_lst ?_); (with_reducible refine s_cons ?_); (with_reducible refine s_CB ?_); (with_reducible refine s_cons ?_); (with_reducible refine' s_var ?q609 ?q610); (case q609 => exact rfl); (with_reducible refine s_cons ?_); (with_reducible refine s_c ?_); (with_reducible refine s_nil ?_); (with_reducible refine' s_isXc ?q611 ?q612 ?q613 ?q614); (case q611 => assumption); (case q612 => assumption); (case q613 => refine' Own.h ?q619; (case q619 => refine' Own.ext ( by assumption ) ?q620 ?q621; (case q620 => exact fun h => h); (case q621 => refine' Own.ext ( by assumption ) ?q622 ?q623; (case q622 => exact fun h => h); (case q623 => assumption)))); (with_reducible refine s_nil ?_); (with_reducible refine' t_newLS ?q624 ?q625); (case q624 => simp only [ List.length , sizeLine_eq ]; omega); intro _ _ _ _ _)
    refine' s_catS ?h12 ?h22 ?z2 fun q v5 e5 n5 s5 => ?_
    case h12 => (refine' Wd.ok _ _ _ ?q626; (case q626 => refine' st_go ( by assumption ) ?q627; (case q627 => refine' st_go ( by assumption ) ?q628; (case q628 => assumption))))
    case h22 => (refine' Wd.ok _ _ _ ?q629; (case q629 => assumption))
    case z2 => (simp only [ List.length_append , List.length_cons , List.length_nil , List.length_map , List.length_reverse , List.length_replicate , sizeLine_eq ]; omega)
    ((with_reducible refine s_cons ?_); (with_reducible refine' s_var ?q630 ?q631); (case q630 => exact rfl); (with_reducible refine s_cons ?_); (with_reducible refine s_c ?_); (with_reducible refine s_nil ?_); (with_reducible refine' t_newL ?q632 ?q633); (case q632 => simp only [ List.length , sizeLine_eq ]; omega); intro _ _ _ _ _; (with_reducible refine' s_gname ?q634 ?q635); (case q634 => simp only [ List.set_cons_succ , List.set_cons_zero ]; exact rfl); (with_reducible refine s_seq ?_); (with_reducible refine s_ifS ?_); (with_reducible refine s_B ?_); (with_reducible refine s_CB ?_); (with_reducible refine s_cons ?_); (with_reducible refine' s_var ?q636 ?q637); (case q636 => exact rfl); (with_reducible refine s_cons ?_); (with_reducible refine t_tup ?_); (with_reducible refine s_cons ?_); (with_reducible refine s_c ?_); (with_reducible refine s_cons ?_); (with_reducible refine s_c ?_); (with_reducible refine s_cons ?_); (with_reducible refine s_c ?_); (with_reducible refine s_cons ?_); (with_reducible refine s_c ?_); (with_reducible refine s_nil ?_); (with_reducible refine' t_newT ?q638 ?q639); (case q638 => simp only [ List.length , sizeLine_eq ]; omega); intro _ _ _ _ _; (with_reducible refine s_nil ?_); (with_reducible refine' s_isXT ?q640 ?q641 ?q642 ?q643 ?q644); (case q640 => assumption); (case q641 => assumption); (case q642 => refine' KitL.cons ?q645 ?q646; (case q645 => assumption); (case q646 => refine' KitL.cons ?q647 ?q648; (case q647 => assumption); (case q648 => refine' KitL.cons ?q649 ?q650; (case q649 => assumption); (case q650 => refine' KitL.cons ?q651 ?q652; (case q651 => assumption); (case q652 => exact KitL.nil))))); (case q643 => refine' Own.h ?q661; (case q661 => refine' Own.ext ( by assumption ) ?q662 ?q663; (case q662 => exact fun h => h); (case q663 => refine' Own.ext ( by assumption ) ?q664 ?q665; (case q664 => exact fun h => h); (case q665 => refine' Own.ext ( by assumption ) ?q666 ?q667; (case q666 => exact fun h => h); (case q667 => refine' Own.ext ( by assumption ) ?q668 ?q669; (case q668 => exact fun h => h); (case q669 => refine' Own.ext ( by assumption ) ?q670 ?q671; (case q670 => exact fun h => h); (case q671 => refine' Own.ext ( by assumption ) ?q672 ?q673; (case q672 => exact fun h => h); (case q673 => assumption)))))))); (with_reducible refine s_bl ?_))
    rw [show (false || (false || (true || (false || false)))) = true from rfl]
    ((with_reducible refine ite_tt ?_); (with_reducible refine s_asg ?_); (with_reducible refine s_xg ?_); (with_reducible refine' s_var ?q680 ?q681); (case q680 => exact rfl); (with_reducible refine' s_xgv ?q682 ?q683 ?q684 ?q685); (case q682 => refine' Own.h ?q694; (case q694 => refine' Own.ext ( by assumption ) ?q695 ?q696; (case q695 => exact fun h => h); (case q696 => refine' Own.ext ( by assumption ) ?q697 ?q698; (case q697 => exact fun h => h); (case q698 => refine' Own.ext ( by assumption ) ?q699 ?q700; (case q699 => exact fun h => h); (case q700 => refine' Own.ext ( by assumption ) ?q701 ?q702; (case q701 => exact fun h => h); (case q702 => refine' Own.ext ( by assumption ) ?q703 ?q704; (case q703 => exact fun h => h); (case q704 => refine' Own.ext ( by assumption ) ?q705 ?q706; (case q705 => exact fun h => h); (case q706 => assumption)))))))); (case q683 => assumption); (case q684 => assumption); (with_reducible refine s_gsub ?_); (with_reducible refine' s_var ?q707 ?q708); (case q707 => exact rfl); (with_reducible refine s_c ?_); (with_reducible refine' s_setL ?q709 ?q710 ?q711); (case q709 => refine' Own.ext ( by assumption ) ?q712 ?q713; (case q712 => exact fun h => h); (case q713 => assumption)); (case q710 => exact rfl); intro _ _ _; (with_reducible refine s_ifS ?_); (with_reducible refine s_B ?_); (with_reducible refine s_CB ?_); (with_reducible refine s_cons ?_); (with_reducible refine' s_var ?q714 ?q715); (case q714 => exact rfl); (with_reducible refine s_cons ?_); (with_reducible refine s_c ?_); (with_reducible refine s_nil ?_); (with_reducible refine' s_isXc ?q716 ?q717 ?q718 ?q719); (case q716 => assumption); (case q717 => assumption); (case q718 => refine' Own.h ?q729; (case q729 => refine' Own.ext ( by assumption ) ?q730 ?q731; (case q730 => refine nm_one ?_; refine' Own.ne ?q746 ?q747; (case q747 => assumption); (case q746 => refine' Own.ext ( by assumption ) ?q748 ?q749; (case q748 => exact fun h => h); (case q749 => refine' Own.ext ( by assumption ) ?q750 ?q751; (case q750 => exact fun h => h); (case q751 => refine' Own.ext ( by assumption ) ?q752 ?q753; (case q752 => exact fun h => h); (case q753 => refine' Own.ext ( by assumption ) ?q754 ?q755; (case q754 => exact fun h => h); (case q755 => assumption)))))); (case q731 => refine' Own.ext ( by assumption ) ?q756 ?q757; (case q756 => exact fun h => h); (case q757 => refine' Own.ext ( by assumption ) ?q758 ?q759; (case q758 => exact fun h => h); (case q759 => refine' Own.ext ( by assumption ) ?q760 ?q761; (case q760 => exact fun h => h); (case q761 => refine' Own.ext ( by assumption ) ?q762 ?q763; (case q762 => exact fun h => h); (case q763 => refine' Own.ext ( by assumption ) ?q764 ?q765; (case q764 => exact fun h => h); (case q765 => refine' Own.ext ( by assumption ) ?q766 ?q767; (case q766 => exact fun h => h); (case q767 => assumption))))))))); (with_reducible refine s_bl ?_); (with_reducible refine ite_ff ?_); (with_reducible refine s_next ?_); (with_reducible refine s_ret ?_); (with_reducible refine' s_var ?q768 ?q769); (case q768 => exact rfl))
    rename_i p7 v7 e7 n7 o7 p8 v8 e8 n8 s8 v9 e9 o9
    have s5 : v5.S q = some (.lst (flags .rd)) := s5
    have e5w : Ext Non w v5 := by (refine' Ext.step ?q770 ?q771 ?q772; (case q771 => assumption); (case q770 => refine' Ext.step ?q773 ?q774 ?q775; (case q774 => assumption); (case q773 => refine' Ext.step ?q776 ?q777 ?q778; (case q777 => assumption); (case q776 => refine' Ext.step ?q779 ?q780 ?q781; (case q780 => assumption); (case q779 => assumption); (case q781 => exact fun _ z => z.elim)); (case q778 => exact fun _ z => z.elim)); (case q775 => exact fun _ z => z.elim)); (case q772 => exact fun _ z => z.elim))
    have nw : w.H p7 = none := e5w.back n7
    have e79 : Ext Non w v9 := (e5w.trans (e7.trans e8)).step e9 fun b hb => .inl (by rw [show b = p7 from hb]; exact nw)
    refine lay (R := fun H => Q (V.ref p7) H) o9 fun u eu su => ?_
    exact k2 u p7 q (e79.step eu fun b hb => .inl (by rw [show b = p7 from hb]; exact nw)) su (st_go eu (st_go e9 (st_go e8 (st_go e7 s5))))
  case en =>
    dsimp only [Xs.of]
    have o : Own v ex (.xd [(Str.ofString "found", y)]) := o
    refine s_wAs exm_NoEntry_LogError fun xa hxa => ?_
    ((with_reducible refine s_seq ?_); (with_reducible refine s_asg ?_); (with_reducible refine t_lst ?_); (with_reducible refine s_cons ?_); (with_reducible refine s_CB ?_); (with_reducible refine s_cons ?_); (with_reducible refine' s_var ?q782 ?q783); (case q782 => exact rfl); (with_reducible refine s_cons ?_); (with_reducible refine s_c ?_); (with_reducible refine s_nil ?_); (with_reducible refine' s_isXc ?q784 ?q785 ?q786 ?q787); (case q784 => assumption); (case q785 => assumption); (case q786 => refine' Own.h ?q790; (case q790 => assumption)); (with_reducible refine s_cons ?_); (with_reducible refine s_CB ?_); (with_reducible refine s_cons ?_); (with_reducible refine' s_var ?q791 ?q792); (case q791 => exact rfl); (with_reducible refine s_cons ?_); (with_reducible refine s_c ?_); (with_reducible refine s_nil ?_); (with_reducible refine' s_isXc ?q793 ?q794 ?q795 ?q796); (case q793 => assumption); (case q794 => assumption); (case q795 => refine' Own.h ?q799; (case q799 => assumption)); (with_reducible refine s_cons ?_); (with_reducible refine s_CB ?_); (with_reducible refine s_cons ?_); (with_reducible refine' s_var ?q800 ?q801); (case q800 => exact rfl); (with_reducible refine s_cons ?_); (with_reducible refine s_c ?_); (with_reducible refine s_nil ?_); (with_reducible refine' s_isXc ?q802 ?q803 ?q804 ?q805); (case q802 => assumption); (case q803 => assumption); (case q804 => refine' Own.h ?q808; (case q808 => assumption)); (with_reducible refine s_cons ?_); (with_reducible refine s_CB ?_); (with_reducible refine s_cons ?_); (with_reducible refine' s_var ?q809 ?q810); (case q809 => exact rfl); (with_reducible refine s_cons ?_); (with_reducible refine s_c ?_); (with_reducible refine s_nil ?_); (with_reducible refine' s_isXc ?q811 ?q812 ?q813 ?q814); (case q811 => assumption); (case q812 => assumption); (case q813 => refine' Own.h ?q817; (case q817 => assumption)); (with_reducible refine s_nil ?_); (with_reducible refine' t_newLS ?q818 ?q819); (case q818 => simp only [ List.length , sizeLine_eq ]; omega); intro _ _ _ _ _; (with_reducible refine' s_gname ?q820 ?q821); (case q820 => simp only [ List.set_cons_succ , List.set_cons_zero ]; exact rfl); (with_reducible refine s_seq ?_); (with_reducible refine s_asg ?_); (with_reducible refine s_orV ?_); (with_reducible refine s_CB ?_); (with_reducible refine s_cons ?_); (with_reducible refine' s_var ?q822 ?q823); (case q822 => exact rfl); (with_reducible refine s_cons ?_); (with_reducible refine t_tup ?_); (with_reducible refine s_cons ?_); (with_reducible refine s_c ?_); (with_reducible refine s_cons ?_); (with_reducible refine s_c ?_); (with_reducible refine s_cons ?_); (with_reducible refine s_c ?_); (with_reducible refine s_cons ?_); (with_reducible refine s_c ?_); (with_reducible refine s_nil ?_); (with_reducible refine' t_newT ?q824 ?q825); (case q824 => simp only [ List.length , sizeLine_eq ]; omega); intro _ _ _ _ _; (with_reducible refine s_nil ?_); (with_reducible refine' s_isXT ?q826 ?q827 ?q828 ?q829 ?q830); (case q826 => assumption); (case q827 => assumption); (case q828 => refine' KitL.cons ?q831 ?q832; (case q831 => assumption); (case q832 => refine' KitL.cons ?q833 ?q834; (case q833 => assumption); (case q834 => refine' KitL.cons ?q835 ?q836; (case q835 => assumption); (case q836 => refine' KitL.cons ?q837 ?q838; (case q837 => assumption); (case q838 => exact KitL.nil))))); (case q829 => refine' Own.h ?q843; (case q843 => refine' Own.ext ( by assumption ) ?q844 ?q845; (case q844 => exact fun h => h); (case q845 => refine' Own.ext ( by assumption ) ?q846 ?q847; (case q846 => exact fun h => h); (case q847 => assumption)))); (with_reducible refine s_bl ?_))
    rw [show (false || (false || (false || (false || false)))) = false from rfl]
    ((with_reducible refine ite_ff ?_); (with_reducible refine s_notV ?_); (with_reducible refine s_CB ?_); (with_reducible refine s_cons ?_); (with_reducible refine' s_var ?q848 ?q849); (case q848 => exact rfl); (with_reducible refine s_cons ?_); (with_reducible refine s_c ?_); (with_reducible refine s_nil ?_); (with_reducible refine' s_isXt ?q850 ?q851 ?q852 ?q853); (case q850 => assumption); (case q851 => assumption); (case q852 => refine' Own.h ?q858; (case q858 => refine' Own.ext ( by assumption ) ?q859 ?q860; (case q859 => exact fun h => h); (case q860 => refine' Own.ext ( by assumption ) ?q861 ?q862; (case q861 => exact fun h => h); (case q862 => assumption)))); (with_reducible refine s_bl ?_); (with_reducible refine' s_gname ?q863 ?q864); (case q863 => simp only [ List.set_cons_succ , List.set_cons_zero ]; exact rfl); (with_reducible refine s_seq ?_); (with_reducible refine s_asg ?_); (with_reducible refine t_lst ?_); (with_reducible refine s_cons ?_); (with_reducible refine s_op ?_); (with_reducible refine' s_var ?q865 ?q866); (case q865 => exact rfl); (with_reducible refine t_lst ?_); (with_reducible refine s_cons ?_); (with_reducible refine s_CB ?_); (with_reducible refine s_cons ?_); (with_reducible refine' s_var ?q867 ?q868); (case q867 => exact rfl); (with_reducible refine s_cons ?_); (with_reducible refine s_c ?_); (with_reducible refine s_nil ?_); (with_reducible refine' s_isXc ?q869 ?q870 ?q871 ?q872); (case q869 => assumption); (case q870 => assumption); (case q871 => refine' Own.h ?q877; (case q877 => refine' Own.ext ( by assumption ) ?q878 ?q879; (case q878 => exact fun h => h); (case q879 => refine' Own.ext ( by assumption ) ?q880 ?q881; (case q880 => exact fun h => h); (case q881 => assumption)))); (with_reducible refine s_nil ?_); (with_reducible refine' t_newLS ?q882 ?q883); (case q882 => simp only [ List.length , sizeLine_eq ]; omega); intro _ _ _ _ _)
    refine' s_catS ?h13 ?h23 ?z3 fun q v5 e5 n5 s5 => ?_
    case h13 => (refine' Wd.ok _ _ _ ?q884; (case q884 => refine' st_go ( by assumption ) ?q885; (case q885 => refine' st_go ( by assumption ) ?q886; (case q886 => assumption))))
    case h23 => (refine' Wd.ok _ _ _ ?q887; (case q887 => assumption))
    case z3 => (simp only [ List.length_append , List.length_cons , List.length_nil , List.length_map , List.length_reverse , List.length_replicate , sizeLine_eq ]; omega)
    ((with_reducible refine s_cons ?_); (with_reducible refine' s_var ?q888 ?q889); (case q888 => exact rfl); (with_reducible refine s_cons ?_); (with_reducible refine s_c ?_); (with_reducible refine s_nil ?_); (with_reducible refine' t_newL ?q890 ?q891); (case q890 => simp only [ List.length , sizeLine_eq ]; omega); intro _ _ _ _ _; (with_reducible refine' s_gname ?q892 ?q893); (case q892 => simp only [ List.set_cons_succ , List.set_cons_zero ]; exact rfl); (with_reducible refine s_seq ?_); (with_reducible refine s_ifS ?_); (with_reducible refine s_B ?_); (with_reducible refine s_CB ?_); (with_reducible refine s_cons ?_); (with_reducible refine' s_var ?q894 ?q895); (case q894 => exact rfl); (with_reducible refine s_cons ?_); (with_reducible refine t_tup ?_); (with_reducible refine s_cons ?_); (with_reducible refine s_c ?_); (with_reducible refine s_cons ?_); (with_reducible refine s_c ?_); (with_reducible refine s_cons ?_); (with_reducible refine s_c ?_); (with_reducible refine s_cons ?_); (with_reducible refine s_c ?_); (with_reducible refine s_nil ?_); (with_reducible refine' t_newT ?q896 ?q897); (case q896 => simp only [ List.length , sizeLine_eq ]; omega); intro _ _ _ _ _; (with_reducible refine s_nil ?_); (with_reducible refine' s_isXT ?q898 ?q899 ?q900 ?q901 ?q902); (case q898 => assumption); (case q899 => assumption); (case q900 => refine' KitL.cons ?q903 ?q904; (case q903 => assumption); (case q904 => refine' KitL.cons ?q905 ?q906; (case q905 => assumption); (case q906 => refine' KitL.cons ?q907 ?q908; (case q907 => assumption); (case q908 => refine' KitL.cons ?q909 ?q910; (case q909 => assumption); (case q910 => exact KitL.nil))))); (case q901 => refine' Own.h ?q919; (case q919 => refine' Own.ext ( by assumption ) ?q920 ?q921; (case q920 => exact fun h => h); (case q921 => refine' Own.ext ( by assumption ) ?q922 ?q923; (case q922 => exact fun h => h); (case q923 => refine' Own.ext ( by assumption ) ?q924 ?q925; (case q924 => exact fun h => h); (case q925 => refine' Own.ext ( by assumption ) ?q926 ?q927; (case q926 => exact fun h => h); (case q927 => refine' Own.ext ( by assumption ) ?q928 ?q929; (case q928 => exact fun h => h); (case q929 => refine' Own.ext ( by assumption ) ?q930 ?q931; (case q930 => exact fun h => h); (case q931 => assumption)))))))); (with_reducible refine s_bl ?_))
    rw [show (false || (false || (false || (true || false)))) = true from rfl]
    ((with_reducible refine ite_tt ?_); (with_reducible refine s_asg ?_); (with_reducible refine s_xg ?_); (with_reducible refine' s_var ?q938 ?q939); (case q938 => exact rfl); (with_reducible refine' s_xgv ?q940 ?q941 ?q942 ?q943); (case q940 => refine' Own.h ?q952; (case q952 => refine' Own.ext ( by assumption ) ?q953 ?q954; (case q953 => exact fun h => h); (case q954 => refine' Own.ext ( by assumption ) ?q955 ?q956; (case q955 => exact fun h => h); (case q956 => refine' Own.ext ( by assumption ) ?q957 ?q958; (case q957 => exact fun h => h); (case q958 => refine' Own.ext ( by assumption ) ?q959 ?q960; (case q959 => exact fun h => h); (case q960 => refine' Own.ext ( by assumption ) ?q961 ?q962; (case q961 => exact fun h => h); (case q962 => refine' Own.ext ( by assumption ) ?q963 ?q964; (case q963 => exact fun h => h); (case q964 => assumption)))))))); (case q941 => assumption); (case q942 => assumption); (with_reducible refine s_gsub ?_); (with_reducible refine' s_var ?q965 ?q966); (case q965 => exact rfl); (with_reducible refine s_c ?_); (with_reducible refine' s_setL ?q967 ?q968 ?q969); (case q967 => refine' Own.ext ( by assumption ) ?q970 ?q971; (case q970 => exact fun h => h); (case q971 => assumption)); (case q968 => exact rfl); intro _ _ _; (with_reducible refine s_ifS ?_); (with_reducible refine s_B ?_); (with_reducible refine s_CB ?_); (with_reducible refine s_cons ?_); (with_reducible refine' s_var ?q972 ?q973); (case q972 => exact rfl); (with_reducible refine s_cons ?_); (with_reducible refine s_c ?_); (with_reducible refine s_nil ?_); (with_reducible refine' s_isXc ?q974 ?q975 ?q976 ?q977); (case q974 => assumption); (case q975 => assumption); (case q976 => refine' Own.h ?q987; (case q987 => refine' Own.ext ( by assumption ) ?q988 ?q989; (case q988 => refine nm_one ?_; refine' Own.ne ?q1004 ?q1005; (case q1005 => assumption); (case q1004 => refine' Own.ext ( by assumption ) ?q1006 ?q1007; (case q1006 => exact fun h => h); (case q1007 => refine' Own.ext ( by assumption ) ?q1008 ?q1009; (case q1008 => exact fun h => h); (case q1009 => refine' Own.ext ( by assumption ) ?q1010 ?q1011; (case q1010 => exact fun h => h); (case q1011 => refine' Own.ext ( by assumption ) ?q1012 ?q1013; (case q1012 => exact fun h => h); (case q1013 => assumption)))))); (case q989 => refine' Own.ext ( by assumption ) ?q1014 ?q1015; (case q1014 => exact fun h => h); (case q1015 => refine' Own.ext ( by assumption ) ?q1016 ?q1017; (case q1016 => exact fun h => h); (case q1017 => refine' Own.ext ( by assumption ) ?q1018 ?q1019; (case q1018 => exact fun h => h); (case q1019 => refine' Own.ext ( by assumption ) ?q1020 ?q1021; (case q1020 => exact fun h => h); (case q1021 => refine' Own.ext ( by assumption ) ?q1022 ?q1023; (case q1022 => exact fun h => h); (case q1023 => refine' Own.ext ( by assumption ) ?q1024 ?q1025; (case q1024 => exact fun h => h); (case q1025 => assumption))))))))); (with_reducible refine s_bl ?_); (with_reducible refine ite_ff ?_); (with_reducible refine s_next ?_); (with_reducible refine s_ret ?_); (with_reducible refine' s_var ?q1026 ?q1027); (case q1026 => exact rfl))
    rename_i p7 v7 e7 n7 o7 p8 v8 e8 n8 s8 v9 e9 o9
    have s5 : v5.S q = some (.lst (flags .en)) := s5
    have e5w : Ext Non w v5 := by (refine' Ext.step ?q1028 ?q1029 ?q1030; (case q1029 => assumption); (case q1028 => refine' Ext.step ?q1031 ?q1032 ?q1033; (case q1032 => assumption); (case q1031 => refine' Ext.step ?q1034 ?q1035 ?q1036; (case q1035 => assumption); (case q1034 => refine' Ext.step ?q1037 ?q1038 ?q1039; (case q1038 => assumption); (case q1037 => assumption); (case q1039 => exact fun _ z => z.elim)); (case q1036 => exact fun _ z => z.elim)); (case q1033 => exact fun _ z => z.elim)); (case q1030 => exact fun _ z => z.elim))
    have nw : w.H p7 = none := e5w.back n7
    have e79 : Ext Non w v9 := (e5w.trans (e7.trans e8)).step e9 fun b hb => .inl (by rw [show b = p7 from hb]; exact nw)
    refine lay (R := fun H => Q (V.ref p7) H) o9 fun u eu su => ?_
    exact k2 u p7 q (e79.step eu fun b hb => .inl (by rw [show b = p7 from hb]; exact nw)) su (st_go eu (st_go e9 (st_go e8 (st_go e7 s5))))
  case mn =>
    dsimp only [Xs.of]
    have o : Own v ex (.xd [(Str.ofString "many", y)]) := o
    refine s_wAs exm_TooMany_LogError fun xa hxa => ?_
    ((with_reducible refine s_seq ?_); (with_reducible refine s_asg ?_); (with_reducible refine t_lst ?_); (with_reducible refine s_cons ?_); (with_reducible refine s_CB ?_); (with_reducible refine s_cons ?_); (with_reducible refine' s_var ?q1040 ?q1041); (case q1040 => exact rfl); (with_reducible refine s_cons ?_); (with_reducible refine s_c ?_); (with_reducible refine s_nil ?_); (with_reducible refine' s_isXc ?q1042 ?q1043 ?q1044 ?q1045); (case q1042 => assumption); (case q1043 => assumption); (case q1044 => refine' Own.h ?q1048; (case q1048 => assumption)); (with_reducible refine s_cons ?_); (with_reducible refine s_CB ?_); (with_reducible refine s_cons ?_); (with_reducible refine' s_var ?q1049 ?q1050); (case q1049 => exact rfl); (with_reducible refine s_cons ?_); (with_reducible refine s_c ?_); (with_reducible refine s_nil ?_); (with_reducible refine' s_isXc ?q1051 ?q1052 ?q1053 ?q1054); (case q1051 => assumption); (case q1052 => assumption); (case q1053 => refine' Own.h ?q1057; (case q1057 => assumption)); (with_reducible refine s_cons ?_); (with_reducible refine s_CB ?_); (with_reducible refine s_cons ?_); (with_reducible refine' s_var ?q1058 ?q1059); (case q1058 => exact rfl); (with_reducible refine s_cons ?_); (with_reducible refine s_c ?_); (with_reducible refine s_nil ?_); (with_reducible refine' s_isXc ?q1060 ?q1061 ?q1062 ?q1063); (case q1060 => assumption); (case q1061 => assumption); (case q1062 => refine' Own.h ?q1066; (case q1066 => assumption)); (with_reducible refine s_cons ?_); (with_reducible refine s_CB ?_); (with_reducible refine s_cons ?_); (with_reducible refine' s_var ?q1067 ?q1068); (case q1067 => exact rfl); (with_reducible refine s_cons ?_); (with_reducible refine s_c ?_); (with_reducible refine s_nil ?_); (with_reducible refine' s_isXc ?q1069 ?q1070 ?q1071 ?q1072); (case q1069 => assumption); (case q1070 => assumption); (case q1071 => refine' Own.h ?q1075; (case q1075 => assumption)); (with_reducible refine s_nil ?_); (with_reducible refine' t_newLS ?q1076 ?q1077); (case q1076 => simp only [ List.length , sizeLine_eq ]; omega); intro _ _ _ _ _; (with_reducible refine' s_gname ?q1078 ?q1079); (case q1078 => simp only [ List.set_cons_succ , List.set_cons_zero ]; exact rfl); (with_reducible refine s_seq ?_); (with_reducible refine s_asg ?_); (with_reducible refine s_orV ?_); (with_reducible refine s_CB ?_); (with_reducible refine s_cons ?_); (with_reducible refine' s_var ?q1080 ?q1081); (case q1080 => exact rfl); (with_reducible refine s_cons ?_); (with_reducible refine t_tup ?_); (with_reducible refine s_cons ?_); (with_reducible refine s_c ?_); (with_reducible refine s_cons ?_); (with_reducible refine s_c ?_); (with_reducible refine s_cons ?_); (with_reducible refine s_c ?_); (with_reducible refine s_cons ?_); (with_reducible refine s_c ?_); (with_reducible refine s_nil ?_); (with_reducible refine' t_newT ?q1082 ?q1083); (case q1082 => simp only [ List.length , sizeLine_eq ]; omega); intro _ _ _ _ _; (with_reducible refine s_nil ?_); (with_reducible refine' s_isXT ?q1084 ?q1085 ?q1086 ?q1087 ?q1088); (case q1084 => assumption); (case q1085 => assumption); (case q1086 => refine' KitL.cons ?q1089 ?q1090; (case q1089 => assumption); (case q1090 => refine' KitL.cons ?q1091 ?q1092; (case q1091 => assumption); (case q1092 => refine' KitL.cons ?q1093 ?q1094; (case q1093 => assumption); (case q1094 => refine' KitL.cons ?q1095 ?q1096; (case q1095 => assumption); (case q1096 => exact KitL.nil))))); (case q1087 => refine' Own.h ?q1101; (case q1101 => refine' Own.ext ( by assumption ) ?q1102 ?q1103; (case q1102 => exact fun h => h); (case q1103 => refine' Own.ext ( by assumption ) ?q1104 ?q1105; (case q1104 => exact fun h => h); (case q1105 => assumption)))); (with_reducible refine s_bl ?_))
    rw [show (false || (false || (false || (false || false)))) = false from rfl]
    ((with_reducible refine ite_ff ?_); (with_reducible refine s_notV ?_); (with_reducible refine s_CB ?_); (with_reducible refine s_cons ?_); (with_reducible refine' s_var ?q1106 ?q1107); (case q1106 => exact rfl); (with_reducible refine s_cons ?_); (with_reducible refine s_c ?_); (with_reducible refine s_nil ?_); (with_reducible refine' s_isXt ?q1108 ?q1109 ?q1110 ?q1111); (case q1108 => assumption); (case q1109 => assumption); (case q1110 => refine' Own.h ?q1116; (case q1116 => refine' Own.ext ( by assumption ) ?q1117 ?q1118; (case q1117 => exact fun h => h); (case q1118 => refine' Own.ext ( by assumption ) ?q1119 ?q1120; (case q1119 => exact fun h => h); (case q1120 => assumption)))); (with_reducible refine s_bl ?_); (with_reducible refine' s_gname ?q1121 ?q1122); (case q1121 => simp only [ List.set_cons_succ , List.set_cons_zero ]; exact rfl); (with_reducible refine s_seq ?_); (with_reducible refine s_asg ?_); (with_reducible refine t_lst ?_); (with_reducible refine s_cons ?_); (with_reducible refine s_op ?_); (with_reducible refine' s_var ?q1123 ?q1124); (case q1123 => exact rfl); (with_reducible refine t_lst ?_); (with_reducible refine s_cons ?_); (with_reducible refine s_CB ?_); (with_reducible refine s_cons ?_); (with_reducible refine' s_var ?q1125 ?q1126); (case q1125 => exact rfl); (with_reducible refine s_cons ?_); (with_reducible refine s_c ?_); (with_reducible refine s_nil ?_); (with_reducible refine' s_isXc ?q1127 ?q1128 ?q1129 ?q1130); (case q1127 => assumption); (case q1128 => assumption); (case q1129 => refine' Own.h ?q1135; (case q1135 => refine' Own.ext ( by assumption ) ?q1136 ?q1137; (case q1136 => exact fun h => h); (case q1137 => refine' Own.ext ( by assumption ) ?q1138 ?q1139; (case q1138 => exact fun h => h); (case q1139 => assumption)))); (with_reducible refine s_nil ?_); (with_reducible refine' t_newLS ?q1140 ?q1141); (case q1140 => simp only [ List.length , sizeLine_eq ]; omega); intro _ _ _ _ _)
    refine' s_catS ?h14 ?h24 ?z4 fun q v5 e5 n5 s5 => ?_
    case h14 => (refine' Wd.ok _ _ _ ?q1142; (case q1142 => refine' st_go ( by assumption ) ?q1143; (case q1143 => refine' st_go ( by assumption ) ?q1144; (case q1144 => assumption))))
    case h24 => (refine' Wd.ok _ _ _ ?q1145; (case q1145 => assumption))
    case z4 => (simp only [ List.length_append , List.length_cons , List.length_nil , List.length_map , List.length_reverse , List.length_replicate , sizeLine_eq ]; omega)
    ((with_reducible refine s_cons ?_); (with_reducible refine' s_var ?q1146 ?q1147); (case q1146 => exact rfl); (with_reducible refine s_cons ?_); (with_reducible refine s_c ?_); (with_reducible refine s_nil ?_); (with_reducible refine' t_newL ?q1148 ?q1149); (case q1148 => simp only [ List.length , sizeLine_eq ]; omega); intro _ _ _ _ _; (with_reducible refine' s_gname ?q1150 ?q1151); (case q1150 => simp only [ List.set_cons_succ , List.set_cons_zero ]; exact rfl); (with_reducible refine s_seq ?_); (with_reducible refine s_ifS ?_); (with_reducible refine s_B ?_); (with_reducible refine s_CB ?_); (with_reducible refine s_cons ?_); (with_reducible refine' s_var ?q1152 ?q1153); (case q1152 => exact rfl); (with_reducible refine s_cons ?_); (with_reducible refine t_tup ?_); (with_reducible refine s_cons ?_); (with_reducible refine s_c ?_); (with_reducible refine s_cons ?_); (with_reducible refine s_c ?_); (with_reducible refine s_cons ?_); (with_reducible refine s_c ?_); (with_reducible refine s_cons ?_); (with_reducible refine s_c ?_); (with_reducible refine s_nil ?_); (with_reducible refine' t_newT ?q1154 ?q1155); (case q1154 => simp only [ List.length , sizeLine_eq ]; omega); intro _ _ _ _ _; (with_reducible refine s_nil ?_); (with_reducible refine' s_isXT ?q1156 ?q1157 ?q1158 ?q1159 ?q1160); (case q1156 => assumption); (case q1157 => assumption); (case q1158 => refine' KitL.cons ?q1161 ?q1162; (case q1161 => assumption); (case q1162 => refine' KitL.cons ?q1163 ?q1164; (case q1163 => assumption); (case q1164 => refine' KitL.cons ?q1165 ?q1166; (case q1165 => assumption); (case q1166 => refine' KitL.cons ?q1167 ?q1168; (case q1167 => assumption); (case q1168 => exact KitL.nil))))); (case q1159 => refine' Own.h ?q1177; (case q1177 => refine' Own.ext ( by assumption ) ?q1178 ?q1179; (case q1178 => exact fun h => h); (case q1179 => refine' Own.ext ( by assumption ) ?q1180 ?q1181; (case q1180 => exact fun h => h); (case q1181 => refine' Own.ext ( by assumption ) ?q1182 ?q1183; (case q1182 => exact fun h => h); (case q1183 => refine' Own.ext ( by assumption ) ?q1184 ?q1185; (case q1184 => exact fun h => h); (case q1185 => refine' Own.ext ( by assumption ) ?q1186 ?q1187; (case q1186 => exact fun h => h); (case q1187 => refine' Own.ext ( by assumption ) ?q1188 ?q1189; (case q1188 => exact fun h => h); (case q1189 => assumption)))))))); (with_reducible refine s_bl ?_))
    rw [show (false || (false || (false || (false || false)))) = false from rfl]
    ((with_reducible refine ite_ff ?_); (with_reducible refine s_next ?_); (with_reducible refine s_ifS ?_); (with_reducible refine s_B ?_); (with_reducible refine s_CB ?_); (with_reducible refine s_cons ?_); (with_reducible refine' s_var ?q1190 ?q1191); (case q1190 => exact rfl); (with_reducible refine s_cons ?_); (with_reducible refine s_c ?_); (with_reducible refine s_nil ?_); (with_reducible refine' s_isXc ?q1192 ?q1193 ?q1194 ?q1195); (case q1192 => assumption); (case q1193 => assumption); (case q1194 => refine' Own.h ?q1204; (case q1204 => refine' Own.ext ( by assumption ) ?q1205 ?q1206; (case q1205 => exact fun h => h); (case q1206 => refine' Own.ext ( by assumption ) ?q1207 ?q1208; (case q1207 => exact fun h => h); (case q1208 => refine' Own.ext ( by assumption ) ?q1209 ?q1210; (case q1209 => exact fun h => h); (case q1210 => refine' Own.ext ( by assumption ) ?q1211 ?q1212; (case q1211 => exact fun h => h); (case q1212 => refine' Own.ext ( by assumption ) ?q1213 ?q1214; (case q1213 => exact fun h => h); (case q1214 => refine' Own.ext ( by assumption ) ?q1215 ?q1216; (case q1215 => exact fun h => h); (case q1216 => assumption)))))))); (with_reducible refine s_bl ?_); (with_reducible refine ite_tt ?_); (with_reducible refine s_asg ?_); (with_reducible refine s_xg ?_); (with_reducible refine' s_var ?q1220 ?q1221); (case q1220 => exact rfl); (with_reducible refine' s_xgv ?q1222 ?q1223 ?q1224 ?q1225); (case q1222 => refine' Own.h ?q1234; (case q1234 => refine' Own.ext ( by assumption ) ?q1235 ?q1236; (case q1235 => exact fun h => h); (case q1236 => refine' Own.ext ( by assumption ) ?q1237 ?q1238; (case q1237 => exact fun h => h); (case q1238 => refine' Own.ext ( by assumption ) ?q1239 ?q1240; (case q1239 => exact fun h => h); (case q1240 => refine' Own.ext ( by assumption ) ?q1241 ?q1242; (case q1241 => exact fun h => h); (case q1242 => refine' Own.ext ( by assumption ) ?q1243 ?q1244; (case q1243 => exact fun h => h); (case q1244 => refine' Own.ext ( by assumption ) ?q1245 ?q1246; (case q1245 => exact fun h => h); (case q1246 => assumption)))))))); (case q1223 => assumption); (case q1224 => assumption); (with_reducible refine s_gsub ?_); (with_reducible refine' s_var ?q1247 ?q1248); (case q1247 => exact rfl); (with_reducible refine s_c ?_); (with_reducible refine' s_setL ?q1249 ?q1250 ?q1251); (case q1249 => refine' Own.ext ( by assumption ) ?q1252 ?q1253; (case q1252 => exact fun h => h); (case q1253 => assumption)); (case q1250 => exact rfl); intro _ _ _; (with_reducible refine s_ret ?_); (with_reducible refine' s_var ?q1254 ?q1255); (case q1254 => exact rfl))
    rename_i p7 v7 e7 n7 o7 p8 v8 e8 n8 s8 v9 e9 o9
    have s5 : v5.S q = some (.lst (flags .mn)) := s5
    have e5w : Ext Non w v5 := by (refine' Ext.step ?q1256 ?q1257 ?q1258; (case q1257 => assumption); (case q1256 => refine' Ext.step ?q1259 ?q1260 ?q1261; (case q1260 => assumption); (case q1259 => refine' Ext.step ?q1262 ?q1263 ?q1264; (case q1263 => assumption); (case q1262 => refine' Ext.step ?q1265 ?q1266 ?q1267; (case q1266 => assumption); (case q1265 => assumption); (case q1267 => exact fun _ z => z.elim)); (case q1264 => exact fun _ z => z.elim)); (case q1261 => exact fun _ z => z.elim)); (case q1258 => exact fun _ z => z.elim))
    have nw : w.H p7 = none := e5w.back n7
    have e79 : Ext Non w v9 := (e5w.trans (e7.trans e8)).step e9 fun b hb => .inl (by rw [show b = p7 from hb]; exact nw)
    refine lay (R := fun H => Q (V.ref p7) H) o9 fun u eu su => ?_
    exact k2 u p7 q (e79.step eu fun b hb => .inl (by rw [show b = p7 from hb]; exact nw)) su (st_go eu (st_go e9 (st_go e8 (st_go e7 s5))))
/-- what is asked of a thing by isinstance, and that it is == itself -/
structure Ans where
  e : Bool
  j : Bool
  wi : Bool
  r : Bool
  l : Bool
  b : Bool
def TgA (K : PySem.W.Frag) (ec : EC) (S : Hp) (x : V) (A : Ans) : Prop := SelfV K S x ∧ ∃ t, TyOf K S x t ∧ PySem.W.kitOne K t (.ref ec.any) = some A.e ∧ PySem.W.kitOne K t (.ref ec.joint) = some A.j ∧ PySem.W.kitOne K t (.ref ec.within) = some A.wi ∧ PySem.W.kitOne K t (.ref ec.read) = some A.r ∧ PySem.W.kitOne K t (.type "list") = some A.l ∧ PySem.W.kitOne K t (.type "bool") = some A.b
def Thg (K : PySem.W.Frag) (S : Hp) (x : V) : Prop := SelfV K S x ∧ ∃ t b, TyOf K S x t ∧ PySem.W.kitOne K t (.type "bool") = some b
theorem TgA.thg {K : PySem.W.Frag} {ec : EC} {S : Hp} {x : V} {A : Ans} (h : TgA K ec S x A) : Thg K S x := by
  obtain ⟨h1, t, h2, _, _, _, _, _, h3⟩ := h
  exact ⟨h1, t, _, h2, h3⟩
theorem selfV_mono {K : PySem.W.Frag} {S T : Hp} {x : V} (e : Same S T) (h : SelfV K S x) : SelfV K T x := by
  cases x with
  | ref a =>
    rcases h with ⟨xs, h⟩ | ⟨xs, h⟩ | h | ⟨C, dx, fs, h, h2⟩
    · refine .inl ⟨xs, ?_⟩
      rcases h with h | h
      · rcases h with h | ⟨o, h⟩
        · exact .inl (.inl (e _ _ h))
        · exact .inl (.inr ⟨o, e _ _ h⟩)
      · exact .inr h
    · exact .inr (.inl ⟨xs, sqt_mono e h⟩)
    · exact .inr (.inr (.inl (e _ _ h)))
    · exact .inr (.inr (.inr ⟨C, dx, fs, e _ _ h, h2⟩))
  | _ => exact h
theorem selfV_up {K : PySem.W.Frag} {w : Wd} {x : V} (h : SelfV K w.S x) : SelfV K w.H x := selfV_mono (fun a o z => w.ok a o z) h
theorem Thg.mono {K : PySem.W.Frag} {S T : Hp} {x : V} (e : Same S T) (h : Thg K S x) : Thg K T x := by
  obtain ⟨h1, t, b, h2, h3⟩ := h
  exact ⟨selfV_mono e h1, t, b, TyOf.up (fun a o => e a o) h2, h3⟩
theorem TgA.mono {K : PySem.W.Frag} {ec : EC} {S T : Hp} {x : V} {A : Ans} (e : Same S T) (h : TgA K ec S x A) : TgA K ec T x A := by
  obtain ⟨h1, t, h2, h3⟩ := h
  exact ⟨selfV_mono e h1, t, TyOf.up (fun a o => e a o) h2, h3⟩
theorem rpa_bls {S : Hp} : ∀ bs : List Bool, RpA S (bs.map V.bl) (bs.map PyData.bool)
  | [] => .nil
  | b :: r => .cons (.bl b) (rpa_bls r)
def wrds : List Wrd := [.nm, .mo, .rd, .en, .mn]
theorem wrd_dec : ∀ a b : Wrd, decide (a.z = b.z) = decide (b = a) := by intro a b; cases a <;> cases b <;> decide +kernel
theorem flags_map (wd : Wrd) : flags wd = (wrds.map fun u => decide (wd = u)).map V.bl := rfl
abbrev nm_l_is : List Str := ["_law_told", "_law_sort", "_law_thing", "_law_due", "_law_one"]
theorem sc_l_is : FnScope nm_l_is ["_law_told", "_law_sort", "_law_thing"] (defScope s_l_is) := ⟨rfl, rfl, rfl, by decide +kernel, rfl, by decide +kernel, by decide +kernel⟩
theorem st_l_is (a b c : V) : start nm_l_is [a, b, c] = [some a, some b, some c, none, none] := rfl
def p_l_is (K : PySem.W.Frag) (w : Wd) (a b c : V) (Q : VK) (_ : XK) : Prop := ∃ r q wd, a = .ref r ∧ w.S r = some (.lst [.ref q, .bl false, c]) ∧ w.S q = some (.lst (flags wd)) ∧ b = .str wd.z ∧ Thg K w.S c ∧ ∀ v, Ext Non w v → Q (.bl true) v.H
theorem ok_l_is {f : Addr} {fd : FuncData} {C_Entry C_Within C_At C_Between C_Read C_Joint C_Sifted C_LogError C_NoBond C_NoEntry C_NoMinutes C_NoMoment C_NoName C_NoPlace C_NoReading C_Taken C_TooMany : Addr} (F : Fun K "_law_is" "_law_is" s_l_is f fd) (T : Txt K mg C_Entry C_Within C_At C_Between C_Read C_Joint C_Sifted C_LogError C_NoBond C_NoEntry C_NoMinutes C_NoMoment C_NoName C_NoPlace C_NoReading C_Taken C_TooMany)  : FnOk P ww K mg base CX0 1 f fd ["_law_told", "_law_sort", "_law_thing"] (pr3 (p_l_is K)) := by
  refine F.ok sc_l_is (fun vs H Q E h => len3 h) (fun cdv A outer s H vs Q E hr h => ?_)
  obtain ⟨w, x0, x1, x2,  rfl, rfl, h⟩ := h
  have ekT := ek_T (P := P) (ww := ww) (base := base) T
  have oex_NoBond := T.oex_NoBond; have xf_NoBond := T.xf_NoBond; have ec_NoBond := T.ec_NoBond; have xn_NoBond := T.xn_NoBond
  have oex_NoEntry := T.oex_NoEntry; have xf_NoEntry := T.xf_NoEntry; have ec_NoEntry := T.ec_NoEntry; have xn_NoEntry := T.xn_NoEntry
  have oex_NoMinutes := T.oex_NoMinutes; have xf_NoMinutes := T.xf_NoMinutes; have ec_NoMinutes := T.ec_NoMinutes; have xn_NoMinutes := T.xn_NoMinutes
  have oex_NoMoment := T.oex_NoMoment; have xf_NoMoment := T.xf_NoMoment; have ec_NoMoment := T.ec_NoMoment; have xn_NoMoment := T.xn_NoMoment
  have oex_NoName := T.oex_NoName; have xf_NoName := T.xf_NoName; have ec_NoName := T.ec_NoName; have xn_NoName := T.xn_NoName
  have oex_NoPlace := T.oex_NoPlace; have xf_NoPlace := T.xf_NoPlace; have ec_NoPlace := T.ec_NoPlace; have xn_NoPlace := T.xn_NoPlace
  have oex_NoReading := T.oex_NoReading; have xf_NoReading := T.xf_NoReading; have ec_NoReading := T.ec_NoReading; have xn_NoReading := T.xn_NoReading
  have oex_Taken := T.oex_Taken; have xf_Taken := T.xf_Taken; have ec_Taken := T.ec_Taken; have xn_Taken := T.xn_Taken
  have oex_TooMany := T.oex_TooMany; have xf_TooMany := T.xf_TooMany; have ec_TooMany := T.ec_TooMany; have xn_TooMany := T.xn_TooMany
  refine ⟨_, (pss_cons (ps_setLc (i := 3) (own := [("_law_one", 4)]) (g := (gName 4)) (tt := tYes) (by rfl) sc_l_is.nd rfl rfl (sw_true rfl rfl rfl (by decide +kernel)) (kpList K (pe_lst (pa_cons pe_str (pa_cons pe_str (pa_cons pe_str (pa_cons pe_str (pa_cons pe_str pa_nil))))))) (blkOk_by (own := [("_law_one", 4)]) (N := nm_l_is) (sc := defScope s_l_is) (by decide +kernel)) (fun _ _ _ _ _ => (pg_name (i := 4) sc_l_is.nd rfl (Or.inl rfl))) (fun _ _ _ _ _ => pts_nil) (fun _ _ _ _ _ => (pe_cmpR (kEqS K hr.units) (pv 4) (pv 1) (nomark _))))
      (pss_cons (ps_if (PW.pt (pw_or (pt_cmpR g_is (pv 0) pe_non (nomark _)) (pw_or (pt_cmpR (kNe K hr.units) (pe_ix (kIx K) (pv 0) pe_int (fun _ _ => rfl)) (pv 3) (nomark _)) (pw_or1 (pt_val (pe_ix (kIx K) (pv 0) pe_int (fun _ _ => rfl))))))) (pss_one (ps_ret pe_bl)) pss_nil)
      (pss_one (ps_ret (pe_and (pe_cmpR (kEqS K hr.units) (pe_ix (kIx K) (pv 0) pe_int (fun _ _ => rfl)) (pv 2) (nomark _)) (pe_one (pe_cmpR (kEqS K hr.units) (pe_callB (kIsi K) (by rfl) T.n_isinstance (by decide +kernel) (pa_cons (pe_ix (kIx K) (pv 0) pe_int (fun _ _ => rfl)) (pa_cons (pe_bltn (v := .ty "bool") (u := .type "bool") rfl T.n_bool (by decide +kernel) rfl) pa_nil))) (pe_callB (kIsi K) (by rfl) T.n_isinstance (by decide +kernel) (pa_cons (pv 2) (pa_cons (pe_bltn (v := .ty "bool") (u := .type "bool") rfl T.n_bool (by decide +kernel) rfl) pa_nil))) (nomark _)))))))), ?_⟩
  rw [st_l_is]
  obtain ⟨r, q, wd, rfl, sr, sq, rfl, ht, k⟩ := h
  ((with_reducible refine s_seq ?_); (with_reducible refine s_asg ?_); (with_reducible refine s_Lc ?_); (with_reducible refine s_iList ?_); (with_reducible refine t_lst ?_); (with_reducible refine s_cons ?_); (with_reducible refine s_c ?_); (with_reducible refine s_cons ?_); (with_reducible refine s_c ?_); (with_reducible refine s_cons ?_); (with_reducible refine s_c ?_); (with_reducible refine s_cons ?_); (with_reducible refine s_c ?_); (with_reducible refine s_cons ?_); (with_reducible refine s_c ?_); (with_reducible refine s_nil ?_); (with_reducible refine' t_newLS ?q0 ?q1); (case q0 => simp only [ List.length , sizeLine_eq ]; omega); intro _ _ _ _ _; refine' ⟨ _ , rfl , ⟨ _ , ?q2 ⟩ , ?q3 ⟩; (case q2 => refine' SqL.of ( Wd.ok _ _ _ ?q4 ); (case q4 => assumption)))
  rename_i p1 v1 e1 n1 s1
  have s1 : v1.S p1 = some (.lst (wrds.map fun u => V.str u.z)) := s1
  intro D hD
  have e1D : w.H D = none := e1.back hD
  refine lc_pure (ww_list (xs := wrds.map fun u => V.str u.z)) (flags wd) hD (fun u e => sql_of (st_go e s1)) rfl (by rw [sizeLine_eq]; decide) (fun _ => rfl) ?_ ?_
  · intro i x y u hi hx hy e R kR
    rw [List.getElem?_map] at hx
    obtain ⟨wx, hw, rfl⟩ := Option.map_eq_some_iff.mp hx
    rw [flags_map, List.map_map, List.getElem?_map, hw] at hy
    cases hy
    ((with_reducible refine s_op ?_); (with_reducible refine' s_var ?q5 ?q6); (case q5 => exact rfl); (with_reducible refine' s_var ?q7 ?q8); (case q7 => exact rfl))
    refine s_eqSg ?_
    ((with_reducible refine s_eqS ?_))
    rw [wrd_dec]
    exact kR _ (Ext.refl _ _)
  · intro u eu hD' oD
    have sru := st_go eu (st_go e1 sr)
    have squ := st_go eu (st_go e1 sq)
    have htu := ht.mono (fun a o z => eu.st a o (e1.st a o z))
    have ew : Ext Non w u := e1.trans eu
    clear e1 eu sr sq ht s1 n1 hD
    refine lay (R := fun H => gName 3 (V.ref D) _ H _) oD fun v2 e2 s2 => ?_
    have hD0 : w.H D = none := e1D
    have ew2 : Ext Non w v2 := ew.step e2 fun b hb => .inl (by rw [show b = D from hb]; exact hD0)
    have sr2 := st_go e2 sru
    have sq2 := st_go e2 squ
    have ht2 := htu.mono e2.st
    have hsh : SeqAt.shaped (.list ((wrds.map fun u => decide (wd = u)).map PyData.bool)) = true := by cases wd <;> decide +kernel
    clear e2 ew sru squ htu oD
    ((with_reducible refine' s_gname ?q9 ?q10); (case q9 => simp only [ List.set_cons_succ , List.set_cons_zero ]; exact rfl); (with_reducible refine s_seq ?_); (with_reducible refine s_ifS ?_); (with_reducible refine s_or ?_); (with_reducible refine s_test ?_); (with_reducible refine s_op ?_); (with_reducible refine' s_var ?q11 ?q12); (case q11 => exact rfl); (with_reducible refine s_c ?_); (with_reducible refine s_isRN ?_); (with_reducible refine s_bl ?_); (with_reducible refine ite_ff ?_); (with_reducible refine s_or ?_); (with_reducible refine s_test ?_); (with_reducible refine s_op ?_); (with_reducible refine s_op ?_); (with_reducible refine' s_var ?q16 ?q17); (case q16 => exact rfl); (with_reducible refine s_c ?_); (with_reducible refine' s_ixL ?q27 ?q28 ?q29); (case q27 => assumption); (case q28 => exact rfl); (with_reducible refine' s_var ?q30 ?q31); (case q30 => exact rfl))
    refine s_neLs hsh (.inl sq2) (by rw [flags_map]; exact rpa_bls _) (.inl s2) (by rw [flags_map]; exact rpa_bls _) ?_
    obtain ⟨hs, t, b, ty, hb⟩ := ht2
    have hs' := selfV_up hs
    have ty' := TyOf.up (fun a o z => v2.ok a o z) ty
    ((with_reducible refine s_bl ?_); (with_reducible refine ite_ff ?_); (with_reducible refine s_B ?_); (with_reducible refine s_op ?_); (with_reducible refine' s_var ?q35 ?q36); (case q35 => exact rfl); (with_reducible refine s_c ?_); (with_reducible refine' s_ixL ?q46 ?q47 ?q48); (case q46 => assumption); (case q47 => exact rfl); (with_reducible refine s_bl ?_); (with_reducible refine ite_ff ?_); (with_reducible refine s_next ?_); (with_reducible refine s_ret ?_); (with_reducible refine s_andV ?_); (with_reducible refine s_op ?_); (with_reducible refine s_op ?_); (with_reducible refine' s_var ?q52 ?q53); (case q52 => exact rfl); (with_reducible refine s_c ?_); (with_reducible refine' s_ixL ?q63 ?q64 ?q65); (case q63 => assumption); (case q64 => exact rfl); (with_reducible refine' s_var ?q66 ?q67); (case q66 => exact rfl))
    refine s_eqSv hs' ?_
    ((with_reducible refine s_bl ?_); (with_reducible refine ite_tt ?_); (with_reducible refine s_op ?_); (with_reducible refine s_CB ?_); (with_reducible refine s_cons ?_); (with_reducible refine s_op ?_); (with_reducible refine' s_var ?q71 ?q72); (case q71 => exact rfl); (with_reducible refine s_c ?_); (with_reducible refine' s_ixL ?q82 ?q83 ?q84); (case q82 => assumption); (case q83 => exact rfl); (with_reducible refine s_cons ?_); (with_reducible refine s_c ?_); (with_reducible refine s_nil ?_))
    refine s_isTt ty' hb ?_
    ((with_reducible refine s_CB ?_); (with_reducible refine s_cons ?_); (with_reducible refine' s_var ?q88 ?q89); (case q88 => exact rfl); (with_reducible refine s_cons ?_); (with_reducible refine s_c ?_); (with_reducible refine s_nil ?_))
    refine s_isTt ty' hb ?_
    refine s_eqSg ?_
    ((with_reducible refine s_eqB ?_))
    rw [decide_eq_true rfl]
    exact k _ ew2
/-- what is refused as a thing of a sort -/
def BadT (K : PySem.W.Frag) (S : Hp) (s : Srt) (x : V) : Prop := (∃ d, Rp S x d ∧ TxD d ∧ okS s d = false) ∧ Thg K S x
theorem BadT.mono {K : PySem.W.Frag} {S T : Hp} {s : Srt} {x : V} (e : Same S T) (h : BadT K S s x) : BadT K T s x := by
  obtain ⟨⟨d, h1, h2⟩, h3⟩ := h
  exact ⟨⟨d, h1.mono e, h2⟩, h3.mono e⟩
section
variable {w : Wd} {s : Srt}
theorem txd_no {d : PyData} (h : ∀ z, d ≠ .str z) : TxD d := fun z e => absurd e (h z)
theorem bad_int {i : Int} (h : okS s (.int i) = false) : BadT K w.S s (.int i) := ⟨⟨_, .int i, txd_no (fun z => nofun), h⟩, trivial, _, _, .int i, kit_ty kb_int_bool⟩
theorem bad_none (h : okS s .none = false) : BadT K w.S s .non := ⟨⟨_, .non, txd_no (fun z => nofun), h⟩, trivial, _, _, .non, kit_ty kb_NoneType_bool⟩
theorem bad_bl {i : Bool} (h : okS s (.bool i) = false) : BadT K w.S s (.bl i) := ⟨⟨_, .bl i, txd_no (fun z => nofun), h⟩, trivial, _, _, .bl i, kit_ty kb_bool_bool⟩
theorem bad_str {z : Str} (t : Tx 1000 z) (h : okS s (.str z) = false) : BadT K w.S s (.str z) := ⟨⟨_, .str z, fun y e => by cases e; exact t, h⟩, trivial, _, _, .str z, kit_ty kb_str_bool⟩
theorem okS_l {ds : List PyData} : okS s (.list ds) = false := by cases s <;> rfl
theorem okS_t {ds : List PyData} : okS s (.tuple ds) = false := by cases s <;> rfl
theorem okS_d {ds : List (PyData × PyData)} : okS s (.dict ds) = false := by cases s <;> rfl
theorem bad_lst {a : Addr} {xs : List V} {ds : List PyData} (h : w.S a = some (.lst xs)) (r : RpA w.S xs ds) : BadT K w.S s (.ref a) := ⟨⟨_, .lst h r, txd_no (fun z => nofun), okS_l⟩, .inl ⟨_, SqL.of h⟩, _, _, .lst h, kit_ty kb_list_bool⟩
theorem bad_tup {a : Addr} {xs : List V} {ds : List PyData} (h : w.S a = some (.tup xs)) (r : RpA w.S xs ds) : BadT K w.S s (.ref a) := ⟨⟨_, .tup h r, txd_no (fun z => nofun), okS_t⟩, .inr (.inl ⟨_, SqT.of h⟩), _, _, .tup h, kit_ty kb_tuple_bool⟩
theorem bad_dct {a : Addr} (h : w.S a = some (.dK [])) : BadT K w.S s (.ref a) := ⟨⟨_, .dct h, txd_no (fun z => nofun), okS_d⟩, .inr (.inr (.inl h)), _, _, .dK h, kit_ty kb_dict_bool⟩
theorem all_nil {P : V → Prop} : ∀ x ∈ ([] : List V), P x := fun _ h => by cases h
theorem all_cons {P : V → Prop} {y : V} {ys : List V} (a : P y) (b : ∀ x ∈ ys, P x) : ∀ x ∈ y :: ys, P x := fun x h => by
  rcases List.mem_cons.mp h with rfl | h
  · exact a
  · exact b x h
theorem all_app {P : V → Prop} {xs ys : List V} (a : ∀ x ∈ xs, P x) (b : ∀ x ∈ ys, P x) : ∀ x ∈ xs ++ ys, P x := fun x h => (List.mem_append.mp h).elim (a x) (b x)
end
def kws : List Str := [Str.ofString "any", Str.ofString "within", Str.ofString "at", Str.ofString "between", Str.ofString "read", Str.ofString "joint", Str.ofString "sifted"]
def kws5 : List Str := [Str.ofString "any", Str.ofString "within", Str.ofString "at", Str.ofString "between", Str.ofString "read"]
def kidx : Kd → Nat
  | .any => 0 | .within => 1 | .att => 2 | .between => 3 | .read => 4 | .joint => 5 | .sifted => 6
abbrev nm_l_names : List Str := ["_law_some"]
theorem sc_l_names : FnScope nm_l_names [] (defScope s_l_names) := ⟨rfl, rfl, rfl, by decide +kernel, rfl, by decide +kernel, by decide +kernel⟩
theorem st_l_names : start nm_l_names [] = [none] := rfl
def p_l_names (K : PySem.W.Frag) (w : Wd) (Q : VK) (_ : XK) : Prop := ∀ v r vs, Ext Non w v → v.S r = some (.lst vs) → vs.length = 22 → (∀ x ∈ vs, BadT K v.S .name x) → Q (.ref r) v.H
theorem ok_l_names {f : Addr} {fd : FuncData} {C_Entry C_Within C_At C_Between C_Read C_Joint C_Sifted C_LogError C_NoBond C_NoEntry C_NoMinutes C_NoMoment C_NoName C_NoPlace C_NoReading C_Taken C_TooMany : Addr} (F : Fun K "_law_names" "_law_names" s_l_names f fd) (T : Txt K mg C_Entry C_Within C_At C_Between C_Read C_Joint C_Sifted C_LogError C_NoBond C_NoEntry C_NoMinutes C_NoMoment C_NoName C_NoPlace C_NoReading C_Taken C_TooMany)  : FnOk P ww K mg base CX0 1 f fd [] (pr0 (p_l_names K)) := by
  refine F.ok sc_l_names (fun vs H Q E h => len0 h) (fun cdv A outer s H vs Q E hr h => ?_)
  obtain ⟨w,  rfl, rfl, h⟩ := h
  have ekT := ek_T (P := P) (ww := ww) (base := base) T
  have oex_NoBond := T.oex_NoBond; have xf_NoBond := T.xf_NoBond; have ec_NoBond := T.ec_NoBond; have xn_NoBond := T.xn_NoBond
  have oex_NoEntry := T.oex_NoEntry; have xf_NoEntry := T.xf_NoEntry; have ec_NoEntry := T.ec_NoEntry; have xn_NoEntry := T.xn_NoEntry
  have oex_NoMinutes := T.oex_NoMinutes; have xf_NoMinutes := T.xf_NoMinutes; have ec_NoMinutes := T.ec_NoMinutes; have xn_NoMinutes := T.xn_NoMinutes
  have oex_NoMoment := T.oex_NoMoment; have xf_NoMoment := T.xf_NoMoment; have ec_NoMoment := T.ec_NoMoment; have xn_NoMoment := T.xn_NoMoment
  have oex_NoName := T.oex_NoName; have xf_NoName := T.xf_NoName; have ec_NoName := T.ec_NoName; have xn_NoName := T.xn_NoName
  have oex_NoPlace := T.oex_NoPlace; have xf_NoPlace := T.xf_NoPlace; have ec_NoPlace := T.ec_NoPlace; have xn_NoPlace := T.xn_NoPlace
  have oex_NoReading := T.oex_NoReading; have xf_NoReading := T.xf_NoReading; have ec_NoReading := T.ec_NoReading; have xn_NoReading := T.xn_NoReading
  have oex_Taken := T.oex_Taken; have xf_Taken := T.xf_Taken; have ec_Taken := T.ec_Taken; have xn_Taken := T.xn_Taken
  have oex_TooMany := T.oex_TooMany; have xf_TooMany := T.xf_TooMany; have ec_TooMany := T.ec_TooMany; have xn_TooMany := T.xn_TooMany
  refine ⟨_, (pss_cons (ps_set (i := 0) sc_l_names.nd rfl (Or.inl rfl) (pe_lst (pa_cons pe_non (pa_cons pe_str (pa_cons pe_str (pa_cons pe_str (pa_cons pe_str (pa_cons pe_str (pa_cons pe_str (pa_cons pe_str (pa_cons pe_str (pa_cons pe_str (pa_cons pe_str (pa_cons pe_int (pa_cons pe_int (pa_cons pe_bl (pa_cons (pe_lst (pa_cons pe_str pa_nil)) (pa_cons (pe_tup (pa_cons pe_str pa_nil)) (pa_cons pe_dnewK (pa_cons (pe_lst pa_nil) pa_nil))))))))))))))))))))
      (pss_one (ps_ret (pe_op (kAdd K) (pv 0) (pe_lst (pa_cons pe_str (pa_cons pe_bl (pa_cons pe_str (pa_cons (pe_op g_pow pe_int pe_int) pa_nil))))))))), ?_⟩
  rw [st_l_names]
  ((with_reducible refine s_seq ?_); (with_reducible refine s_asg ?_); (with_reducible refine t_lst ?_); (with_reducible refine s_cons ?_); (with_reducible refine s_c ?_); (with_reducible refine s_cons ?_); (with_reducible refine s_c ?_); (with_reducible refine s_cons ?_); (with_reducible refine s_c ?_); (with_reducible refine s_cons ?_); (with_reducible refine s_c ?_); (with_reducible refine s_cons ?_); (with_reducible refine s_c ?_); (with_reducible refine s_cons ?_); (with_reducible refine s_c ?_); (with_reducible refine s_cons ?_); (with_reducible refine s_c ?_); (with_reducible refine s_cons ?_); (with_reducible refine s_c ?_); (with_reducible refine s_cons ?_); (with_reducible refine s_c ?_); (with_reducible refine s_cons ?_); (with_reducible refine s_c ?_); (with_reducible refine s_cons ?_); (with_reducible refine s_c ?_); (with_reducible refine s_cons ?_); (with_reducible refine s_c ?_); (with_reducible refine s_cons ?_); (with_reducible refine s_c ?_); (with_reducible refine s_cons ?_); (with_reducible refine s_c ?_); (with_reducible refine s_cons ?_); (with_reducible refine t_lst ?_); (with_reducible refine s_cons ?_); (with_reducible refine s_c ?_); (with_reducible refine s_nil ?_); (with_reducible refine' t_newLS ?q0 ?q1); (case q0 => simp only [ List.length , sizeLine_eq ]; omega); intro _ _ _ _ _; (with_reducible refine s_cons ?_); (with_reducible refine t_tup ?_); (with_reducible refine s_cons ?_); (with_reducible refine s_c ?_); (with_reducible refine s_nil ?_); (with_reducible refine' t_newT ?q2 ?q3); (case q2 => simp only [ List.length , sizeLine_eq ]; omega); intro _ _ _ _ _; (with_reducible refine s_cons ?_); (with_reducible refine' s_dnewS ?q4); intro _ _ _ _ _; (with_reducible refine s_cons ?_); (with_reducible refine t_lst ?_); (with_reducible refine s_nil ?_); (with_reducible refine' t_newLS ?q5 ?q6); (case q5 => simp only [ List.length , sizeLine_eq ]; omega); intro _ _ _ _ _; (with_reducible refine s_nil ?_); (with_reducible refine' t_newLS ?q7 ?q8); (case q7 => simp only [ List.length , sizeLine_eq ]; omega); intro _ _ _ _ _; (with_reducible refine' s_gname ?q9 ?q10); (case q9 => simp only [ List.set_cons_succ , List.set_cons_zero ]; exact rfl); (with_reducible refine s_ret ?_); (with_reducible refine s_op ?_); (with_reducible refine' s_var ?q11 ?q12); (case q11 => exact rfl); (with_reducible refine t_lst ?_); (with_reducible refine s_cons ?_); (with_reducible refine s_c ?_); (with_reducible refine s_cons ?_); (with_reducible refine s_c ?_); (with_reducible refine s_cons ?_); (with_reducible refine s_c ?_); (with_reducible refine s_cons ?_); (with_reducible refine s_op ?_); (with_reducible refine s_c ?_); (with_reducible refine s_c ?_); (with_reducible refine' s_powN ?q13 ?q14 ?q15); (case q13 => exact ⟨ by decide , by decide , by decide ⟩); (case q14 => exact p10_29); (with_reducible refine s_nil ?_); (with_reducible refine' t_newLS ?q16 ?q17); (case q16 => simp only [ List.length , sizeLine_eq ]; omega); intro _ _ _ _ _; (with_reducible refine' s_catS ?q18 ?q19 ?q20 ?q21); (case q18 => refine' Wd.ok _ _ _ ?q22; (case q22 => refine' st_go ( by assumption ) ?q23; (case q23 => assumption))); (case q19 => refine' Wd.ok _ _ _ ?q24; (case q24 => assumption)); (case q20 => simp only [ List.length_append , List.length_cons , List.length_nil , List.length_map , List.length_reverse , List.length_replicate , sizeLine_eq ]; omega); intro _ _ _ _ _)
  rename_i p1 v1 e1 n1 s1 p2 v2 e2 n2 s2 p3 v3 e3 n3 s3 p4 v4 e4 n4 s4 p5 v5 e5 n5 s5 p6 v6 e6 n6 s6 p7 v7 e7 n7 s7
  have s1 := st_go e7 (st_go e6 (st_go e5 (st_go e4 (st_go e3 (st_go e2 s1)))))
  have s2 := st_go e7 (st_go e6 (st_go e5 (st_go e4 (st_go e3 s2))))
  have s3 := st_go e7 (st_go e6 (st_go e5 (st_go e4 s3)))
  have s4 := st_go e7 (st_go e6 (st_go e5 s4))
  refine h v7 p7 _ (by (refine' Ext.step ?q25 ?q26 ?q27; (case q26 => assumption); (case q25 => refine' Ext.step ?q28 ?q29 ?q30; (case q29 => assumption); (case q28 => refine' Ext.step ?q31 ?q32 ?q33; (case q32 => assumption); (case q31 => refine' Ext.step ?q34 ?q35 ?q36; (case q35 => assumption); (case q34 => refine' Ext.step ?q37 ?q38 ?q39; (case q38 => assumption); (case q37 => refine' Ext.step ?q40 ?q41 ?q42; (case q41 => assumption); (case q40 => assumption); (case q42 => exact fun _ z => z.elim)); (case q39 => exact fun _ z => z.elim)); (case q36 => exact fun _ z => z.elim)); (case q33 => exact fun _ z => z.elim)); (case q30 => exact fun _ z => z.elim)); (case q27 => exact fun _ z => z.elim))) s7 rfl (all_app ?_ ?_)
  · refine all_cons (bad_none rfl) <| all_cons (bad_str ⟨by decide, by decide +kernel⟩ (by decide +kernel)) <| all_cons (bad_str ⟨by decide, by decide +kernel⟩ (by decide +kernel)) <| all_cons (bad_str ⟨by decide, by decide +kernel⟩ (by decide +kernel)) <| all_cons (bad_str ⟨by decide, by decide +kernel⟩ (by decide +kernel)) <| all_cons (bad_str ⟨by decide, by decide +kernel⟩ (by decide +kernel)) <| all_cons (bad_str ⟨by decide, by decide +kernel⟩ (by decide +kernel)) <| all_cons (bad_str ⟨by decide, by decide +kernel⟩ (by decide +kernel)) <| all_cons (bad_str ⟨by decide, by decide +kernel⟩ (by decide +kernel)) <| all_cons (bad_str ⟨by decide, by decide +kernel⟩ (by decide +kernel)) <| all_cons (bad_str ⟨by decide, by decide +kernel⟩ (by decide +kernel)) <| all_cons (bad_int rfl) <| all_cons (bad_int rfl) <| all_cons (bad_bl rfl) <| all_cons (bad_lst s1 (.cons (.str _) .nil)) <| all_cons (bad_tup s2 (.cons (.str _) .nil)) <| all_cons (bad_dct s3) <| all_cons (bad_lst s4 .nil) all_nil
  · refine all_cons (bad_str ⟨by decide, by decide +kernel⟩ (by decide +kernel)) <| all_cons (bad_bl rfl) <| all_cons (bad_str ⟨by decide, by decide +kernel⟩ (by decide +kernel)) <| all_cons (bad_int rfl) all_nil
abbrev nm_l_numbers : List Str := ["_law_bound", "_law_low", "_law_some"]
theorem sc_l_numbers : FnScope nm_l_numbers ["_law_bound", "_law_low"] (defScope s_l_numbers) := ⟨rfl, rfl, rfl, by decide +kernel, rfl, by decide +kernel, by decide +kernel⟩
theorem st_l_numbers (a b : V) : start nm_l_numbers [a, b] = [some a, some b, none] := rfl
def p_l_numbers (K : PySem.W.Frag) (w : Wd) (a b : V) (Q : VK) (_ : XK) : Prop := ∃ s, ∃ B L : Int, a = .int B ∧ b = .int L ∧ (s = .moment ∨ s = .reading) ∧ (∀ i : Int, i < L ∨ B < i → okS s (.int i) = false) ∧ -10000000000 ≤ L ∧ L ≤ 0 ∧ 0 ≤ B ∧ B ≤ 10000000000 ∧ ∀ v r vs, Ext Non w v → v.S r = some (.lst vs) → vs.length = 16 → (∀ x ∈ vs, BadT K v.S s x) → Q (.ref r) v.H
theorem ok_l_numbers {f : Addr} {fd : FuncData} {C_Entry C_Within C_At C_Between C_Read C_Joint C_Sifted C_LogError C_NoBond C_NoEntry C_NoMinutes C_NoMoment C_NoName C_NoPlace C_NoReading C_Taken C_TooMany : Addr} (F : Fun K "_law_numbers" "_law_numbers" s_l_numbers f fd) (T : Txt K mg C_Entry C_Within C_At C_Between C_Read C_Joint C_Sifted C_LogError C_NoBond C_NoEntry C_NoMinutes C_NoMoment C_NoName C_NoPlace C_NoReading C_Taken C_TooMany)  : FnOk P ww K mg base CX0 1 f fd ["_law_bound", "_law_low"] (pr2 (p_l_numbers K)) := by
  refine F.ok sc_l_numbers (fun vs H Q E h => len2 h) (fun cdv A outer s H vs Q E hr h => ?_)
  obtain ⟨w, x0, x1,  rfl, rfl, h⟩ := h
  have ekT := ek_T (P := P) (ww := ww) (base := base) T
  have oex_NoBond := T.oex_NoBond; have xf_NoBond := T.xf_NoBond; have ec_NoBond := T.ec_NoBond; have xn_NoBond := T.xn_NoBond
  have oex_NoEntry := T.oex_NoEntry; have xf_NoEntry := T.xf_NoEntry; have ec_NoEntry := T.ec_NoEntry; have xn_NoEntry := T.xn_NoEntry
  have oex_NoMinutes := T.oex_NoMinutes; have xf_NoMinutes := T.xf_NoMinutes; have ec_NoMinutes := T.ec_NoMinutes; have xn_NoMinutes := T.xn_NoMinutes
  have oex_NoMoment := T.oex_NoMoment; have xf_NoMoment := T.xf_NoMoment; have ec_NoMoment := T.ec_NoMoment; have xn_NoMoment := T.xn_NoMoment
  have oex_NoName := T.oex_NoName; have xf_NoName := T.xf_NoName; have ec_NoName := T.ec_NoName; have xn_NoName := T.xn_NoName
  have oex_NoPlace := T.oex_NoPlace; have xf_NoPlace := T.xf_NoPlace; have ec_NoPlace := T.ec_NoPlace; have xn_NoPlace := T.xn_NoPlace
  have oex_NoReading := T.oex_NoReading; have xf_NoReading := T.xf_NoReading; have ec_NoReading := T.ec_NoReading; have xn_NoReading := T.xn_NoReading
  have oex_Taken := T.oex_Taken; have xf_Taken := T.xf_Taken; have ec_Taken := T.ec_Taken; have xn_Taken := T.xn_Taken
  have oex_TooMany := T.oex_TooMany; have xf_TooMany := T.xf_TooMany; have ec_TooMany := T.ec_TooMany; have xn_TooMany := T.xn_TooMany
  refine ⟨_, (pss_cons (ps_set (i := 2) sc_l_numbers.nd rfl (Or.inl rfl) (pe_lst (pa_cons (pe_op g_sub (pv 1) pe_int) (pa_cons (pe_op (kAdd K) (pv 0) pe_int) (pa_cons (pe_op g_sub pe_int (pe_op g_pow pe_int pe_int)) (pa_cons (pe_op g_pow pe_int pe_int) (pa_cons pe_bl (pa_cons pe_bl (pa_cons pe_non (pa_cons pe_str (pa_cons pe_str (pa_cons (pe_lst (pa_cons pe_int pa_nil)) (pa_cons (pe_tup (pa_cons pe_int pa_nil)) (pa_cons pe_dnewK (pa_cons (pe_lst pa_nil) pa_nil)))))))))))))))
      (pss_one (ps_ret (pe_op (kAdd K) (pv 2) (pe_lst (pa_cons (pe_op (kAdd K) (pv 0) (pe_op g_pow pe_int pe_int)) (pa_cons (pe_op g_sub (pv 1) (pe_op g_pow pe_int pe_int)) (pa_cons (pe_tup (pa_cons pe_str (pa_cons pe_int pa_nil))) pa_nil)))))))), ?_⟩
  rw [st_l_numbers]
  obtain ⟨s, B, L, rfl, rfl, hs, hi, b1, b2, b3, b4, k⟩ := h
  ((with_reducible refine s_seq ?_); (with_reducible refine s_asg ?_); (with_reducible refine t_lst ?_); (with_reducible refine s_cons ?_); (with_reducible refine s_op ?_); (with_reducible refine' s_var ?q43 ?q44); (case q43 => exact rfl); (with_reducible refine s_c ?_); (with_reducible refine s_sub ?_); (with_reducible refine s_cons ?_); (with_reducible refine s_op ?_); (with_reducible refine' s_var ?q45 ?q46); (case q45 => exact rfl); (with_reducible refine s_c ?_); (with_reducible refine s_add ?_); (with_reducible refine s_cons ?_); (with_reducible refine s_op ?_); (with_reducible refine s_c ?_); (with_reducible refine s_op ?_); (with_reducible refine s_c ?_); (with_reducible refine s_c ?_); (with_reducible refine' s_powN ?q47 ?q48 ?q49); (case q47 => exact ⟨ by decide , by decide , by decide ⟩); (case q48 => exact p10_29); (with_reducible refine s_sub ?_); (with_reducible refine s_cons ?_); (with_reducible refine s_op ?_); (with_reducible refine s_c ?_); (with_reducible refine s_c ?_); (with_reducible refine' s_powN ?q50 ?q51 ?q52); (case q50 => exact ⟨ by decide , by decide , by decide ⟩); (case q51 => exact p10_29); (with_reducible refine s_cons ?_); (with_reducible refine s_c ?_); (with_reducible refine s_cons ?_); (with_reducible refine s_c ?_); (with_reducible refine s_cons ?_); (with_reducible refine s_c ?_); (with_reducible refine s_cons ?_); (with_reducible refine s_c ?_); (with_reducible refine s_cons ?_); (with_reducible refine s_c ?_); (with_reducible refine s_cons ?_); (with_reducible refine t_lst ?_); (with_reducible refine s_cons ?_); (with_reducible refine s_c ?_); (with_reducible refine s_nil ?_); (with_reducible refine' t_newLS ?q53 ?q54); (case q53 => simp only [ List.length , sizeLine_eq ]; omega); intro _ _ _ _ _; (with_reducible refine s_cons ?_); (with_reducible refine t_tup ?_); (with_reducible refine s_cons ?_); (with_reducible refine s_c ?_); (with_reducible refine s_nil ?_); (with_reducible refine' t_newT ?q55 ?q56); (case q55 => simp only [ List.length , sizeLine_eq ]; omega); intro _ _ _ _ _; (with_reducible refine s_cons ?_); (with_reducible refine' s_dnewS ?q57); intro _ _ _ _ _; (with_reducible refine s_cons ?_); (with_reducible refine t_lst ?_); (with_reducible refine s_nil ?_); (with_reducible refine' t_newLS ?q58 ?q59); (case q58 => simp only [ List.length , sizeLine_eq ]; omega); intro _ _ _ _ _; (with_reducible refine s_nil ?_); (with_reducible refine' t_newLS ?q60 ?q61); (case q60 => simp only [ List.length , sizeLine_eq ]; omega); intro _ _ _ _ _; (with_reducible refine' s_gname ?q62 ?q63); (case q62 => simp only [ List.set_cons_succ , List.set_cons_zero ]; exact rfl); (with_reducible refine s_ret ?_); (with_reducible refine s_op ?_); (with_reducible refine' s_var ?q64 ?q65); (case q64 => exact rfl); (with_reducible refine t_lst ?_); (with_reducible refine s_cons ?_); (with_reducible refine s_op ?_); (with_reducible refine' s_var ?q66 ?q67); (case q66 => exact rfl); (with_reducible refine s_op ?_); (with_reducible refine s_c ?_); (with_reducible refine s_c ?_); (with_reducible refine' s_powN ?q68 ?q69 ?q70); (case q68 => exact ⟨ by decide , by decide , by decide ⟩); (case q69 => exact p10_9); (with_reducible refine s_add ?_); (with_reducible refine s_cons ?_); (with_reducible refine s_op ?_); (with_reducible refine' s_var ?q71 ?q72); (case q71 => exact rfl); (with_reducible refine s_op ?_); (with_reducible refine s_c ?_); (with_reducible refine s_c ?_); (with_reducible refine' s_powN ?q73 ?q74 ?q75); (case q73 => exact ⟨ by decide , by decide , by decide ⟩); (case q74 => exact p10_9); (with_reducible refine s_sub ?_); (with_reducible refine s_cons ?_); (with_reducible refine t_tup ?_); (with_reducible refine s_cons ?_); (with_reducible refine s_c ?_); (with_reducible refine s_cons ?_); (with_reducible refine s_c ?_); (with_reducible refine s_nil ?_); (with_reducible refine' t_newT ?q76 ?q77); (case q76 => simp only [ List.length , sizeLine_eq ]; omega); intro _ _ _ _ _; (with_reducible refine s_nil ?_); (with_reducible refine' t_newLS ?q78 ?q79); (case q78 => simp only [ List.length , sizeLine_eq ]; omega); intro _ _ _ _ _; (with_reducible refine' s_catS ?q80 ?q81 ?q82 ?q83); (case q80 => refine' Wd.ok _ _ _ ?q84; (case q84 => refine' st_go ( by assumption ) ?q85; (case q85 => refine' st_go ( by assumption ) ?q86; (case q86 => assumption)))); (case q81 => refine' Wd.ok _ _ _ ?q87; (case q87 => assumption)); (case q82 => simp only [ List.length_append , List.length_cons , List.length_nil , List.length_map , List.length_reverse , List.length_replicate , sizeLine_eq ]; omega); intro _ _ _ _ _)
  rename_i p1 v1 e1 n1 s1 p2 v2 e2 n2 s2 p3 v3 e3 n3 s3 p4 v4 e4 n4 s4 p5 v5 e5 n5 s5 p6 v6 e6 n6 s6 p7 v7 e7 n7 s7 p8 v8 e8 n8 s8
  have s1 := st_go e8 (st_go e7 (st_go e6 (st_go e5 (st_go e4 (st_go e3 (st_go e2 s1))))))
  have s2 := st_go e8 (st_go e7 (st_go e6 (st_go e5 (st_go e4 (st_go e3 s2)))))
  have s3 := st_go e8 (st_go e7 (st_go e6 (st_go e5 (st_go e4 s3))))
  have s4 := st_go e8 (st_go e7 (st_go e6 (st_go e5 s4)))
  have s6 := st_go e8 (st_go e7 s6)
  have hn : ∀ d : PyData, (∀ i, d ≠ .int i) → okS s d = false := fun d hd => by
    rcases hs with rfl | rfl <;> cases d <;> first | rfl | exact absurd rfl (hd _)
  refine k v8 p8 _ (by (refine' Ext.step ?q88 ?q89 ?q90; (case q89 => assumption); (case q88 => refine' Ext.step ?q91 ?q92 ?q93; (case q92 => assumption); (case q91 => refine' Ext.step ?q94 ?q95 ?q96; (case q95 => assumption); (case q94 => refine' Ext.step ?q97 ?q98 ?q99; (case q98 => assumption); (case q97 => refine' Ext.step ?q100 ?q101 ?q102; (case q101 => assumption); (case q100 => refine' Ext.step ?q103 ?q104 ?q105; (case q104 => assumption); (case q103 => refine' Ext.step ?q106 ?q107 ?q108; (case q107 => assumption); (case q106 => assumption); (case q108 => exact fun _ z => z.elim)); (case q105 => exact fun _ z => z.elim)); (case q102 => exact fun _ z => z.elim)); (case q99 => exact fun _ z => z.elim)); (case q96 => exact fun _ z => z.elim)); (case q93 => exact fun _ z => z.elim)); (case q90 => exact fun _ z => z.elim))) s8 rfl (all_app ?_ ?_)
  · refine all_cons (bad_int (hi _ (by omega))) <| all_cons (bad_int (hi _ (by omega))) <| all_cons (bad_int (hi _ (by omega))) <| all_cons (bad_int (hi _ (by omega))) <| all_cons (bad_bl (hn _ nofun)) <| all_cons (bad_bl (hn _ nofun)) <| all_cons (bad_none (hn _ nofun)) <| all_cons (bad_str ⟨by decide, by decide +kernel⟩ (hn _ nofun)) <| all_cons (bad_str ⟨by decide, by decide +kernel⟩ (hn _ nofun)) <| all_cons (bad_lst s1 (.cons (.int _) .nil)) <| all_cons (bad_tup s2 (.cons (.int _) .nil)) <| all_cons (bad_dct s3) <| all_cons (bad_lst s4 .nil) all_nil
  · refine all_cons (bad_int (hi _ (by omega))) <| all_cons (bad_int (hi _ (by omega))) <| all_cons (bad_tup s6 (.cons (.str _) (.cons (.int _) .nil))) all_nil
abbrev nm_l_sorts : List Str := ["_law_kind", "_law_sorts_here"]
theorem sc_l_sorts : FnScope nm_l_sorts ["_law_kind"] (defScope s_l_sorts) := ⟨rfl, rfl, rfl, by decide +kernel, rfl, by decide +kernel, by decide +kernel⟩
theorem st_l_sorts (a : V) : start nm_l_sorts [a] = [some a, none] := rfl
def p_l_sorts (w : Wd) (a : V) (Q : VK) (_ : XK) : Prop := ∃ k, a = .str (wordK k) ∧ ∀ v r, Ext Non w v → v.S r = some (.lst ((srts k).map fun s => V.str s.z)) → Q (.ref r) v.H
theorem ok_l_sorts {f : Addr} {fd : FuncData} {C_Entry C_Within C_At C_Between C_Read C_Joint C_Sifted C_LogError C_NoBond C_NoEntry C_NoMinutes C_NoMoment C_NoName C_NoPlace C_NoReading C_Taken C_TooMany : Addr} (F : Fun K "_law_sorts" "_law_sorts" s_l_sorts f fd) (T : Txt K mg C_Entry C_Within C_At C_Between C_Read C_Joint C_Sifted C_LogError C_NoBond C_NoEntry C_NoMinutes C_NoMoment C_NoName C_NoPlace C_NoReading C_Taken C_TooMany)  : FnOk P ww K mg base CX0 1 f fd ["_law_kind"] (pr1 (p_l_sorts)) := by
  refine F.ok sc_l_sorts (fun vs H Q E h => len1 h) (fun cdv A outer s H vs Q E hr h => ?_)
  obtain ⟨w, x0,  rfl, rfl, h⟩ := h
  have ekT := ek_T (P := P) (ww := ww) (base := base) T
  have oex_NoBond := T.oex_NoBond; have xf_NoBond := T.xf_NoBond; have ec_NoBond := T.ec_NoBond; have xn_NoBond := T.xn_NoBond
  have oex_NoEntry := T.oex_NoEntry; have xf_NoEntry := T.xf_NoEntry; have ec_NoEntry := T.ec_NoEntry; have xn_NoEntry := T.xn_NoEntry
  have oex_NoMinutes := T.oex_NoMinutes; have xf_NoMinutes := T.xf_NoMinutes; have ec_NoMinutes := T.ec_NoMinutes; have xn_NoMinutes := T.xn_NoMinutes
  have oex_NoMoment := T.oex_NoMoment; have xf_NoMoment := T.xf_NoMoment; have ec_NoMoment := T.ec_NoMoment; have xn_NoMoment := T.xn_NoMoment
  have oex_NoName := T.oex_NoName; have xf_NoName := T.xf_NoName; have ec_NoName := T.ec_NoName; have xn_NoName := T.xn_NoName
  have oex_NoPlace := T.oex_NoPlace; have xf_NoPlace := T.xf_NoPlace; have ec_NoPlace := T.ec_NoPlace; have xn_NoPlace := T.xn_NoPlace
  have oex_NoReading := T.oex_NoReading; have xf_NoReading := T.xf_NoReading; have ec_NoReading := T.ec_NoReading; have xn_NoReading := T.xn_NoReading
  have oex_Taken := T.oex_Taken; have xf_Taken := T.xf_Taken; have ec_Taken := T.ec_Taken; have xn_Taken := T.xn_Taken
  have oex_TooMany := T.oex_TooMany; have xf_TooMany := T.xf_TooMany; have ec_TooMany := T.ec_TooMany; have xn_TooMany := T.xn_TooMany
  refine ⟨_, (pss_cons (ps_set (i := 1) sc_l_sorts.nd rfl (Or.inl rfl) (pe_lst (pa_cons (pe_lst (pa_cons pe_str pa_nil)) (pa_cons (pe_lst (pa_cons pe_str (pa_cons pe_str (pa_cons pe_str pa_nil)))) (pa_cons (pe_lst (pa_cons pe_str (pa_cons pe_str pa_nil))) (pa_cons (pe_lst (pa_cons pe_str (pa_cons pe_str (pa_cons pe_str (pa_cons pe_str pa_nil))))) pa_nil))))))
      (pss_cons (ps_set (i := 1) sc_l_sorts.nd rfl (Or.inl rfl) (pe_op (kAdd K) (pv 1) (pe_lst (pa_cons (pe_lst (pa_cons pe_str (pa_cons pe_str (pa_cons pe_str pa_nil)))) (pa_cons (pe_lst (pa_cons pe_str (pa_cons pe_str pa_nil))) (pa_cons (pe_lst (pa_cons pe_str (pa_cons pe_str pa_nil))) pa_nil))))))
      (pss_one (ps_ret (pe_ix (kIx K) (pv 1) (pe_bm PySem.F.plainAttrs_list PySem.F.slot_list_index PySem.F.type_list_index mt_index (pe_lst (pa_cons pe_str (pa_cons pe_str (pa_cons pe_str (pa_cons pe_str (pa_cons pe_str (pa_cons pe_str (pa_cons pe_str pa_nil)))))))) (pa_cons (pv 0) pa_nil)) (fun _ _ => rfl)))))), ?_⟩
  rw [st_l_sorts]
  obtain ⟨k, rfl, kk⟩ := h
  ((with_reducible refine s_seq ?_); (with_reducible refine s_asg ?_); (with_reducible refine t_lst ?_); (with_reducible refine s_cons ?_); (with_reducible refine t_lst ?_); (with_reducible refine s_cons ?_); (with_reducible refine s_c ?_); (with_reducible refine s_nil ?_); (with_reducible refine' t_newLS ?q109 ?q110); (case q109 => simp only [ List.length , sizeLine_eq ]; omega); intro _ _ _ _ _; (with_reducible refine s_cons ?_); (with_reducible refine t_lst ?_); (with_reducible refine s_cons ?_); (with_reducible refine s_c ?_); (with_reducible refine s_cons ?_); (with_reducible refine s_c ?_); (with_reducible refine s_cons ?_); (with_reducible refine s_c ?_); (with_reducible refine s_nil ?_); (with_reducible refine' t_newLS ?q111 ?q112); (case q111 => simp only [ List.length , sizeLine_eq ]; omega); intro _ _ _ _ _; (with_reducible refine s_cons ?_); (with_reducible refine t_lst ?_); (with_reducible refine s_cons ?_); (with_reducible refine s_c ?_); (with_reducible refine s_cons ?_); (with_reducible refine s_c ?_); (with_reducible refine s_nil ?_); (with_reducible refine' t_newLS ?q113 ?q114); (case q113 => simp only [ List.length , sizeLine_eq ]; omega); intro _ _ _ _ _; (with_reducible refine s_cons ?_); (with_reducible refine t_lst ?_); (with_reducible refine s_cons ?_); (with_reducible refine s_c ?_); (with_reducible refine s_cons ?_); (with_reducible refine s_c ?_); (with_reducible refine s_cons ?_); (with_reducible refine s_c ?_); (with_reducible refine s_cons ?_); (with_reducible refine s_c ?_); (with_reducible refine s_nil ?_); (with_reducible refine' t_newLS ?q115 ?q116); (case q115 => simp only [ List.length , sizeLine_eq ]; omega); intro _ _ _ _ _; (with_reducible refine s_nil ?_); (with_reducible refine' t_newLS ?q117 ?q118); (case q117 => simp only [ List.length , sizeLine_eq ]; omega); intro _ _ _ _ _; (with_reducible refine' s_gname ?q119 ?q120); (case q119 => simp only [ List.set_cons_succ , List.set_cons_zero ]; exact rfl); (with_reducible refine s_seq ?_); (with_reducible refine s_asg ?_); (with_reducible refine s_op ?_); (with_reducible refine' s_var ?q121 ?q122); (case q121 => exact rfl); (with_reducible refine t_lst ?_); (with_reducible refine s_cons ?_); (with_reducible refine t_lst ?_); (with_reducible refine s_cons ?_); (with_reducible refine s_c ?_); (with_reducible refine s_cons ?_); (with_reducible refine s_c ?_); (with_reducible refine s_cons ?_); (with_reducible refine s_c ?_); (with_reducible refine s_nil ?_); (with_reducible refine' t_newLS ?q123 ?q124); (case q123 => simp only [ List.length , sizeLine_eq ]; omega); intro _ _ _ _ _; (with_reducible refine s_cons ?_); (with_reducible refine t_lst ?_); (with_reducible refine s_cons ?_); (with_reducible refine s_c ?_); (with_reducible refine s_cons ?_); (with_reducible refine s_c ?_); (with_reducible refine s_nil ?_); (with_reducible refine' t_newLS ?q125 ?q126); (case q125 => simp only [ List.length , sizeLine_eq ]; omega); intro _ _ _ _ _; (with_reducible refine s_cons ?_); (with_reducible refine t_lst ?_); (with_reducible refine s_cons ?_); (with_reducible refine s_c ?_); (with_reducible refine s_cons ?_); (with_reducible refine s_c ?_); (with_reducible refine s_nil ?_); (with_reducible refine' t_newLS ?q127 ?q128); (case q127 => simp only [ List.length , sizeLine_eq ]; omega); intro _ _ _ _ _; (with_reducible refine s_nil ?_); (with_reducible refine' t_newLS ?q129 ?q130); (case q129 => simp only [ List.length , sizeLine_eq ]; omega); intro _ _ _ _ _; (with_reducible refine' s_catS ?q131 ?q132 ?q133 ?q134); (case q131 => refine' Wd.ok _ _ _ ?q135; (case q135 => refine' st_go ( by assumption ) ?q136; (case q136 => refine' st_go ( by assumption ) ?q137; (case q137 => refine' st_go ( by assumption ) ?q138; (case q138 => refine' st_go ( by assumption ) ?q139; (case q139 => assumption)))))); (case q132 => refine' Wd.ok _ _ _ ?q140; (case q140 => assumption)); (case q133 => simp only [ List.length_append , List.length_cons , List.length_nil , List.length_map , List.length_reverse , List.length_replicate , sizeLine_eq ]; omega); intro _ _ _ _ _; (with_reducible refine' s_gname ?q141 ?q142); (case q141 => simp only [ List.set_cons_succ , List.set_cons_zero ]; exact rfl); (with_reducible refine s_ret ?_); (with_reducible refine s_op ?_); (with_reducible refine' s_var ?q143 ?q144); (case q143 => exact rfl); (with_reducible refine s_BM ?_); (with_reducible refine t_lst ?_); (with_reducible refine s_cons ?_); (with_reducible refine s_c ?_); (with_reducible refine s_cons ?_); (with_reducible refine s_c ?_); (with_reducible refine s_cons ?_); (with_reducible refine s_c ?_); (with_reducible refine s_cons ?_); (with_reducible refine s_c ?_); (with_reducible refine s_cons ?_); (with_reducible refine s_c ?_); (with_reducible refine s_cons ?_); (with_reducible refine s_c ?_); (with_reducible refine s_cons ?_); (with_reducible refine s_c ?_); (with_reducible refine s_nil ?_); (with_reducible refine' t_newLS ?q145 ?q146); (case q145 => simp only [ List.length , sizeLine_eq ]; omega); intro _ _ _ _ _)
  rename_i p0 v0 e0 n0 s0 p1 v1 e1 n1 s1 p2 v2 e2 n2 s2 p3 v3 e3 n3 s3 p4 v4 e4 n4 s4 p5 v5 e5 n5 s5 p6 v6 e6 n6 s6 p7 v7 e7 n7 s7 p8 v8 e8 n8 s8 p9 v9 e9 n9 s9 pa va ea na sa
  have sa : va.S pa = some (.lst (kws.map V.str)) := sa
  refine ⟨.inl ⟨rfl, _, SqL.of (va.ok _ _ sa)⟩, ?_⟩
  ((with_reducible refine s_cons ?_); (with_reducible refine' s_var ?q171 ?q172); (case q171 => exact rfl); (with_reducible refine s_nil ?_))
  refine s_lix (ys := kws) (j := kidx k) (SqL.of (va.ok _ _ sa)) (by cases k <;> rfl) (by cases k <;> decide +kernel) ?_
  have ew : Ext Non w va := by (refine' Ext.step ?q173 ?q174 ?q175; (case q174 => assumption); (case q173 => refine' Ext.step ?q176 ?q177 ?q178; (case q177 => assumption); (case q176 => refine' Ext.step ?q179 ?q180 ?q181; (case q180 => assumption); (case q179 => refine' Ext.step ?q182 ?q183 ?q184; (case q183 => assumption); (case q182 => refine' Ext.step ?q185 ?q186 ?q187; (case q186 => assumption); (case q185 => refine' Ext.step ?q188 ?q189 ?q190; (case q189 => assumption); (case q188 => refine' Ext.step ?q191 ?q192 ?q193; (case q192 => assumption); (case q191 => refine' Ext.step ?q194 ?q195 ?q196; (case q195 => assumption); (case q194 => refine' Ext.step ?q197 ?q198 ?q199; (case q198 => assumption); (case q197 => refine' Ext.step ?q200 ?q201 ?q202; (case q201 => assumption); (case q200 => assumption); (case q202 => exact fun _ z => z.elim)); (case q199 => exact fun _ z => z.elim)); (case q196 => exact fun _ z => z.elim)); (case q193 => exact fun _ z => z.elim)); (case q190 => exact fun _ z => z.elim)); (case q187 => exact fun _ z => z.elim)); (case q184 => exact fun _ z => z.elim)); (case q181 => exact fun _ z => z.elim)); (case q178 => exact fun _ z => z.elim)); (case q175 => exact fun _ z => z.elim))
  have s0 := st_go ea (st_go e9 (st_go e8 (st_go e7 (st_go e6 (st_go e5 (st_go e4 (st_go e3 (st_go e2 (st_go e1 s0)))))))))
  have s1 := st_go ea (st_go e9 (st_go e8 (st_go e7 (st_go e6 (st_go e5 (st_go e4 (st_go e3 (st_go e2 s1))))))))
  have s2 := st_go ea (st_go e9 (st_go e8 (st_go e7 (st_go e6 (st_go e5 (st_go e4 (st_go e3 s2)))))))
  have s3 := st_go ea (st_go e9 (st_go e8 (st_go e7 (st_go e6 (st_go e5 (st_go e4 s3))))))
  have s5 := st_go ea (st_go e9 (st_go e8 (st_go e7 (st_go e6 s5))))
  have s6 := st_go ea (st_go e9 (st_go e8 (st_go e7 s6)))
  have s7 := st_go ea (st_go e9 (st_go e8 s7))
  have s9 := st_go ea s9
  cases k with
  | any => exact s_ixL s9 rfl (kk va p0 ew s0)
  | within => exact s_ixL s9 rfl (kk va p1 ew s1)
  | att => exact s_ixL s9 rfl (kk va p2 ew s2)
  | between => exact s_ixL s9 rfl (kk va p3 ew s3)
  | read => exact s_ixL s9 rfl (kk va p5 ew s5)
  | joint => exact s_ixL s9 rfl (kk va p6 ew s6)
  | sifted => exact s_ixL s9 rfl (kk va p7 ew s7)
abbrev nm_l_good : List Str := ["_law_kind", "_law_state", "_law_letters", "_law_name", "_law_place", "_law_moments", "_law_far", "_law_readings", "_law_parts", "_law_low", "_law_some", "_law_rest", "_law_k"]
theorem sc_l_good : FnScope nm_l_good ["_law_kind", "_law_state"] (defScope s_l_good) := ⟨rfl, rfl, rfl, by decide +kernel, rfl, by decide +kernel, by decide +kernel⟩
theorem st_l_good (a b : V) : start nm_l_good [a, b] = [some a, some b, none, none, none, none, none, none, none, none, none, none, none] := rfl
def p_l_good (K : PySem.W.Frag) (ec : EC) (w : Wd) (a b : V) (Q : VK) (_ : XK) : Prop := ∃ k p, a = .str (wordK k) ∧ b = .ref p ∧ Stt w p ∧ EK K ec ∧ ∀ v r vs, Ext (One p) w v → Stt v p → v.S r = some (.lst vs) → Args K ec v.S (srts k) vs ((srts k).map fun _ => none) → Q (.ref r) v.H
theorem ok_l_good {f : Addr} {fd : FuncData} {C_Entry C_Within C_At C_Between C_Read C_Joint C_Sifted C_LogError C_NoBond C_NoEntry C_NoMinutes C_NoMoment C_NoName C_NoPlace C_NoReading C_Taken C_TooMany : Addr} (F : Fun K "_law_good" "_law_good" s_l_good f fd) (T : Txt K mg C_Entry C_Within C_At C_Between C_Read C_Joint C_Sifted C_LogError C_NoBond C_NoEntry C_NoMinutes C_NoMoment C_NoName C_NoPlace C_NoReading C_Taken C_TooMany) (c_At_init : Mkr P ww K mg base (L2.CX P ww) C_At 5 (pr3 (p_At_init K C_NoName C_NoMoment))) (c_Entry_init : Mkr P ww K mg base (L2.CX P ww) C_Entry 3 (pr2 (p_Entry_init K C_NoName))) (c_Read_init : Mkr P ww K mg base (L2.CX P ww) C_Read 5 (pr4 (p_Read_init K C_NoName C_NoReading))) (c_Within_init : Mkr P ww K mg base (L2.CX P ww) C_Within 4 (pr4 (p_Within_init K C_NoName C_NoMoment))) (c_l_pull : Fnc P ww K mg base CX0 2 "_law_pull" (pr2 (p_l_pull))) : FnOk P ww K mg base CX0 7 f fd ["_law_kind", "_law_state"] (pr2 (p_l_good K (EC.mk C_Entry C_Within C_At C_Between C_Read C_Joint C_Sifted kdAll noKp))) := by
  refine F.ok sc_l_good (fun vs H Q E h => len2 h) (fun cdv A outer s H vs Q E hr h => ?_)
  obtain ⟨w, x0, x1,  rfl, rfl, h⟩ := h
  have ekT := ek_T (P := P) (ww := ww) (base := base) T
  have oex_NoBond := T.oex_NoBond; have xf_NoBond := T.xf_NoBond; have ec_NoBond := T.ec_NoBond; have xn_NoBond := T.xn_NoBond
  have oex_NoEntry := T.oex_NoEntry; have xf_NoEntry := T.xf_NoEntry; have ec_NoEntry := T.ec_NoEntry; have xn_NoEntry := T.xn_NoEntry
  have oex_NoMinutes := T.oex_NoMinutes; have xf_NoMinutes := T.xf_NoMinutes; have ec_NoMinutes := T.ec_NoMinutes; have xn_NoMinutes := T.xn_NoMinutes
  have oex_NoMoment := T.oex_NoMoment; have xf_NoMoment := T.xf_NoMoment; have ec_NoMoment := T.ec_NoMoment; have xn_NoMoment := T.xn_NoMoment
  have oex_NoName := T.oex_NoName; have xf_NoName := T.xf_NoName; have ec_NoName := T.ec_NoName; have xn_NoName := T.xn_NoName
  have oex_NoPlace := T.oex_NoPlace; have xf_NoPlace := T.xf_NoPlace; have ec_NoPlace := T.ec_NoPlace; have xn_NoPlace := T.xn_NoPlace
  have oex_NoReading := T.oex_NoReading; have xf_NoReading := T.xf_NoReading; have ec_NoReading := T.ec_NoReading; have xn_NoReading := T.xn_NoReading
  have oex_Taken := T.oex_Taken; have xf_Taken := T.xf_Taken; have ec_Taken := T.ec_Taken; have xn_Taken := T.xn_Taken
  have oex_TooMany := T.oex_TooMany; have xf_TooMany := T.xf_TooMany; have ec_TooMany := T.ec_TooMany; have xn_TooMany := T.xn_TooMany
  refine ⟨_, (pss_cons (ps_set (i := 2) sc_l_good.nd rfl (Or.inr rfl) pe_str)
      (pss_cons (ps_set (i := 3) sc_l_good.nd rfl (Or.inl rfl) (pe_join pe_str (pe_lc (own := [("_law_k", 12)]) (g := (gName 12)) (tt := tYes) (by rfl) sc_l_good.nd (pi_range1 rfl T.n_range (pa_cons (pe_ix (kIx K) (pe_lst (pa_cons pe_int (pa_cons pe_int (pa_cons pe_int pa_nil)))) (pe_fn c_l_pull hr (by decide) pass0 (pa_cons (pv 1) (pa_cons pe_int pa_nil))) (fun _ _ => rfl)) pa_nil)) (blkOk_by (own := [("_law_k", 12)]) (N := nm_l_good) (sc := defScope s_l_good) (by decide +kernel)) (fun _ _ _ _ _ => (pg_name (i := 12) sc_l_good.nd rfl (Or.inl rfl))) (fun _ _ _ _ _ => pts_nil) (fun _ _ _ _ _ => (pe_ix (kIx K) (pv 2) (pe_fn c_l_pull hr (by decide) pass0 (pa_cons (pv 1) (pa_cons pe_int pa_nil))) (fun _ _ => rfl))))))
      (pss_cons (ps_set (i := 4) sc_l_good.nd rfl (Or.inl rfl) (pe_join pe_str (pe_lc (own := [("_law_k", 12)]) (g := (gName 12)) (tt := tYes) (by rfl) sc_l_good.nd (pi_range1 rfl T.n_range (pa_cons (pe_ix (kIx K) (pe_lst (pa_cons pe_int (pa_cons pe_int (pa_cons pe_int pa_nil)))) (pe_fn c_l_pull hr (by decide) pass0 (pa_cons (pv 1) (pa_cons pe_int pa_nil))) (fun _ _ => rfl)) pa_nil)) (blkOk_by (own := [("_law_k", 12)]) (N := nm_l_good) (sc := defScope s_l_good) (by decide +kernel)) (fun _ _ _ _ _ => (pg_name (i := 12) sc_l_good.nd rfl (Or.inl rfl))) (fun _ _ _ _ _ => pts_nil) (fun _ _ _ _ _ => (pe_ix (kIx K) (pv 2) (pe_fn c_l_pull hr (by decide) pass0 (pa_cons (pv 1) (pa_cons pe_int pa_nil))) (fun _ _ => rfl))))))
      (pss_cons (ps_setLc (i := 5) (own := [("_law_k", 12)]) (g := (gName 12)) (tt := tYes) (by rfl) sc_l_good.nd rfl rfl (sw_true rfl rfl rfl (by decide +kernel)) (pi_range1 rfl T.n_range (pa_cons pe_int pa_nil)) (blkOk_by (own := [("_law_k", 12)]) (N := nm_l_good) (sc := defScope s_l_good) (by decide +kernel)) (fun _ _ _ _ _ => (pg_name (i := 12) sc_l_good.nd rfl (Or.inl rfl))) (fun _ _ _ _ _ => pts_nil) (fun _ _ _ _ _ => (pe_ix (kIx K) (pe_lst (pa_cons pe_int (pa_cons (pe_op g_pow pe_int pe_int) (pa_cons (pe_fn c_l_pull hr (by decide) pass0 (pa_cons (pv 1) (pa_cons (pe_op (kAdd K) (pe_op g_pow pe_int pe_int) pe_int) pa_nil))) pa_nil)))) (pe_fn c_l_pull hr (by decide) pass0 (pa_cons (pv 1) (pa_cons pe_int pa_nil))) (fun _ _ => rfl))))
      (pss_cons (ps_set (i := 6) sc_l_good.nd rfl (Or.inr rfl) (pe_op g_sub (pe_fn c_l_pull hr (by decide) pass0 (pa_cons (pv 1) (pa_cons (pe_op (kAdd K) (pe_op (kMul K) pe_int (pe_op g_pow pe_int pe_int)) pe_int) pa_nil))) (pe_op g_pow pe_int pe_int)))
      (pss_cons (ps_setLc (i := 7) (own := [("_law_k", 12)]) (g := (gName 12)) (tt := tYes) (by rfl) sc_l_good.nd rfl rfl (sw_true rfl rfl rfl (by decide +kernel)) (pi_range1 rfl T.n_range (pa_cons pe_int pa_nil)) (blkOk_by (own := [("_law_k", 12)]) (N := nm_l_good) (sc := defScope s_l_good) (by decide +kernel)) (fun _ _ _ _ _ => (pg_name (i := 12) sc_l_good.nd rfl (Or.inl rfl))) (fun _ _ _ _ _ => pts_nil) (fun _ _ _ _ _ => (pe_ix (kIx K) (pe_lst (pa_cons (pe_op g_sub pe_int (pe_op g_pow pe_int pe_int)) (pa_cons (pe_op g_pow pe_int pe_int) (pa_cons (pv 6) pa_nil)))) (pe_fn c_l_pull hr (by decide) pass0 (pa_cons (pv 1) (pa_cons pe_int pa_nil))) (fun _ _ => rfl))))
      (pss_cons (ps_if (pt_cmpR (kEq K hr.units) (pv 0) pe_str (nomark _)) (pss_cons (ps_set (i := 8) sc_l_good.nd rfl (Or.inl rfl) (pe_lst (pa_cons (pe_mkX takes0 c_Entry_init hr (by decide) T.g_Entry (pa_cons (pv 3) pa_nil)) (pa_cons (pe_mkX takes0 c_At_init hr (by decide) T.g_At (pa_cons (pv 3) (pa_cons (pe_ix (kIx K) (pv 5) pe_int (fun _ _ => rfl)) pa_nil))) (pa_cons (pe_mkX takes0 c_Read_init hr (by decide) T.g_Read (pa_cons pe_str (pa_cons (pv 4) (pa_cons (pe_ix (kIx K) (pv 7) pe_int (fun _ _ => rfl)) pa_nil)))) (pa_cons (pe_mkX takes0 c_Within_init hr (by decide) T.g_Within (pa_cons pe_str (pa_cons pe_int (pa_cons pe_int pa_nil)))) pa_nil))))))
      (pss_one (ps_ret (pe_lst (pa_cons (pv 3) (pa_cons (pe_slice (kSl K) (pe_op (kAdd K) (pv 8) (pv 8)) po_none (po_some (pe_op (kAdd K) pe_int (pe_fn c_l_pull hr (by decide) pass0 (pa_cons (pv 1) (pa_cons pe_int pa_nil)))))) pa_nil)))))) pss_nil)
      (pss_cons (ps_if (pt_cmpR (kEq K hr.units) (pv 0) pe_str (nomark _)) (pss_cons (ps_set (i := 9) sc_l_good.nd rfl (Or.inl rfl) (pe_callB (kMin K rfl) (by rfl) T.n_min (by decide +kernel) (pa_cons (pe_ix (kIx K) (pv 5) pe_int (fun _ _ => rfl)) (pa_cons (pe_op g_sub (pe_op g_pow pe_int pe_int) pe_int) pa_nil))))
      (pss_cons (ps_set (i := 10) sc_l_good.nd rfl (Or.inl rfl) (pe_lst (pa_cons (pe_mkX takes0 c_Within_init hr (by decide) T.g_Within (pa_cons pe_str (pa_cons (pv 9) (pa_cons (pe_op (kAdd K) (pv 9) pe_int) pa_nil)))) (pa_cons (pe_mkX takes0 c_At_init hr (by decide) T.g_At (pa_cons pe_str (pa_cons (pe_ix (kIx K) (pv 5) pe_int (fun _ _ => rfl)) pa_nil))) (pa_cons (pe_mkX takes0 c_Read_init hr (by decide) T.g_Read (pa_cons (pv 3) (pa_cons (pv 4) (pa_cons (pe_ix (kIx K) (pv 7) pe_int (fun _ _ => rfl)) pa_nil)))) (pa_cons (pe_mkX takes0 c_Within_init hr (by decide) T.g_Within (pa_cons pe_str (pa_cons pe_int (pa_cons pe_int pa_nil)))) pa_nil))))))
      (pss_one (ps_ret (pe_lst (pa_cons (pv 3) (pa_cons (pe_ix (kIx K) (pv 10) (pe_fn c_l_pull hr (by decide) pass0 (pa_cons (pv 1) (pa_cons pe_int pa_nil))) (fun _ _ => rfl)) pa_nil))))))) pss_nil)
      (pss_cons (ps_set (i := 11) sc_l_good.nd rfl (Or.inl rfl) (pe_lst (pa_cons (pe_lst pa_nil) (pa_cons (pv 5) (pa_cons (pe_slice (kSl K) (pv 5) po_none (po_some pe_int)) (pa_cons (pe_op (kAdd K) (pe_lst (pa_cons (pv 4) pa_nil)) (pv 7)) (pa_cons (pe_op (kAdd K) (pe_lst (pa_cons (pv 4) pa_nil)) (pe_slice (kSl K) (pv 7) po_none (po_some pe_int))) pa_nil)))))))
      (pss_one (ps_ret (pe_op (kAdd K) (pe_lst (pa_cons (pv 3) pa_nil)) (pe_ix (kIx K) (pv 11) (pe_bm PySem.F.plainAttrs_list PySem.F.slot_list_index PySem.F.type_list_index mt_index (pe_lst (pa_cons pe_str (pa_cons pe_str (pa_cons pe_str (pa_cons pe_str (pa_cons pe_str pa_nil)))))) (pa_cons (pv 0) pa_nil)) (fun _ _ => rfl)))))))))))))), ?_⟩
  rw [st_l_good]
  obtain ⟨k, p, rfl, rfl, pu, ek, kk⟩ := h
  wtm_at "gs"
  rename_i la va ea na sa vb db eb pub hb0 hb1
  ((with_reducible refine' s_ixSm ?q56 ?q57 ?q58 ?q59); (case q56 => refine' st_go ( by assumption ) ?q60; (case q60 => assumption)); (case q57 => omega); (case q58 => omega))
  intro x1 hv hm
  have ewb : Ext (One p) w vb := (ea.more fun _ z => z.elim).trans eb
  clear ea eb na sa pu
  obtain ⟨nn1, rfl, hn11, hn81⟩ : ∃ nn : Int, x1 = .int nn ∧ 1 ≤ nn ∧ nn ≤ 8 := by
    simp only [List.mem_cons, List.not_mem_nil, or_false] at hm
    rcases hm with rfl | rfl | rfl
    · exact ⟨_, rfl, by decide, by decide⟩
    · exact ⟨_, rfl, by decide, by decide⟩
    · exact ⟨_, rfl, by decide, by decide⟩
  clear hv hm
  ((with_reducible refine s_nil ?_); refine' ⟨ _ , rfl , ?q61 , ?q62 , ?q63 ⟩; (case q61 => show ( - ( 2 ^ 62 ) : Int ) ≤ _; omega); (case q62 => show _ < ( 2 ^ 62 : Int ); omega))
  intro D1 hD1
  have hpD1 : p ≠ D1 := stt_new' hD1 pub
  refine lc_rngI (α := Nat) (P := fun c => 97 ≤ c ∧ c ≤ 122) (gd := fun c => .str (sgl c)) (One p) (fun u => Stt u p) hD1 (fun h => hpD1 h.symm) (by rw [sizeLine_eq]; omega) (fun u e => pub.go e (fun z => z)) (fun u v h e => h.go e hpD1) ?r1 ?k1
  case r1 =>
    intro i u hi eu pu2 R Z hR
    ((with_reducible refine' s_gname ?q64 ?q65); (case q64 => exact rfl))
    refine ⟨rfl, s_yes (ite_tt ?_)⟩
    wtm_at "gs"
    rename_i v3 d3 e3 pu3 h30 h31
    refine s_ixZe (by rw [sizeLine_eq]; decide +kernel) h30 (by have h26 : (Str.ofString "abcdefghijklmnopqrstuvwxyz").length = 26 := (by decide +kernel); omega) fun c hc => ?_
    have := letter_at hc
    exact hR _ _ c e3 pu3 (by omega) (.str _)
  intro u1 acc cs1 eu1 pu1 hD' oD hr hl1 hP1
  have hr' : RpA u1.S acc ((cs1.map sgl).map PyData.str) := by rw [List.map_map]; exact hr
  obtain rfl := RpA.strs_inv hr'
  refine ⟨_, _, cs1.map sgl, rfl, rfl, .inl (SqL.of oD.h), join_sz hP1 (by omega), ?_⟩
  rw [TL.join_eq]
  obtain ⟨z1, hz1e, hz1⟩ : ∃ z, Str.join (Str.ofString "") (cs1.map sgl) = z ∧ tl z = cs1 := ⟨_, rfl, join_sgl _⟩
  rw [hz1e]
  have nz1 : NmOk z1 := ⟨by rw [hz1]; omega, by rw [hz1]; intro e; rw [e] at hl1; simp at hl1; omega, by rw [hz1]; exact hP1⟩
  have ew1 : Ext (One p) w u1 := ewb.trans eu1
  clear eu1 oD hr hr' hD' hD1 hpD1 hz1e hz1 hP1 hl1
  clear ewb pub
  wtm_at "gs"
  rename_i la va ea na sa vb db eb pub hb0 hb1
  ((with_reducible refine' s_ixSm ?q147 ?q148 ?q149 ?q150); (case q147 => refine' st_go ( by assumption ) ?q151; (case q151 => assumption)); (case q148 => omega); (case q149 => omega))
  intro x2 hv hm
  have ewb : Ext (One p) w vb := ew1.trans ((ea.more fun _ z => z.elim).trans eb)
  clear ea eb na sa pu1 ew1
  obtain ⟨nn2, rfl, hn12, hn82⟩ : ∃ nn : Int, x2 = .int nn ∧ 1 ≤ nn ∧ nn ≤ 8 := by
    simp only [List.mem_cons, List.not_mem_nil, or_false] at hm
    rcases hm with rfl | rfl | rfl
    · exact ⟨_, rfl, by decide, by decide⟩
    · exact ⟨_, rfl, by decide, by decide⟩
    · exact ⟨_, rfl, by decide, by decide⟩
  clear hv hm
  ((with_reducible refine s_nil ?_); refine' ⟨ _ , rfl , ?q152 , ?q153 , ?q154 ⟩; (case q152 => show ( - ( 2 ^ 62 ) : Int ) ≤ _; omega); (case q153 => show _ < ( 2 ^ 62 : Int ); omega))
  intro D2 hD2
  have hpD2 : p ≠ D2 := stt_new' hD2 pub
  refine lc_rngI (α := Nat) (P := fun c => 97 ≤ c ∧ c ≤ 122) (gd := fun c => .str (sgl c)) (One p) (fun u => Stt u p) hD2 (fun h => hpD2 h.symm) (by rw [sizeLine_eq]; omega) (fun u e => pub.go e (fun z => z)) (fun u v h e => h.go e hpD2) ?r2 ?k2
  case r2 =>
    intro i u hi eu pu2 R Z hR
    ((with_reducible refine' s_gname ?q155 ?q156); (case q155 => exact rfl))
    refine ⟨rfl, s_yes (ite_tt ?_)⟩
    wtm_at "gs"
    rename_i v3 d3 e3 pu3 h30 h31
    refine s_ixZe (by rw [sizeLine_eq]; decide +kernel) h30 (by have h26 : (Str.ofString "abcdefghijklmnopqrstuvwxyz").length = 26 := (by decide +kernel); omega) fun c hc => ?_
    have := letter_at hc
    exact hR _ _ c e3 pu3 (by omega) (.str _)
  intro u2 acc cs2 eu2 pu2 hD' oD hr hl2 hP2
  have hr' : RpA u2.S acc ((cs2.map sgl).map PyData.str) := by rw [List.map_map]; exact hr
  obtain rfl := RpA.strs_inv hr'
  refine ⟨_, _, cs2.map sgl, rfl, rfl, .inl (SqL.of oD.h), join_sz hP2 (by omega), ?_⟩
  rw [TL.join_eq]
  obtain ⟨z2, hz2e, hz2⟩ : ∃ z, Str.join (Str.ofString "") (cs2.map sgl) = z ∧ tl z = cs2 := ⟨_, rfl, join_sgl _⟩
  rw [hz2e]
  have nz2 : NmOk z2 := ⟨by rw [hz2]; omega, by rw [hz2]; intro e; rw [e] at hl2; simp at hl2; omega, by rw [hz2]; exact hP2⟩
  have ew2 : Ext (One p) w u2 := ewb.trans eu2
  clear eu2 oD hr hr' hD' hD2 hpD2 hz2e hz2 hP2 hl2
  clear ewb pub
  ((with_reducible refine' s_gname ?q165 ?q166); (case q165 => simp only [ List.set_cons_succ , List.set_cons_zero ]; exact rfl); (with_reducible refine s_seq ?_); (with_reducible refine s_asg ?_); (with_reducible refine s_Lc ?_); (with_reducible refine s_iRng1 ?_); (with_reducible refine s_cons ?_); (with_reducible refine s_c ?_); (with_reducible refine s_nil ?_); refine' ⟨ _ , rfl , ?q167 , ?q168 , ?q169 ⟩; (case q167 => show ( - ( 2 ^ 62 ) : Int ) ≤ _; omega); (case q168 => show _ < ( 2 ^ 62 : Int ); omega))
  intro D3 hD3
  have hpD3 : p ≠ D3 := stt_new' hD3 pu2
  refine lc_rngI (α := Int) (P := fun m => 0 ≤ m ∧ m ≤ 1000000000) (gd := PyData.int) (One p) (fun u => Stt u p) hD3 (fun h => hpD3 h.symm) (by rw [sizeLine_eq]; omega) (fun u e => pu2.go e (fun z => z)) (fun u v h e => h.go e hpD3) ?r3 ?k3
  case r3 =>
    intro i u hi eu pu0 R Z hR
    ((with_reducible refine' s_gname ?q170 ?q171); (case q170 => exact rfl))
    refine ⟨rfl, s_yes (ite_tt ?_)⟩
    wtm_at "gs"
    ((with_reducible refine' s_ixSm ?q945 ?q946 ?q947 ?q948); (case q945 => refine' st_go ( by assumption ) ?q949; (case q949 => assumption)); (case q946 => omega); (case q947 => omega))
    intro x hv hm
    clear hv
    obtain ⟨m, rfl, hm0, hm1⟩ : ∃ m : Int, x = .int m ∧ 0 ≤ m ∧ m ≤ 1000000000 := by
      simp only [List.mem_cons, List.not_mem_nil, or_false] at hm
      rcases hm with rfl | rfl | rfl
      · exact ⟨_, rfl, by omega, by omega⟩
      · exact ⟨_, rfl, by omega, by omega⟩
      · exact ⟨_, rfl, by omega, by omega⟩
    clear hm
    exact hR _ _ m (by (refine' Ext.step ?q950 ?q951 ?q952; (case q951 => assumption); (case q950 => refine' Ext.step ?q953 ?q954 ?q955; (case q954 => assumption); (case q953 => assumption); (case q955 => exact fun _ z => z.elim)); (case q952 => refine tch_one ?q956; refine Or.inr ?_; rfl))) (by assumption) ⟨hm0, hm1⟩ (.int _)
  intro v3 acc ms3 eu3 pu3 hD' oD hr hl3 hP3
  obtain rfl := RpA.ints_inv hr
  obtain ⟨m3a, m3b, rfl⟩ : ∃ x y, ms3 = [x, y] := by
    match ms3, hl3 with
    | [x, y], _ => exact ⟨x, y, rfl⟩
  obtain ⟨ha03, ha13⟩ := hP3 m3a (by simp)
  obtain ⟨hb03, hb13⟩ := hP3 m3b (by simp)
  refine lay (R := fun H => gName 5 (V.ref D3) _ H _) oD fun u3 el s3 => ?_
  have s3 : u3.S D3 = some (.lst [.int m3a, .int m3b]) := s3
  have pu3 : Stt u3 p := pu3.go el hpD3
  have ew3 : Ext (One p) w u3 := (ew2.trans eu3).step el fun b hb => .inl (by rw [show b = D3 from hb]; exact ew2.back hD')
  clear eu3 el oD hr hP3 hl3 hD' hD3 hpD3 pu2 ew2
  wtm_at "gs"
  rename_i v4 far e4 pu4 hf0 hf1
  have ew4 : Ext (One p) w v4 := ew3.trans e4
  intro D5 hD5
  have hpD5 : p ≠ D5 := stt_new' hD5 pu4
  refine lc_rngI (α := Int) (P := fun m => (-10000000000) ≤ m ∧ m ≤ 10000000000) (gd := PyData.int) (One p) (fun u => Stt u p) hD5 (fun h => hpD5 h.symm) (by rw [sizeLine_eq]; omega) (fun u e => pu4.go e (fun z => z)) (fun u v h e => h.go e hpD5) ?r5 ?k5
  case r5 =>
    intro i u hi eu pu0 R Z hR
    ((with_reducible refine' s_gname ?q978 ?q979); (case q978 => exact rfl))
    refine ⟨rfl, s_yes (ite_tt ?_)⟩
    wtm_at "gs"
    ((with_reducible refine' s_ixSm ?q1684 ?q1685 ?q1686 ?q1687); (case q1684 => refine' st_go ( by assumption ) ?q1688; (case q1688 => assumption)); (case q1685 => omega); (case q1686 => omega))
    intro x hv hm
    clear hv
    obtain ⟨m, rfl, hm0, hm1⟩ : ∃ m : Int, x = .int m ∧ (-10000000000) ≤ m ∧ m ≤ 10000000000 := by
      simp only [List.mem_cons, List.not_mem_nil, or_false] at hm
      rcases hm with rfl | rfl | rfl
      · exact ⟨_, rfl, by omega, by omega⟩
      · exact ⟨_, rfl, by omega, by omega⟩
      · exact ⟨_, rfl, by omega, by omega⟩
    clear hm
    exact hR _ _ m (by (refine' Ext.step ?q1689 ?q1690 ?q1691; (case q1690 => assumption); (case q1689 => refine' Ext.step ?q1692 ?q1693 ?q1694; (case q1693 => assumption); (case q1692 => exact Ext.refl _ _); (case q1694 => exact fun _ z => z.elim)); (case q1691 => refine tch_one ?q1695; refine Or.inr ?_; rfl))) (by assumption) ⟨hm0, hm1⟩ (.int _)
  intro v5 acc ms5 eu5 pu5 hD' oD hr hl5 hP5
  obtain rfl := RpA.ints_inv hr
  obtain ⟨m5a, m5b, rfl⟩ : ∃ x y, ms5 = [x, y] := by
    match ms5, hl5 with
    | [x, y], _ => exact ⟨x, y, rfl⟩
  obtain ⟨ha05, ha15⟩ := hP5 m5a (by simp)
  obtain ⟨hb05, hb15⟩ := hP5 m5b (by simp)
  refine lay (R := fun H => gName 7 (V.ref D5) _ H _) oD fun u5 el s5 => ?_
  have s5 : u5.S D5 = some (.lst [.int m5a, .int m5b]) := s5
  have pu5 : Stt u5 p := pu5.go el hpD5
  have ew5 : Ext (One p) w u5 := (ew4.trans eu5).step el fun b hb => .inl (by rw [show b = D5 from hb]; exact ew4.back hD')
  have s3 : u5.S D3 = some (.lst [.int m3a, .int m3b]) := st_go el (st_go eu5 (st_go e4 s3))
  clear eu5 el oD hr hP5 hl5 hD' hD5 hpD5 pu4 ew4 e4 ew3 pu3
  by_cases hsk : simple k
  · have q1 : decide (k = .joint) = false := decide_eq_false (fun e => by rw [e] at hsk; exact hsk)
    have q2 : decide (k = .sifted) = false := decide_eq_false (fun e => by rw [e] at hsk; exact hsk)
    ((with_reducible refine' s_gname ?q1696 ?q1697); (case q1696 => simp only [ List.set_cons_succ , List.set_cons_zero ]; exact rfl); (with_reducible refine s_seq ?_); (with_reducible refine s_ifS ?_); (with_reducible refine s_test ?_); (with_reducible refine s_op ?_); (with_reducible refine' s_var ?q1698 ?q1699); (case q1698 => exact rfl); (with_reducible refine s_c ?_); (with_reducible refine' s_eqK_joint ?q1700 ?q1701); (case q1700 => assumption); (with_reducible refine s_bl ?_); (with_reducible refine ite_ff ?_); (with_reducible refine s_next ?_); (with_reducible refine s_seq ?_); (with_reducible refine s_ifS ?_); (with_reducible refine s_test ?_); (with_reducible refine s_op ?_); (with_reducible refine' s_var ?q1702 ?q1703); (case q1702 => exact rfl); (with_reducible refine s_c ?_); (with_reducible refine' s_eqK_sifted ?q1704 ?q1705); (case q1704 => assumption); (with_reducible refine s_bl ?_); (with_reducible refine ite_ff ?_); (with_reducible refine s_next ?_); (with_reducible refine s_seq ?_); (with_reducible refine s_asg ?_); (with_reducible refine t_lst ?_); (with_reducible refine s_cons ?_); (with_reducible refine t_lst ?_); (with_reducible refine s_nil ?_); (with_reducible refine' t_newLS ?q1706 ?q1707); (case q1706 => simp only [ List.length , sizeLine_eq ]; omega); intro _ _ _ _ _; (with_reducible refine s_cons ?_); (with_reducible refine' s_var ?q1708 ?q1709); (case q1708 => exact rfl); (with_reducible refine s_cons ?_); (with_reducible refine s_sl ?_); (with_reducible refine' s_var ?q1710 ?q1711); (case q1710 => exact rfl); (with_reducible refine s_nopart ?_); (with_reducible refine s_part ?_); (with_reducible refine s_c ?_); (with_reducible refine s_int ?_); (with_reducible refine' s_slS ?q1712 ?q1713); (case q1712 => refine' SqL.of ( Wd.ok _ _ _ ?q1714 ); (case q1714 => refine' st_go ( by assumption ) ?q1715; (case q1715 => assumption))); intro _ _ _ _ _; (with_reducible refine s_cons ?_); (with_reducible refine s_op ?_); (with_reducible refine t_lst ?_); (with_reducible refine s_cons ?_); (with_reducible refine' s_var ?q1716 ?q1717); (case q1716 => exact rfl); (with_reducible refine s_nil ?_); (with_reducible refine' t_newLS ?q1718 ?q1719); (case q1718 => simp only [ List.length , sizeLine_eq ]; omega); intro _ _ _ _ _; (with_reducible refine' s_var ?q1720 ?q1721); (case q1720 => exact rfl); (with_reducible refine' s_catS ?q1722 ?q1723 ?q1724 ?q1725); (case q1722 => refine' Wd.ok _ _ _ ?q1726; (case q1726 => assumption)); (case q1723 => refine' Wd.ok _ _ _ ?q1727; (case q1727 => refine' st_go ( by assumption ) ?q1728; (case q1728 => refine' st_go ( by assumption ) ?q1729; (case q1729 => refine' st_go ( by assumption ) ?q1730; (case q1730 => assumption))))); (case q1724 => simp only [ List.length_append , List.length_cons , List.length_nil , List.length_map , List.length_reverse , List.length_replicate , sizeLine_eq ]; omega); intro _ _ _ _ _; (with_reducible refine s_cons ?_); (with_reducible refine s_op ?_); (with_reducible refine t_lst ?_); (with_reducible refine s_cons ?_); (with_reducible refine' s_var ?q1731 ?q1732); (case q1731 => exact rfl); (with_reducible refine s_nil ?_); (with_reducible refine' t_newLS ?q1733 ?q1734); (case q1733 => simp only [ List.length , sizeLine_eq ]; omega); intro _ _ _ _ _; (with_reducible refine s_sl ?_); (with_reducible refine' s_var ?q1735 ?q1736); (case q1735 => exact rfl); (with_reducible refine s_nopart ?_); (with_reducible refine s_part ?_); (with_reducible refine s_c ?_); (with_reducible refine s_int ?_); (with_reducible refine' s_slS ?q1737 ?q1738); (case q1737 => refine' SqL.of ( Wd.ok _ _ _ ?q1739 ); (case q1739 => refine' st_go ( by assumption ) ?q1740; (case q1740 => refine' st_go ( by assumption ) ?q1741; (case q1741 => refine' st_go ( by assumption ) ?q1742; (case q1742 => refine' st_go ( by assumption ) ?q1743; (case q1743 => refine' st_go ( by assumption ) ?q1744; (case q1744 => assumption))))))); intro _ _ _ _ _; (with_reducible refine' s_catS ?q1745 ?q1746 ?q1747 ?q1748); (case q1745 => refine' Wd.ok _ _ _ ?q1749; (case q1749 => refine' st_go ( by assumption ) ?q1750; (case q1750 => assumption))); (case q1746 => refine' Wd.ok _ _ _ ?q1751; (case q1751 => assumption)); (case q1747 => refine' z_cat ?q1752 ?q1753 ?q1754; (case q1752 => exact Nat.le_refl _); (case q1753 => refine' len_cut ?q1755; (case q1755 => exact Nat.le_refl _)); (case q1754 => simp only [ List.length_append , List.length_cons , List.length_nil , List.length_map , List.length_reverse , sizeLine_eq ]; omega)); intro _ _ _ _ _; (with_reducible refine s_nil ?_); (with_reducible refine' t_newLS ?q1756 ?q1757); (case q1756 => simp only [ List.length , sizeLine_eq ]; omega); intro _ _ _ _ _; (with_reducible refine' s_gname ?q1758 ?q1759); (case q1758 => simp only [ List.set_cons_succ , List.set_cons_zero ]; exact rfl); (with_reducible refine s_ret ?_); (with_reducible refine s_op ?_); (with_reducible refine t_lst ?_); (with_reducible refine s_cons ?_); (with_reducible refine' s_var ?q1760 ?q1761); (case q1760 => exact rfl); (with_reducible refine s_nil ?_); (with_reducible refine' t_newLS ?q1762 ?q1763); (case q1762 => simp only [ List.length , sizeLine_eq ]; omega); intro _ _ _ _ _; (with_reducible refine s_op ?_); (with_reducible refine' s_var ?q1764 ?q1765); (case q1764 => exact rfl); (with_reducible refine s_BM ?_); (with_reducible refine t_lst ?_); (with_reducible refine s_cons ?_); (with_reducible refine s_c ?_); (with_reducible refine s_cons ?_); (with_reducible refine s_c ?_); (with_reducible refine s_cons ?_); (with_reducible refine s_c ?_); (with_reducible refine s_cons ?_); (with_reducible refine s_c ?_); (with_reducible refine s_cons ?_); (with_reducible refine s_c ?_); (with_reducible refine s_nil ?_); (with_reducible refine' t_newLS ?q1766 ?q1767); (case q1766 => simp only [ List.length , sizeLine_eq ]; omega); intro _ _ _ _ _)
    rename_i la va ea na sa lb vb eb nb sb lc vc ec nc sc ld vd ed nd sd le ve ee ne se lf vf ef nf sf lg vg eg ng sg lh vh eh nh sh li vi ei ni si lj vj ej nj sj
    have sj : vj.S lj = some (.lst (kws5.map V.str)) := sj
    refine ⟨.inl ⟨rfl, _, SqL.of (vj.ok _ _ sj)⟩, ?_⟩
    ((with_reducible refine s_cons ?_); (with_reducible refine' s_var ?q1812 ?q1813); (case q1812 => exact rfl); (with_reducible refine s_nil ?_))
    refine s_lix (ys := kws5) (j := kidx k) (SqL.of (vj.ok _ _ sj)) (by cases k <;> first | rfl | exact hsk.elim) (by cases k <;> first | exact hsk.elim | decide +kernel) ?_
    have ew : Ext (One p) w vj := ew5.trans (((((((((((ea.trans eb).trans ec).trans ed).trans ee).trans ef).trans eg).trans eh).trans ei).trans ej).more fun _ z => z.elim))
    have pu : Stt vj p := pu5.go (((((((((ea.trans eb).trans ec).trans ed).trans ee).trans ef).trans eg).trans eh).trans ei).trans ej) (fun z => z)
    have go1 : Same vi.S vj.S := fun a o z => ej.st a o z
    have go2 : Same vh.S vj.S := fun a o z => go1 a o (ei.st a o z)
    have go3 : Same vg.S vj.S := fun a o z => go2 a o (eh.st a o z)
    have go4 : Same vd.S vj.S := fun a o z => go3 a o (eg.st a o (ef.st a o (ee.st a o z)))
    have go5 : Same vb.S vj.S := fun a o z => go4 a o (ed.st a o (ec.st a o z))
    have go6 : Same va.S vj.S := fun a o z => go5 a o (eb.st a o z)
    have go7 : Same u5.S vj.S := fun a o z => go6 a o (ea.st a o z)
    have s3 := go7 _ _ s3
    have sa := go6 _ _ sa
    have sb : vj.S lb = some (.lst [.int m3a]) := go5 _ _ sb
    have sd : vj.S ld = some (.lst [.str z2, .int m5a, .int m5b]) := go4 _ _ sd
    have sg : vj.S lg = some (.lst [.str z2, .int m5a]) := go3 _ _ sg
    have sh := go2 _ _ sh
    have si := go1 _ _ si
    have hN : ArgA K (EC.mk C_Entry C_Within C_At C_Between C_Read C_Joint C_Sifted kdAll noKp) vj.S .name (.str z1) none := ⟨.str z1, .str _, txd_ok nz1, by rw [show okS .name (.str z1) = true from nameB_ok nz1]; rfl⟩
    have hN2 : ArgA K (EC.mk C_Entry C_Within C_At C_Between C_Read C_Joint C_Sifted kdAll noKp) vj.S .name (.str z2) none := ⟨.str z2, .str _, txd_ok nz2, by rw [show okS .name (.str z2) = true from nameB_ok nz2]; rfl⟩
    have hM : ∀ m : Int, 0 ≤ m → m ≤ 1000000000 → ArgA K (EC.mk C_Entry C_Within C_At C_Between C_Read C_Joint C_Sifted kdAll noKp) vj.S .moment (.int m) none := fun m h0 h1 => ⟨.int m, .int _, (fun z e => by cases e), by rw [show okS .moment (.int m) = true from mom_yes h0 h1]; rfl⟩
    have hR : ∀ m : Int, -10000000000 ≤ m → m ≤ 10000000000 → ArgA K (EC.mk C_Entry C_Within C_At C_Between C_Read C_Joint C_Sifted kdAll noKp) vj.S .reading (.int m) none := fun m h0 h1 => ⟨.int m, .int _, (fun z e => by cases e), by rw [show okS .reading (.int m) = true from rdg_yes h0 h1]; rfl⟩
    have fin : ∀ (l : Addr) (vs : List V), vj.S l = some (.lst vs) → vs.length < 10 → Args K (EC.mk C_Entry C_Within C_At C_Between C_Read C_Joint C_Sifted kdAll noKp) vj.S (srts k) (.str z1 :: vs) ((srts k).map fun _ => none) → gAdd K (.ref li) (.ref l) vj.H Q := fun l vs hl hlen ha => by
      refine s_catS (vj.ok _ _ si) (vj.ok _ _ hl) (by rw [sizeLine_eq]; simp; omega) fun r v er nr sr => ?_
      exact kk v r _ (ew.trans (er.more fun _ z => z.elim)) (pu.go er fun z => z) sr (Args.mono er.st ha)
    clear ea eb ec ed ee ef eg eh ei ej kk
    cases k with
    | any => exact s_ixL sh rfl (fin la [] sa (by simp) (.cons hN .nil))
    | within => exact s_ixL sh rfl (fin D3 _ s3 (by simp) (.cons hN (.cons (hM _ ha03 ha13) (.cons (hM _ hb03 hb13) .nil))))
    | att => exact s_ixL sh rfl (fin lb _ sb (by simp) (.cons hN (.cons (hM _ ha03 ha13) .nil)))
    | between => exact s_ixL sh rfl (fin ld _ sd (by simp) (.cons hN (.cons hN2 (.cons (hR _ ha05 ha15) (.cons (hR _ hb05 hb15) .nil)))))
    | read => exact s_ixL sh rfl (fin lg _ sg (by simp) (.cons hN (.cons hN2 (.cons (hR _ ha05 ha15) .nil))))
    | joint => exact hsk.elim
    | sifted => exact hsk.elim
  cases k with
  | joint =>
    ((with_reducible refine' s_gname ?q1814 ?q1815); (case q1814 => simp only [ List.set_cons_succ , List.set_cons_zero ]; exact rfl); (with_reducible refine s_seq ?_); (with_reducible refine s_ifS ?_); (with_reducible refine s_test ?_); (with_reducible refine s_op ?_); (with_reducible refine' s_var ?q1816 ?q1817); (case q1816 => exact rfl); (with_reducible refine s_c ?_); (with_reducible refine' s_eqK_joint ?q1818 ?q1819); (case q1818 => exact decide_eq_true ( by decide )); (with_reducible refine s_bl ?_); (with_reducible refine ite_tt ?_); (with_reducible refine s_seq ?_); (with_reducible refine s_asg ?_); (with_reducible refine t_lst ?_); (with_reducible refine s_cons ?_); (with_reducible refine s_makeX ?_); (with_reducible refine s_cons ?_); (with_reducible refine' s_var ?q1820 ?q1821); (case q1820 => exact rfl); (with_reducible refine s_nil ?_))
    refine mk_any (ec := (EC.mk C_Entry C_Within C_At C_Between C_Read C_Joint C_Sifted kdAll noKp)) (p := z1) (lo := 0) (hi := 0) ek nz1 fun v6 x6 e6 n6 hS6 => ?_
    ((with_reducible refine s_cons ?_); (with_reducible refine s_makeX ?_); (with_reducible refine s_cons ?_); (with_reducible refine' s_var ?q1822 ?q1823); (case q1822 => exact rfl); (with_reducible refine s_cons ?_); (with_reducible refine s_op ?_); (with_reducible refine' s_var ?q1824 ?q1825); (case q1824 => exact rfl); (with_reducible refine s_c ?_); (with_reducible refine' s_ixL ?q1853 ?q1854 ?q1855); (case q1853 => refine' st_go ( by assumption ) ?q1856; (case q1856 => assumption)); (case q1854 => exact rfl); (with_reducible refine s_nil ?_))
    refine mk_att (ec := (EC.mk C_Entry C_Within C_At C_Between C_Read C_Joint C_Sifted kdAll noKp)) (p := z1) ek nz1 ha03 ha13 fun v7 x7 e7 n7 hS7 => ?_
    ((with_reducible refine s_cons ?_); (with_reducible refine s_makeX ?_); (with_reducible refine s_cons ?_); (with_reducible refine s_c ?_); (with_reducible refine s_cons ?_); (with_reducible refine' s_var ?q1857 ?q1858); (case q1857 => exact rfl); (with_reducible refine s_cons ?_); (with_reducible refine s_op ?_); (with_reducible refine' s_var ?q1859 ?q1860); (case q1859 => exact rfl); (with_reducible refine s_c ?_); (with_reducible refine' s_ixL ?q1891 ?q1892 ?q1893); (case q1891 => refine' st_go ( by assumption ) ?q1894; (case q1894 => refine' st_go ( by assumption ) ?q1895; (case q1895 => assumption))); (case q1892 => exact rfl); (with_reducible refine s_nil ?_))
    refine mk_read (ec := (EC.mk C_Entry C_Within C_At C_Between C_Read C_Joint C_Sifted kdAll noKp)) ek ⟨by decide +kernel, by decide +kernel, by decide +kernel⟩ nz2 ha05 ha15 fun v8 x8 e8 n8 hS8 => ?_
    ((with_reducible refine s_cons ?_); (with_reducible refine s_makeX ?_); (with_reducible refine s_cons ?_); (with_reducible refine s_c ?_); (with_reducible refine s_cons ?_); (with_reducible refine s_c ?_); (with_reducible refine s_cons ?_); (with_reducible refine s_c ?_); (with_reducible refine s_nil ?_))
    refine mk_within (ec := (EC.mk C_Entry C_Within C_At C_Between C_Read C_Joint C_Sifted kdAll noKp)) (p := z1) ek ⟨by decide +kernel, by decide +kernel, by decide +kernel⟩ (by decide) (by decide) (by decide) (by decide) fun v9 x9 e9 n9 hS9 => ?_
    wtm_at "gs"
    rename_i pa va ea na sa pb vb eb nb sb vc d ec puc hd0 hd1 pd vd ed nd sd pe ve ee ne se
    rw [cut_to (show (0 : Int) ≤ 1 + d by omega)] at sd
    have e6e : Same v6.S ve.S := fun a o z => ee.st a o (ed.st a o (ec.st a o (eb.st a o (ea.st a o (e9.st a o (e8.st a o (e7.st a o z)))))))
    have h6 := SimS.mono e6e hS6
    have h7 := SimS.mono (fun a o z => ee.st a o (ed.st a o (ec.st a o (eb.st a o (ea.st a o (e9.st a o (e8.st a o z))))))) hS7
    have h8 := SimS.mono (fun a o z => ee.st a o (ed.st a o (ec.st a o (eb.st a o (ea.st a o (e9.st a o z)))))) hS8
    have h9 := SimS.mono (fun a o z => ee.st a o (ed.st a o (ec.st a o (eb.st a o (ea.st a o z))))) hS9
    have sd := st_go ee sd
    have ewe : Ext (One p) w ve := (ew5.trans ((((((e6.trans e7).trans e8).trans e9).trans ea).trans eb).more fun _ z => z.elim)).trans (ec.trans ((ed.trans ee).more fun _ z => z.elim))
    have pue : Stt ve p := (puc.go ed fun z => z).go ee fun z => z
    obtain ⟨m, hm, hm1, hm8⟩ : ∃ m : Nat, (1 + d).toNat = m ∧ 1 ≤ m ∧ m ≤ 8 := ⟨_, rfl, by omega, by omega⟩
    rw [hm] at sd
    have hall : AllR (PrtS K (EC.mk C_Entry C_Within C_At C_Between C_Read C_Joint C_Sifted kdAll noKp) ve.S) [.ref x6, .ref x7, .ref x8, .ref x9, .ref x6, .ref x7, .ref x8, .ref x9] [.sim ⟨.any, z1, z1, 0, 0⟩, .sim ⟨.att, z1, z1, m3a, m3a⟩, .sim ⟨.read, Str.ofString "b", z2, m5a, m5a⟩, .sim ⟨.within, Str.ofString "c", z1, 5, 4⟩, .sim ⟨.any, z1, z1, 0, 0⟩, .sim ⟨.att, z1, z1, m3a, m3a⟩, .sim ⟨.read, Str.ofString "b", z2, m5a, m5a⟩, .sim ⟨.within, Str.ofString "c", z1, 5, 4⟩] := .cons h6 (.cons h7 (.cons h8 (.cons h9 (.cons h6 (.cons h7 (.cons h8 (.cons h9 .nil)))))))
    refine kk ve pe _ ewe pue se (.cons ⟨.str z1, .str _, txd_ok nz1, by rw [show okS .name (.str z1) = true from nameB_ok nz1]; rfl⟩ (.cons ⟨pd, _, _, rfl, sd, AllR.take m hall, fun q hq => ?_, by simp; omega, by simp; omega⟩ .nil))
    have hq := List.mem_of_mem_take hq
    have o6 : Sim.ok ⟨.any, z1, z1, 0, 0⟩ := ⟨trivial, fun h => h.elim, fun h => by rcases h with h | h <;> cases h⟩
    have o7 : Sim.ok ⟨.att, z1, z1, m3a, m3a⟩ := ⟨trivial, fun h => h.elim, fun _ => rfl⟩
    have o8 : Sim.ok ⟨.read, Str.ofString "b", z2, m5a, m5a⟩ := ⟨trivial, fun _ => ⟨ha05, ha15, ha05, ha15⟩, fun _ => rfl⟩
    have o9 : Sim.ok ⟨.within, Str.ofString "c", z1, 5, 4⟩ := ⟨trivial, fun h => h.elim, fun h => by rcases h with h | h <;> cases h⟩
    simp only [List.mem_cons, List.not_mem_nil, or_false] at hq
    rcases hq with rfl | rfl | rfl | rfl | rfl | rfl | rfl | rfl
    · exact o6
    · exact o7
    · exact o8
    · exact o9
    · exact o6
    · exact o7
    · exact o8
    · exact o9
  | sifted =>
    ((with_reducible refine' s_gname ?q1924 ?q1925); (case q1924 => simp only [ List.set_cons_succ , List.set_cons_zero ]; exact rfl); (with_reducible refine s_seq ?_); (with_reducible refine s_ifS ?_); (with_reducible refine s_test ?_); (with_reducible refine s_op ?_); (with_reducible refine' s_var ?q1926 ?q1927); (case q1926 => exact rfl); (with_reducible refine s_c ?_); (with_reducible refine' s_eqK_joint ?q1928 ?q1929); (case q1928 => exact decide_eq_false ( by decide )); (with_reducible refine s_bl ?_); (with_reducible refine ite_ff ?_); (with_reducible refine s_next ?_); (with_reducible refine s_seq ?_); (with_reducible refine s_ifS ?_); (with_reducible refine s_test ?_); (with_reducible refine s_op ?_); (with_reducible refine' s_var ?q1930 ?q1931); (case q1930 => exact rfl); (with_reducible refine s_c ?_); (with_reducible refine' s_eqK_sifted ?q1932 ?q1933); (case q1932 => exact decide_eq_true ( by decide )); (with_reducible refine s_bl ?_); (with_reducible refine ite_tt ?_); (with_reducible refine s_seq ?_); (with_reducible refine s_asg ?_); (with_reducible refine s_CB ?_); (with_reducible refine s_cons ?_); (with_reducible refine s_op ?_); (with_reducible refine' s_var ?q1937 ?q1938); (case q1937 => exact rfl); (with_reducible refine s_c ?_); (with_reducible refine' s_ixL ?q1963 ?q1964 ?q1965); (case q1963 => assumption); (case q1964 => exact rfl); (with_reducible refine s_cons ?_); (with_reducible refine s_op ?_); (with_reducible refine s_op ?_); (with_reducible refine s_c ?_); (with_reducible refine s_c ?_); (with_reducible refine' s_powN ?q1966 ?q1967 ?q1968); (case q1966 => exact ⟨ by decide , by decide , by decide ⟩); (case q1967 => exact p10_9); (with_reducible refine s_c ?_); (with_reducible refine s_sub ?_); (with_reducible refine s_nil ?_); (with_reducible refine s_min ?_); (with_reducible refine' s_gname ?q1969 ?q1970); (case q1969 => simp only [ List.set_cons_succ , List.set_cons_zero ]; exact rfl); (with_reducible refine s_seq ?_); (with_reducible refine s_asg ?_); (with_reducible refine t_lst ?_); (with_reducible refine s_cons ?_); (with_reducible refine s_makeX ?_); (with_reducible refine s_cons ?_); (with_reducible refine s_c ?_); (with_reducible refine s_cons ?_); (with_reducible refine' s_var ?q1971 ?q1972); (case q1971 => exact rfl); (with_reducible refine s_cons ?_); (with_reducible refine s_op ?_); (with_reducible refine' s_var ?q1973 ?q1974); (case q1973 => exact rfl); (with_reducible refine s_c ?_); (with_reducible refine s_add ?_); (with_reducible refine s_nil ?_))
    refine mk_within (ec := (EC.mk C_Entry C_Within C_At C_Between C_Read C_Joint C_Sifted kdAll noKp)) (p := z1) ek ⟨by decide +kernel, by decide +kernel, by decide +kernel⟩ (by omega) (by omega) (by omega) (by omega) fun v6 x6 e6 n6 hS6 => ?_
    ((with_reducible refine s_cons ?_); (with_reducible refine s_makeX ?_); (with_reducible refine s_cons ?_); (with_reducible refine s_c ?_); (with_reducible refine s_cons ?_); (with_reducible refine s_op ?_); (with_reducible refine' s_var ?q1975 ?q1976); (case q1975 => exact rfl); (with_reducible refine s_c ?_); (with_reducible refine' s_ixL ?q2004 ?q2005 ?q2006); (case q2004 => refine' st_go ( by assumption ) ?q2007; (case q2007 => assumption)); (case q2005 => exact rfl); (with_reducible refine s_nil ?_))
    refine mk_att (ec := (EC.mk C_Entry C_Within C_At C_Between C_Read C_Joint C_Sifted kdAll noKp)) (p := z1) ek ⟨by decide +kernel, by decide +kernel, by decide +kernel⟩ hb03 hb13 fun v7 x7 e7 n7 hS7 => ?_
    ((with_reducible refine s_cons ?_); (with_reducible refine s_makeX ?_); (with_reducible refine s_cons ?_); (with_reducible refine' s_var ?q2008 ?q2009); (case q2008 => exact rfl); (with_reducible refine s_cons ?_); (with_reducible refine' s_var ?q2010 ?q2011); (case q2010 => exact rfl); (with_reducible refine s_cons ?_); (with_reducible refine s_op ?_); (with_reducible refine' s_var ?q2012 ?q2013); (case q2012 => exact rfl); (with_reducible refine s_c ?_); (with_reducible refine' s_ixL ?q2044 ?q2045 ?q2046); (case q2044 => refine' st_go ( by assumption ) ?q2047; (case q2047 => refine' st_go ( by assumption ) ?q2048; (case q2048 => assumption))); (case q2045 => exact rfl); (with_reducible refine s_nil ?_))
    refine mk_read (ec := (EC.mk C_Entry C_Within C_At C_Between C_Read C_Joint C_Sifted kdAll noKp)) ek nz1 nz2 hb05 hb15 fun v8 x8 e8 n8 hS8 => ?_
    ((with_reducible refine s_cons ?_); (with_reducible refine s_makeX ?_); (with_reducible refine s_cons ?_); (with_reducible refine s_c ?_); (with_reducible refine s_cons ?_); (with_reducible refine s_c ?_); (with_reducible refine s_cons ?_); (with_reducible refine s_c ?_); (with_reducible refine s_nil ?_))
    refine mk_within (ec := (EC.mk C_Entry C_Within C_At C_Between C_Read C_Joint C_Sifted kdAll noKp)) (p := z1) ek ⟨by decide +kernel, by decide +kernel, by decide +kernel⟩ (by decide) (by decide) (by decide) (by decide) fun v9 x9 e9 n9 hS9 => ?_
    wtm_at "gs"
    ((with_reducible refine' s_ixSm ?q2226 ?q2227 ?q2228 ?q2229); (case q2226 => refine' st_go ( by assumption ) ?q2230; (case q2230 => assumption)); (case q2227 => omega); (case q2228 => omega))
    intro x hv hm
    clear hv
    rename_i pa va ea na sa vb d eb pub hd0 hd1
    have h6 := SimS.mono (fun a o z => eb.st a o (ea.st a o (e9.st a o (e8.st a o (e7.st a o z))))) hS6
    have h7 := SimS.mono (fun a o z => eb.st a o (ea.st a o (e9.st a o (e8.st a o z)))) hS7
    have h8 := SimS.mono (fun a o z => eb.st a o (ea.st a o (e9.st a o z))) hS8
    have h9 := SimS.mono (fun a o z => eb.st a o (ea.st a o z)) hS9
    have ewb : Ext (One p) w vb := (ew5.trans (((((e6.trans e7).trans e8).trans e9).trans ea).more fun _ z => z.elim)).trans eb
    obtain ⟨e, hS, hok⟩ : ∃ e, SimS K (EC.mk C_Entry C_Within C_At C_Between C_Read C_Joint C_Sifted kdAll noKp) vb.S x e ∧ SiftOk e := by
      simp only [List.mem_cons, List.not_mem_nil, or_false] at hm
      rcases hm with rfl | rfl | rfl | rfl
      · exact ⟨_, h6, ⟨trivial, fun h => h.elim, fun h => by rcases h with h | h <;> cases h⟩, .inl rfl, fun _ => by dsimp only; omega⟩
      · exact ⟨_, h7, ⟨trivial, fun h => h.elim, fun _ => rfl⟩, .inr (.inl rfl), fun _ => by dsimp only; omega⟩
      · exact ⟨_, h8, ⟨trivial, fun _ => ⟨hb05, hb15, hb05, hb15⟩, fun _ => rfl⟩, .inr (.inr rfl), fun h => absurd trivial h⟩
      · exact ⟨_, h9, ⟨trivial, fun h => h.elim, fun h => by rcases h with h | h <;> cases h⟩, .inl rfl, fun _ => by dsimp only; omega⟩
    clear h6 h7 h8 h9 hS6 hS7 hS8 hS9 e6 e7 e8 e9 ea eb ew5 sa na hm
    ((with_reducible refine s_nil ?_); (with_reducible refine' t_newLS ?q2231 ?q2232); (case q2231 => simp only [ List.length , sizeLine_eq ]; omega); intro _ _ _ _ _)
    rename_i pc vc ec nc sc
    exact kk vc pc _ (ewb.trans (ec.more fun _ z => z.elim)) (pub.go ec fun z => z) sc (.cons ⟨.str z1, .str _, txd_ok nz1, by rw [show okS .name (.str z1) = true from nameB_ok nz1]; rfl⟩ (.cons ⟨e, SimS.go ec hS, hok⟩ .nil))
  | _ => exact absurd trivial hsk
theorem srt_in : ∀ s : Srt, inV (.str s.z) [.str (Str.ofString "name"), .str (Str.ofString "moment"), .str (Str.ofString "reading")] = decide (s ≠ .parts ∧ s ≠ .part) := by intro s; cases s <;> decide +kernel
theorem srt_part : ∀ s : Srt, decide (s.z = Str.ofString "part") = decide (s = .part) := by intro s; cases s <;> decide +kernel
def sidx : Srt → Nat
  | .name => 0 | .moment => 1 | _ => 2
def sws : List Str := [Str.ofString "name", Str.ofString "moment", Str.ofString "reading"]
theorem ixS_of {w : Wd} {p : Addr} {vs : List V} {Q : VK} {n : Int} {j : Nat} {x : V} (h : w.S p = some (.lst vs)) (e : n = (j : Int)) (hx : vs[j]? = some x) (k : Q x w.H) : gIx K (.ref p) (.int n) w.H Q := by
  have hj : j < vs.length := (List.getElem?_eq_some_iff.mp hx).1
  exact s_ixL h (by rw [e, atI_nn (by omega) (by omega)]; exact hx) k
/-- what isinstance tells of things of the built-in types, of one's own classes -/
structure KT (K : PySem.W.Frag) (ec : EC) : Prop where
  t : ∀ T ∈ ["NoneType", "bool", "int", "str", "list", "tuple", "dict"], PySem.W.kitOne K (.type T) (.ref ec.any) = some false ∧ PySem.W.kitOne K (.type T) (.ref ec.joint) = some false ∧ PySem.W.kitOne K (.type T) (.ref ec.within) = some false ∧ PySem.W.kitOne K (.type T) (.ref ec.read) = some false
  c : ∀ k, PySem.W.kitOne K (.ref (ec.of k)) (.type "list") = some false ∧ PySem.W.kitOne K (.ref (ec.of k)) (.type "bool") = some false ∧ SelfC K (ec.of k)
abbrev noA (l b : Bool) : Ans := ⟨false, false, false, false, l, b⟩
section
variable {ec : EC} {w : Wd}
theorem tg_ty {x : V} {T : String} {l b : Bool} (kt : KT K ec) (hm : T ∈ ["NoneType", "bool", "int", "str", "list", "tuple", "dict"]) (hs : SelfV K w.S x) (ht : TyOf K w.S x (.type T)) (hl : kitB T "list" = some l) (hb : kitB T "bool" = some b) : TgA K ec w.S x (noA l b) := by
  obtain ⟨h1, h2, h3, h4⟩ := kt.t T hm
  exact ⟨hs, _, ht, h1, h2, h3, h4, kit_ty hl, kit_ty hb⟩
theorem tg_none (kt : KT K ec) : TgA K ec w.S .non (noA false false) := tg_ty kt (by decide) trivial .non kb_NoneType_list kb_NoneType_bool
theorem tg_int (kt : KT K ec) {i : Int} : TgA K ec w.S (.int i) (noA false false) := tg_ty kt (by decide) trivial (.int i) kb_int_list kb_int_bool
theorem tg_bl (kt : KT K ec) {i : Bool} : TgA K ec w.S (.bl i) (noA false true) := tg_ty kt (by decide) trivial (.bl i) kb_bool_list kb_bool_bool
theorem tg_str (kt : KT K ec) {i : Str} : TgA K ec w.S (.str i) (noA false false) := tg_ty kt (by decide) trivial (.str i) kb_str_list kb_str_bool
theorem tg_lst (kt : KT K ec) {a : Addr} {xs : List V} (h : w.S a = some (.lst xs)) : TgA K ec w.S (.ref a) (noA true false) := tg_ty kt (by decide) (.inl ⟨_, SqL.of h⟩) (.lst h) kb_list_list kb_list_bool
theorem tg_tup (kt : KT K ec) {a : Addr} {xs : List V} (h : w.S a = some (.tup xs)) : TgA K ec w.S (.ref a) (noA false false) := tg_ty kt (by decide) (.inr (.inl ⟨_, SqT.of h⟩)) (.tup h) kb_tuple_list kb_tuple_bool
theorem tg_dct (kt : KT K ec) {a : Addr} (h : w.S a = some (.dK [])) : TgA K ec w.S (.ref a) (noA false false) := tg_ty kt (by decide) (.inr (.inr (.inl h))) (.dK h) kb_dict_list kb_dict_bool
theorem tg_ins (kt : KT K ec) (ek : EK K ec) {k : Kd} (hk : ec.kds k) (h0 : ec.kds .joint) {x dx : Addr} {fs : List (Str × V)} (h : w.S x = some (.ins (ec.of k) dx fs)) : TgA K ec w.S (.ref x) ⟨subK k .any, subK k .joint, subK k .within, subK k .read, false, false⟩ := by
  obtain ⟨h1, h2, h3⟩ := kt.c k
  have ecl := ek.clA _ hk
  exact ⟨.inr (.inr (.inr ⟨_, dx, fs, h, ecl.cl, h3⟩)), _, .ins h ecl.cl ecl.ci.ha ecl.ci.hn ecl.ci.ht ecl.ci.hm, ek.kitA _ .any hk (ek.sm _ trivial), ek.kitA _ .joint hk h0, ek.kitA _ .within hk (ek.sm _ trivial), ek.kitA _ .read hk (ek.sm _ trivial), h1, h2⟩
theorem TgA.strg {S : Hp} {x : V} {A : Ans} (h : TgA K ec S x A) (hA : A.e = false ∨ A.j = true) : Strg K ec S x := by
  obtain ⟨_, t, h2, h3, h4, _⟩ := h
  exact ⟨t, _, _, h2, h3, h4, hA⟩
theorem TgA.nolist {S : Hp} {x : V} {A : Ans} (h : TgA K ec S x A) (hA : A.l = false) : PartsA K ec S x (some (.en, x)) := by
  obtain ⟨_, t, h2, _, _, _, _, h3, _⟩ := h
  rw [hA] at h3
  exact .inl ⟨rfl, .inl ⟨t, h2, h3⟩⟩
theorem TgA.nopart {S : Hp} {x : V} {A : Ans} (h : TgA K ec S x A) (h1 : A.wi = false) (h2 : A.r = false) : PartA K ec S x (some (.en, x)) := by
  obtain ⟨_, t, h3, _, _, h4, h5, _⟩ := h
  rw [h1] at h4
  rw [h2] at h5
  exact ⟨rfl, t, h3, h4, h5⟩
end
theorem bad_arg {K : PySem.W.Frag} {ec : EC} {S : Hp} {s : Srt} {x : V} (h1 : s ≠ .parts) (h2 : s ≠ .part) (h : BadT K S s x) : ArgA K ec S s x (some (s.w, x)) := by
  obtain ⟨⟨d, r, t, o⟩, _⟩ := h
  have z : DatA S s x (some (s.w, x)) := ⟨d, r, t, by rw [o]; rfl⟩
  cases s with
  | parts => exact absurd rfl h1
  | part => exact absurd rfl h2
  | _ => exact z
theorem srt_w {s : Srt} (h1 : s ≠ .parts) (h2 : s ≠ .part) : s.w.z = s.z := by cases s <;> first | rfl | exact absurd rfl h1 | exact absurd rfl h2
section
variable {ec : EC} {N M R G T : Addr} {w : Wd} {Q : VK} {E : XK} {n : Str} {c d : V}
theorem mk_joint (ek : EK K ec) (hk : ec.kds .joint) (hn : NmOk n) (hp : PartsA K ec w.S c none) (kk : ∀ v x dx fs, Ext Non w v → v.S x = some (.ins ec.joint dx fs) → Q (.ref x) v.H) : rMake ec.joint (pr3 (p_Joint_init K ec N M R G T)) E Q [.str n, c] w.H := by
  refine s_rmake fun x dx v1 e1 n1 o1 => s_pm3 ⟨x, dx, .str n, none, rfl, o1, ek, hk, .str _, txd_ok hn, hp.mono e1.st, fun _ _ v2 fs e2 o2 => ⟨rfl, ?_⟩, fun h => name_no hn h, fun _ wd y h => by cases h⟩
  refine lay (R := fun H => Q (.ref x) H) o2 fun v3 e3 s3 => ?_
  exact kk v3 x dx fs ((e1.step e2 fun b hb => .inl (by rw [show b = x from hb]; exact n1)).step e3 fun b hb => .inl (by rw [show b = x from hb]; exact n1)) s3
theorem mk_sifted (ek : EK K ec) (hk : ec.kds .sifted) (hn : NmOk n) (hp : PartA K ec w.S c none) (kk : ∀ v x dx fs, Ext Non w v → v.S x = some (.ins ec.sifted dx fs) → Q (.ref x) v.H) : rMake ec.sifted (pr4 (p_Sifted_init K ec N M R G T)) E Q [.str n, c, d] w.H := by
  refine s_rmake fun x dx v1 e1 n1 o1 => s_pm4 ⟨x, dx, .str n, none, rfl, o1, ek, hk, .str _, txd_ok hn, hp.mono e1.st, fun _ _ v2 fs e2 o2 => ⟨rfl, ?_⟩, fun h => name_no hn h, fun _ wd y h => by cases h⟩
  refine lay (R := fun H => Q (.ref x) H) o2 fun v3 e3 s3 => ?_
  exact kk v3 x dx fs ((e1.step e2 fun b hb => .inl (by rw [show b = x from hb]; exact n1)).step e3 fun b hb => .inl (by rw [show b = x from hb]; exact n1)) s3
end
abbrev nm_l_spoilt : List Str := ["_law_sort", "_law_args", "_law_at", "_law_number", "_law_one", "_law_some", "_law_things", "_law_word", "_law_thing", "_law_joint", "_law_wide", "_law_many", "_law_stranger", "_law_parts", "_law_place"]
theorem sc_l_spoilt : FnScope nm_l_spoilt ["_law_sort", "_law_args", "_law_at", "_law_number"] (defScope s_l_spoilt) := ⟨rfl, rfl, rfl, by decide +kernel, rfl, by decide +kernel, by decide +kernel⟩
theorem st_l_spoilt (a b c d : V) : start nm_l_spoilt [a, b, c, d] = [some a, some b, some c, some d, none, none, none, none, none, none, none, none, none, none, none] := rfl
def p_l_spoilt (K : PySem.W.Frag) (ec : EC) (w : Wd) (a b c d : V) (Q : VK) (_ : XK) : Prop := ∃ s, ∃ n : Int, a = .str s.z ∧ d = .int n ∧ 0 ≤ n ∧ n < 1000000 ∧ EK K ec ∧ (s = .parts → ∃ p vs i y, b = .ref p ∧ w.S p = some (.lst vs) ∧ c = .int ((i : Nat) : Int) ∧ vs[i]? = some y ∧ PartsA K ec w.S y none) ∧
  ∀ v t x wd f, Ext Non w v → v.S t = some (.tup [x, .str (Wrd.z wd), f]) → ArgA K ec v.S s x (some (wd, f)) → Thg K v.S f → Q (.ref t) v.H
theorem ok_l_spoilt {f : Addr} {fd : FuncData} {C_Entry C_Within C_At C_Between C_Read C_Joint C_Sifted C_LogError C_NoBond C_NoEntry C_NoMinutes C_NoMoment C_NoName C_NoPlace C_NoReading C_Taken C_TooMany : Addr} (F : Fun K "_law_spoilt" "_law_spoilt" s_l_spoilt f fd) (T : Txt K mg C_Entry C_Within C_At C_Between C_Read C_Joint C_Sifted C_LogError C_NoBond C_NoEntry C_NoMinutes C_NoMoment C_NoName C_NoPlace C_NoReading C_Taken C_TooMany) (c_At_init : Mkr P ww K mg base (L2.CX P ww) C_At 5 (pr3 (p_At_init K C_NoName C_NoMoment))) (c_Between_init : Mkr P ww K mg base (L2.CX P ww) C_Between 4 (pr5 (p_Between_init K C_NoName C_NoReading))) (c_Entry_init : Mkr P ww K mg base (L2.CX P ww) C_Entry 3 (pr2 (p_Entry_init K C_NoName))) (c_Joint_init : Mkr P ww K mg base (L2.CX P ww) C_Joint 4 (pr3 (p_Joint_init K (EC.mk C_Entry C_Within C_At C_Between C_Read C_Joint C_Sifted kdAll noKp) C_NoName C_NoMoment C_NoReading C_NoEntry C_TooMany))) (c_Sifted_init : Mkr P ww K mg base (L2.CX P ww) C_Sifted 4 (pr4 (p_Sifted_init K (EC.mk C_Entry C_Within C_At C_Between C_Read C_Joint C_Sifted kdAll noKp) C_NoName C_NoMoment C_NoReading C_NoEntry C_TooMany))) (c_Within_init : Mkr P ww K mg base (L2.CX P ww) C_Within 4 (pr4 (p_Within_init K C_NoName C_NoMoment))) (c_l_keeps : Fnc P ww K mg base CX0 1 "_law_keeps" (pr1 (p_l_keeps))) (c_l_names : Fnc P ww K mg base CX0 1 "_law_names" (pr0 (p_l_names K))) (c_l_numbers : Fnc P ww K mg base CX0 1 "_law_numbers" (pr2 (p_l_numbers K))) : FnOk P ww K mg base CX0 7 f fd ["_law_sort", "_law_args", "_law_at", "_law_number"] (pr4 (p_l_spoilt K (EC.mk C_Entry C_Within C_At C_Between C_Read C_Joint C_Sifted kdAll noKp))) := by
  refine F.ok sc_l_spoilt (fun vs H Q E h => len4 h) (fun cdv A outer s H vs Q E hr h => ?_)
  obtain ⟨w, x0, x1, x2, x3,  rfl, rfl, h⟩ := h
  have ekT := ek_T (P := P) (ww := ww) (base := base) T
  have oex_NoBond := T.oex_NoBond; have xf_NoBond := T.xf_NoBond; have ec_NoBond := T.ec_NoBond; have xn_NoBond := T.xn_NoBond
  have oex_NoEntry := T.oex_NoEntry; have xf_NoEntry := T.xf_NoEntry; have ec_NoEntry := T.ec_NoEntry; have xn_NoEntry := T.xn_NoEntry
  have oex_NoMinutes := T.oex_NoMinutes; have xf_NoMinutes := T.xf_NoMinutes; have ec_NoMinutes := T.ec_NoMinutes; have xn_NoMinutes := T.xn_NoMinutes
  have oex_NoMoment := T.oex_NoMoment; have xf_NoMoment := T.xf_NoMoment; have ec_NoMoment := T.ec_NoMoment; have xn_NoMoment := T.xn_NoMoment
  have oex_NoName := T.oex_NoName; have xf_NoName := T.xf_NoName; have ec_NoName := T.ec_NoName; have xn_NoName := T.xn_NoName
  have oex_NoPlace := T.oex_NoPlace; have xf_NoPlace := T.xf_NoPlace; have ec_NoPlace := T.ec_NoPlace; have xn_NoPlace := T.xn_NoPlace
  have oex_NoReading := T.oex_NoReading; have xf_NoReading := T.xf_NoReading; have ec_NoReading := T.ec_NoReading; have xn_NoReading := T.xn_NoReading
  have oex_Taken := T.oex_Taken; have xf_Taken := T.xf_Taken; have ec_Taken := T.ec_Taken; have xn_Taken := T.xn_Taken
  have oex_TooMany := T.oex_TooMany; have xf_TooMany := T.xf_TooMany; have ec_TooMany := T.ec_TooMany; have xn_TooMany := T.xn_TooMany
  refine ⟨_, (pss_cons (ps_set (i := 4) sc_l_spoilt.nd rfl (Or.inl rfl) (pe_mkX takes0 c_At_init hr (by decide) T.g_At (pa_cons pe_str (pa_cons pe_int pa_nil))))
      (pss_cons (ps_set (i := 5) sc_l_spoilt.nd rfl (Or.inl rfl) (pe_lst (pa_cons (pe_tup (pa_cons (pe_fn0 c_l_names hr (by decide) pass0) (pa_cons pe_str pa_nil))) (pa_cons (pe_tup (pa_cons (pe_fn c_l_numbers hr (by decide) pass0 (pa_cons (pe_op g_pow pe_int pe_int) (pa_cons pe_int pa_nil))) (pa_cons pe_str pa_nil))) pa_nil))))
      (pss_cons (ps_set (i := 5) sc_l_spoilt.nd rfl (Or.inl rfl) (pe_op (kAdd K) (pv 5) (pe_lst (pa_cons (pe_tup (pa_cons (pe_fn c_l_numbers hr (by decide) pass0 (pa_cons (pe_op g_pow pe_int pe_int) (pa_cons (pe_op g_sub pe_int (pe_op g_pow pe_int pe_int)) pa_nil))) (pa_cons pe_str pa_nil))) pa_nil))))
      (pss_cons (ps_if (pt_cmpR (kIn K) (pv 0) (pe_tup (pa_cons pe_str (pa_cons pe_str (pa_cons pe_str pa_nil)))) (by rfl)) (pss_cons (ps_asg (pe_ix (kIx K) (pv 5) (pe_bm PySem.F.plainAttrs_list PySem.F.slot_list_index PySem.F.type_list_index mt_index (pe_lst (pa_cons pe_str (pa_cons pe_str (pa_cons pe_str pa_nil)))) (pa_cons (pv 0) pa_nil)) (fun _ _ => rfl)) (kgTup K (by rfl) (pgs_cons (pg_name (i := 6) sc_l_spoilt.nd rfl (Or.inl rfl)) (pgs_cons (pg_name (i := 7) sc_l_spoilt.nd rfl (Or.inl rfl)) pgs_nil))))
      (pss_cons (ps_set (i := 8) sc_l_spoilt.nd rfl (Or.inl rfl) (pe_ix (kIx K) (pv 6) (pe_op g_mod (pv 3) (pe_callB (kLen K) (by rfl) T.n_len (by decide +kernel) (pa_cons (pv 6) pa_nil))) (fun _ _ => rfl)))
      (pss_one (ps_ret (pe_tup (pa_cons (pv 8) (pa_cons (pv 7) (pa_cons (pv 8) pa_nil)))))))) pss_nil)
      (pss_cons (ps_set (i := 9) sc_l_spoilt.nd rfl (Or.inl rfl) (pe_mkX takes0 c_Joint_init hr (by decide) T.g_Joint (pa_cons pe_str (pa_cons (pe_lst (pa_cons (pv 4) pa_nil)) pa_nil))))
      (pss_cons (ps_if (pt_cmpR (kEq K hr.units) (pv 0) pe_str (nomark _)) (pss_cons (ps_set (i := 6) sc_l_spoilt.nd rfl (Or.inl rfl) (pe_lst (pa_cons pe_non (pa_cons (pe_mkX takes0 c_Entry_init hr (by decide) T.g_Entry (pa_cons pe_str pa_nil)) (pa_cons (pe_mkX takes0 c_Between_init hr (by decide) T.g_Between (pa_cons pe_str (pa_cons pe_str (pa_cons pe_int (pa_cons pe_int pa_nil))))) (pa_cons (pv 9) (pa_cons (pe_mkX takes0 c_Sifted_init hr (by decide) T.g_Sifted (pa_cons pe_str (pa_cons (pv 4) (pa_cons (pe_fnv (k := 2) c_l_keeps (by decide)) pa_nil)))) (pa_cons pe_str (pa_cons (pe_lst (pa_cons (pv 4) pa_nil)) (pa_cons pe_int (pa_cons pe_dnewK (pa_cons (pe_tup pa_nil) pa_nil))))))))))))
      (pss_cons (ps_if (pt_cmpR (kEq K hr.units) (pe_op g_mod (pv 3) pe_int) pe_int (nomark _)) (pss_cons (ps_set (i := 10) sc_l_spoilt.nd rfl (Or.inl rfl) (pe_ix (kIx K) (pe_lst (pa_cons pe_int (pa_cons pe_int (pa_cons (pe_op g_pow pe_int pe_int) pa_nil)))) (pe_op g_mod (pe_op g_div (pv 3) pe_int) pe_int) (fun _ _ => rfl)))
      (pss_one (ps_ret (pe_tup (pa_cons (pe_mkX takes0 c_Within_init hr (by decide) T.g_Within (pa_cons pe_str (pa_cons pe_int (pa_cons (pv 10) pa_nil)))) (pa_cons pe_str (pa_cons (pe_op (kAdd K) (pv 10) pe_int) pa_nil))))))) pss_nil)
      (pss_one (ps_ret (pe_tup (pa_cons (pe_ix (kIx K) (pv 6) (pe_op g_mod (pv 3) (pe_callB (kLen K) (by rfl) T.n_len (by decide +kernel) (pa_cons (pv 6) pa_nil))) (fun _ _ => rfl)) (pa_cons pe_str (pa_cons (pe_ix (kIx K) (pv 6) (pe_op g_mod (pv 3) (pe_callB (kLen K) (by rfl) T.n_len (by decide +kernel) (pa_cons (pv 6) pa_nil))) (fun _ _ => rfl)) pa_nil)))))))) pss_nil)
      (pss_cons (ps_if (pt_cmpR (kEq K hr.units) (pe_op g_mod (pv 3) pe_int) pe_int (nomark _)) (pss_cons (ps_set (i := 6) sc_l_spoilt.nd rfl (Or.inl rfl) (pe_lst (pa_cons pe_non (pa_cons (pe_lst pa_nil) (pa_cons (pe_tup pa_nil) (pa_cons (pe_tup (pa_cons (pv 4) pa_nil)) (pa_cons (pv 4) (pa_cons pe_str (pa_cons pe_dnewK (pa_cons pe_bl pa_nil))))))))))
      (pss_one (ps_ret (pe_tup (pa_cons (pe_ix (kIx K) (pv 6) (pe_op g_mod (pe_op g_div (pv 3) pe_int) pe_int) (fun _ _ => rfl)) (pa_cons pe_str (pa_cons (pe_ix (kIx K) (pv 6) (pe_op g_mod (pe_op g_div (pv 3) pe_int) pe_int) (fun _ _ => rfl)) pa_nil))))))) pss_nil)
      (pss_cons (ps_if (pt_cmpR (kEq K hr.units) (pe_op g_mod (pv 3) pe_int) pe_int (nomark _)) (pss_cons (ps_set (i := 11) sc_l_spoilt.nd rfl (Or.inl rfl) (pe_op (kAdd K) pe_int (pe_op g_mod (pe_op g_div (pv 3) pe_int) pe_int)))
      (pss_one (ps_ret (pe_tup (pa_cons (pe_op (kAdd K) (pe_op (kMul K) (pe_lst (pa_cons (pv 4) (pa_cons pe_non (pa_cons (pv 9) pa_nil)))) pe_int) (pe_op (kMul K) (pe_lst (pa_cons (pv 4) pa_nil)) (pe_op g_sub (pv 11) pe_int))) (pa_cons pe_str (pa_cons (pv 11) pa_nil))))))) pss_nil)
      (pss_cons (ps_set (i := 12) sc_l_spoilt.nd rfl (Or.inl rfl) (pe_ix (kIx K) (pe_lst (pa_cons pe_non (pa_cons (pv 9) (pa_cons pe_str (pa_cons pe_int (pa_cons pe_bl (pa_cons (pe_lst (pa_cons (pv 4) pa_nil)) (pa_cons (pe_tup (pa_cons (pv 4) pa_nil)) (pa_cons pe_dnewK pa_nil))))))))) (pe_op g_mod (pe_op g_div (pv 3) pe_int) pe_int) (fun _ _ => rfl)))
      (pss_cons (ps_set (i := 13) sc_l_spoilt.nd rfl (Or.inl rfl) (pe_slice (kSl K) (pe_callTy (kList K) (by rfl) T.n_list (by decide +kernel) (pa_cons (pe_ix (kIx K) (pv 1) (pv 2) (fun _ _ => rfl)) pa_nil)) po_none (po_some pe_int)))
      (pss_cons (ps_set (i := 14) sc_l_spoilt.nd rfl (Or.inl rfl) (pe_op g_mod (pe_op g_div (pv 3) pe_int) (pe_op (kAdd K) (pe_callB (kLen K) (by rfl) T.n_len (by decide +kernel) (pa_cons (pv 13) pa_nil)) pe_int)))
      (pss_one (ps_ret (pe_tup (pa_cons (pe_op (kAdd K) (pe_op (kAdd K) (pe_slice (kSl K) (pv 13) po_none (po_some (pv 14))) (pe_lst (pa_cons (pv 12) pa_nil))) (pe_slice (kSl K) (pv 13) (po_some (pv 14)) po_none)) (pa_cons pe_str (pa_cons (pv 12) pa_nil))))))))))))))))), ?_⟩
  rw [st_l_spoilt]
  obtain ⟨s, n, rfl, rfl, hn0, hn1, ek, hps, k⟩ := h
  have kt : KT K (EC.mk C_Entry C_Within C_At C_Between C_Read C_Joint C_Sifted kdAll noKp) := by
    refine ⟨fun T hT => ?_, fun k => ?_⟩
    · simp only [List.mem_cons, List.not_mem_nil, or_false] at hT
      rcases hT with rfl | rfl | rfl | rfl | rfl | rfl | rfl
      · exact ⟨T.kt_NoneType_Entry, T.kt_NoneType_Joint, T.kt_NoneType_Within, T.kt_NoneType_Read⟩
      · exact ⟨T.kt_bool_Entry, T.kt_bool_Joint, T.kt_bool_Within, T.kt_bool_Read⟩
      · exact ⟨T.kt_int_Entry, T.kt_int_Joint, T.kt_int_Within, T.kt_int_Read⟩
      · exact ⟨T.kt_str_Entry, T.kt_str_Joint, T.kt_str_Within, T.kt_str_Read⟩
      · exact ⟨T.kt_list_Entry, T.kt_list_Joint, T.kt_list_Within, T.kt_list_Read⟩
      · exact ⟨T.kt_tuple_Entry, T.kt_tuple_Joint, T.kt_tuple_Within, T.kt_tuple_Read⟩
      · exact ⟨T.kt_dict_Entry, T.kt_dict_Joint, T.kt_dict_Within, T.kt_dict_Read⟩
    · cases k
      · exact ⟨T.kt_Entry_list, T.kt_Entry_bool, T.se_Entry, T.so_Entry⟩
      · exact ⟨T.kt_Within_list, T.kt_Within_bool, T.se_Within, T.so_Within⟩
      · exact ⟨T.kt_At_list, T.kt_At_bool, T.se_At, T.so_At⟩
      · exact ⟨T.kt_Between_list, T.kt_Between_bool, T.se_Between, T.so_Between⟩
      · exact ⟨T.kt_Read_list, T.kt_Read_bool, T.se_Read, T.so_Read⟩
      · exact ⟨T.kt_Joint_list, T.kt_Joint_bool, T.se_Joint, T.so_Joint⟩
      · exact ⟨T.kt_Sifted_list, T.kt_Sifted_bool, T.se_Sifted, T.so_Sifted⟩
  ((with_reducible refine s_seq ?_); (with_reducible refine s_asg ?_); (with_reducible refine s_makeX ?_); (with_reducible refine s_cons ?_); (with_reducible refine s_c ?_); (with_reducible refine s_cons ?_); (with_reducible refine s_c ?_); (with_reducible refine s_nil ?_))
  refine mk_att (ec := (EC.mk C_Entry C_Within C_At C_Between C_Read C_Joint C_Sifted kdAll noKp)) (p := Str.ofString "a") ek ⟨by decide +kernel, by decide +kernel, by decide +kernel⟩ (by decide) (by decide) fun v1 one e1 n1 hS1 => ?_
  ((with_reducible refine' s_gname ?q0 ?q1); (case q0 => simp only [ List.set_cons_succ , List.set_cons_zero ]; exact rfl); (with_reducible refine s_seq ?_); (with_reducible refine s_asg ?_); (with_reducible refine t_lst ?_); (with_reducible refine s_cons ?_); (with_reducible refine t_tup ?_); (with_reducible refine s_cons ?_); (with_reducible refine s_call ?_); (with_reducible refine s_nil ?_); (with_reducible refine s_pr0 ?_))
  refine fun v2 r2 A2 e2 s2 l2 b2 => ?_
  ((with_reducible refine s_cons ?_); (with_reducible refine s_c ?_); (with_reducible refine s_nil ?_); (with_reducible refine' t_newT ?q2 ?q3); (case q2 => simp only [ List.length , sizeLine_eq ]; omega); intro _ _ _ _ _; (with_reducible refine s_cons ?_); (with_reducible refine t_tup ?_); (with_reducible refine s_cons ?_); (with_reducible refine s_call ?_); (with_reducible refine s_cons ?_); (with_reducible refine s_op ?_); (with_reducible refine s_c ?_); (with_reducible refine s_c ?_); (with_reducible refine' s_powN ?q4 ?q5 ?q6); (case q4 => exact ⟨ by decide , by decide , by decide ⟩); (case q5 => exact p10_9); (with_reducible refine s_cons ?_); (with_reducible refine s_c ?_); (with_reducible refine s_nil ?_); (with_reducible refine s_pr2 ?_))
  rename_i t3 v3 e3 n3 s3
  refine ⟨.moment, 1000000000, 0, rfl, rfl, .inl rfl, fun i h => by show wholeB (.int i) 0 1000000000 = false; unfold wholeB; simp; omega, by decide, by decide, by decide, by decide, fun v4 r4 A4 e4 s4 l4 b4 => ?_⟩
  ((with_reducible refine s_cons ?_); (with_reducible refine s_c ?_); (with_reducible refine s_nil ?_); (with_reducible refine' t_newT ?q7 ?q8); (case q7 => simp only [ List.length , sizeLine_eq ]; omega); intro _ _ _ _ _; (with_reducible refine s_nil ?_); (with_reducible refine' t_newLS ?q9 ?q10); (case q9 => simp only [ List.length , sizeLine_eq ]; omega); intro _ _ _ _ _; (with_reducible refine' s_gname ?q11 ?q12); (case q11 => simp only [ List.set_cons_succ , List.set_cons_zero ]; exact rfl); (with_reducible refine s_seq ?_); (with_reducible refine s_asg ?_); (with_reducible refine s_op ?_); (with_reducible refine' s_var ?q13 ?q14); (case q13 => exact rfl); (with_reducible refine t_lst ?_); (with_reducible refine s_cons ?_); (with_reducible refine t_tup ?_); (with_reducible refine s_cons ?_); (with_reducible refine s_call ?_); (with_reducible refine s_cons ?_); (with_reducible refine s_op ?_); (with_reducible refine s_c ?_); (with_reducible refine s_c ?_); (with_reducible refine' s_powN ?q15 ?q16 ?q17); (case q15 => exact ⟨ by decide , by decide , by decide ⟩); (case q16 => exact p10_10); (with_reducible refine s_cons ?_); (with_reducible refine s_op ?_); (with_reducible refine s_c ?_); (with_reducible refine s_op ?_); (with_reducible refine s_c ?_); (with_reducible refine s_c ?_); (with_reducible refine' s_powN ?q18 ?q19 ?q20); (case q18 => exact ⟨ by decide , by decide , by decide ⟩); (case q19 => exact p10_10); (with_reducible refine s_sub ?_); (with_reducible refine s_nil ?_); (with_reducible refine s_pr2 ?_))
  rename_i t5 v5 e5 n5 s5 l5 v6 e6 n6 s6
  refine ⟨.reading, 10000000000, 0 - 10000000000, rfl, rfl, .inr rfl, fun i h => by show wholeB (.int i) (0 - 10000000000) 10000000000 = false; unfold wholeB; simp; omega, by decide, by decide, by decide, by decide, fun v7 r7 A7 e7 s7 l7 b7 => ?_⟩
  ((with_reducible refine s_cons ?_); (with_reducible refine s_c ?_); (with_reducible refine s_nil ?_); (with_reducible refine' t_newT ?q21 ?q22); (case q21 => simp only [ List.length , sizeLine_eq ]; omega); intro _ _ _ _ _; (with_reducible refine s_nil ?_); (with_reducible refine' t_newLS ?q23 ?q24); (case q23 => simp only [ List.length , sizeLine_eq ]; omega); intro _ _ _ _ _; (with_reducible refine' s_catS ?q25 ?q26 ?q27 ?q28); (case q25 => refine' Wd.ok _ _ _ ?q29; (case q29 => refine' st_go ( by assumption ) ?q30; (case q30 => refine' st_go ( by assumption ) ?q31; (case q31 => refine' st_go ( by assumption ) ?q32; (case q32 => assumption))))); (case q26 => refine' Wd.ok _ _ _ ?q33; (case q33 => assumption)); (case q27 => simp only [ List.length_append , List.length_cons , List.length_nil , List.length_map , List.length_reverse , List.length_replicate , sizeLine_eq ]; omega); intro _ _ _ _ _; (with_reducible refine' s_gname ?q34 ?q35); (case q34 => simp only [ List.set_cons_succ , List.set_cons_zero ]; exact rfl); (with_reducible refine s_seq ?_); (with_reducible refine s_ifS ?_); (with_reducible refine s_test ?_); (with_reducible refine s_op ?_); (with_reducible refine' s_var ?q36 ?q37); (case q36 => exact rfl); (with_reducible refine t_tup ?_); (with_reducible refine s_cons ?_); (with_reducible refine s_c ?_); (with_reducible refine s_cons ?_); (with_reducible refine s_c ?_); (with_reducible refine s_cons ?_); (with_reducible refine s_c ?_); (with_reducible refine s_nil ?_); (with_reducible refine' t_newT ?q38 ?q39); (case q38 => simp only [ List.length , sizeLine_eq ]; omega); intro _ _ _ _ _)
  rename_i t8 v8 e8 n8 s8 l9 v9 e9 n9 s9 la va ea na sa tb vb eb nb sb
  have g9 : Same v9.S vb.S := fun a o z => eb.st a o (ea.st a o z)
  have g8 : Same v8.S vb.S := fun a o z => g9 a o (e9.st a o z)
  have g7 : Same v7.S vb.S := fun a o z => g8 a o (e8.st a o z)
  have g5 : Same v5.S vb.S := fun a o z => g7 a o (e7.st a o (e6.st a o z))
  have g4 : Same v4.S vb.S := fun a o z => g5 a o (e5.st a o z)
  have g3 : Same v3.S vb.S := fun a o z => g4 a o (e4.st a o z)
  have g2 : Same v2.S vb.S := fun a o z => g3 a o (e3.st a o z)
  have g1 : Same v1.S vb.S := fun a o z => g2 a o (e2.st a o z)
  have ew : Ext Non w vb := ((((((((((e1.trans e2).trans e3).trans e4).trans e5).trans e6).trans e7).trans e8).trans e9).trans ea).trans eb)
  have hS1 := SimS.mono g1 hS1
  have s2 := g2 _ _ s2
  have b2 : ∀ x ∈ A2, BadT K vb.S .name x := fun x hx => (b2 x hx).mono g2
  have s3 := g3 _ _ s3
  have s4 := g4 _ _ s4
  have b4 : ∀ x ∈ A4, BadT K vb.S .moment x := fun x hx => (b4 x hx).mono g4
  have s5 := g5 _ _ s5
  have s7 := g7 _ _ s7
  have b7 : ∀ x ∈ A7, BadT K vb.S .reading x := fun x hx => (b7 x hx).mono g7
  have s8 := g8 _ _ s8
  have sa : vb.S la = some (.lst [.ref t3, .ref t5, .ref t8]) := eb.st _ _ sa
  clear g1 g2 g3 g4 g5 g7 g8 g9 e1 e2 e3 e4 e5 e6 e7 e8 e9 ea eb n1 n3 n5 n6 n8 n9 na nb s9 s6
  refine s_inT sb (by rfl) ?_
  rw [srt_in]
  clear sb
  by_cases hsk : s ≠ .parts ∧ s ≠ .part
  · rw [decide_eq_true hsk]
    obtain ⟨hk1, hk2⟩ := hsk
    obtain ⟨t, r, A, hi, st, sr, hA, hA0, hAl⟩ : ∃ t r A, [V.ref t3, V.ref t5, V.ref t8][sidx s]? = some (.ref t) ∧ vb.S t = some (.tup [.ref r, .str s.z]) ∧ vb.S r = some (.lst A) ∧ (∀ x ∈ A, BadT K vb.S s x) ∧ 0 < A.length ∧ A.length ≤ 22 := by
      cases s with
      | name => exact ⟨t3, r2, A2, rfl, s3, s2, b2, by omega, by omega⟩
      | moment => exact ⟨t5, r4, A4, rfl, s5, s4, b4, by omega, by omega⟩
      | reading => exact ⟨t8, r7, A7, rfl, s8, s7, b7, by omega, by omega⟩
      | parts => exact absurd rfl hk1
      | part => exact absurd rfl hk2
    clear s2 s3 s4 s5 s7 s8 b2 b4 b7 hps
    ((with_reducible refine s_bl ?_); (with_reducible refine ite_tt ?_); (with_reducible refine s_seq ?_); (with_reducible refine s_asg ?_); (with_reducible refine s_op ?_); (with_reducible refine' s_var ?q40 ?q41); (case q40 => exact rfl); (with_reducible refine s_BM ?_); (with_reducible refine t_lst ?_); (with_reducible refine s_cons ?_); (with_reducible refine s_c ?_); (with_reducible refine s_cons ?_); (with_reducible refine s_c ?_); (with_reducible refine s_cons ?_); (with_reducible refine s_c ?_); (with_reducible refine s_nil ?_); (with_reducible refine' t_newLS ?q42 ?q43); (case q42 => simp only [ List.length , sizeLine_eq ]; omega); intro _ _ _ _ _)
    rename_i lc vc ec nc sc
    have sc : vc.S lc = some (.lst (sws.map V.str)) := sc
    refine ⟨.inl ⟨rfl, _, SqL.of (vc.ok _ _ sc)⟩, ?_⟩
    ((with_reducible refine s_cons ?_); (with_reducible refine' s_var ?q50 ?q51); (case q50 => exact rfl); (with_reducible refine s_nil ?_))
    refine s_lix (ys := sws) (j := sidx s) (SqL.of (vc.ok _ _ sc)) (by cases s <;> first | rfl | exact absurd rfl hk1 | exact absurd rfl hk2) (by cases s <;> first | exact absurd rfl hk1 | exact absurd rfl hk2 | decide +kernel) ?_
    refine ixS_of (st_go ec sa) rfl hi ?_
    have st := st_go ec st
    have sr := st_go ec sr
    ((with_reducible refine' s_gtup ?q52 ?q53 ?q54); (case q52 => assumption); (case q53 => exact rfl); (with_reducible refine s_gcons ?_); (with_reducible refine' s_gname ?q55 ?q56); (case q55 => simp only [ List.set_cons_succ , List.set_cons_zero ]; exact rfl); (with_reducible refine s_gcons ?_); (with_reducible refine' s_gname ?q57 ?q58); (case q57 => simp only [ List.set_cons_succ , List.set_cons_zero ]; exact rfl); (with_reducible refine s_gnil ?_); (with_reducible refine s_seq ?_); (with_reducible refine s_asg ?_); (with_reducible refine s_op ?_); (with_reducible refine' s_var ?q59 ?q60); (case q59 => exact rfl); (with_reducible refine s_op ?_); (with_reducible refine' s_var ?q61 ?q62); (case q61 => exact rfl); (with_reducible refine s_CB ?_); (with_reducible refine s_cons ?_); (with_reducible refine' s_var ?q63 ?q64); (case q63 => exact rfl); (with_reducible refine s_nil ?_); (with_reducible refine' s_lenL ?q69 ?q70); (case q69 => assumption); (with_reducible refine s_mod ?q71 ?q72); (case q71 => omega))
    refine s_ixSm sr (Int.emod_nonneg _ (by omega)) (by have := Int.emod_lt_of_pos n (show (0 : Int) < A.length by omega); omega) ?_
    intro x hx hxm
    clear hx
    have hb := (hA x hxm).mono ec.st
    ((with_reducible refine' s_gname ?q102 ?q103); (case q102 => simp only [ List.set_cons_succ , List.set_cons_zero ]; exact rfl); (with_reducible refine s_ret ?_); (with_reducible refine t_tup ?_); (with_reducible refine s_cons ?_); (with_reducible refine' s_var ?q104 ?q105); (case q104 => exact rfl); (with_reducible refine s_cons ?_); (with_reducible refine' s_var ?q106 ?q107); (case q106 => exact rfl); (with_reducible refine s_cons ?_); (with_reducible refine' s_var ?q108 ?q109); (case q108 => exact rfl); (with_reducible refine s_nil ?_); (with_reducible refine' t_newT ?q110 ?q111); (case q110 => simp only [ List.length , sizeLine_eq ]; omega); intro _ _ _ _ _)
    rename_i td vd ed nd sd
    rw [← srt_w hk1 hk2] at sd
    have hb := hb.mono ed.st
    exact k vd td x s.w x ((ew.trans ec).trans ed) sd (bad_arg hk1 hk2 hb) hb.2
  · rw [decide_eq_false hsk]
    clear s2 s3 s4 s5 s7 s8 b2 b4 b7 sa
    ((with_reducible refine s_bl ?_); (with_reducible refine ite_ff ?_); (with_reducible refine s_next ?_); (with_reducible refine s_seq ?_); (with_reducible refine s_asg ?_); (with_reducible refine s_makeX ?_); (with_reducible refine s_cons ?_); (with_reducible refine s_c ?_); (with_reducible refine s_cons ?_); (with_reducible refine t_lst ?_); (with_reducible refine s_cons ?_); (with_reducible refine' s_var ?q112 ?q113); (case q112 => exact rfl); (with_reducible refine s_nil ?_); (with_reducible refine' t_newLS ?q114 ?q115); (case q114 => simp only [ List.length , sizeLine_eq ]; omega); intro _ _ _ _ _; (with_reducible refine s_nil ?_))
    rename_i lc vc ec nc sc
    have sone : AllR (PrtS K (EC.mk C_Entry C_Within C_At C_Between C_Read C_Joint C_Sifted kdAll noKp) vc.S) [V.ref one] [.sim ⟨.att, Str.ofString "a", Str.ofString "a", 3, 3⟩] := .cons (SimS.go ec hS1) .nil
    refine mk_joint (ec := (EC.mk C_Entry C_Within C_At C_Between C_Read C_Joint C_Sifted kdAll noKp)) ek trivial ⟨by decide +kernel, by decide +kernel, by decide +kernel⟩ ⟨lc, _, _, rfl, sc, sone, fun q hq => by rw [List.mem_singleton.mp hq]; exact ⟨trivial, fun h => h.elim, fun _ => rfl⟩, by decide, by decide⟩ fun vj xj dj fj ej sj => ?_
    have hS1 := SimS.go ej (SimS.go ec hS1)
    have ewj := (ew.trans ec).trans ej
    clear ec ej ew sc nc sone
    ((with_reducible refine' s_gname ?q116 ?q117); (case q116 => simp only [ List.set_cons_succ , List.set_cons_zero ]; exact rfl); (with_reducible refine s_seq ?_); (with_reducible refine s_ifS ?_); (with_reducible refine s_test ?_); (with_reducible refine s_op ?_); (with_reducible refine' s_var ?q118 ?q119); (case q118 => exact rfl); (with_reducible refine s_c ?_); (with_reducible refine s_eqS ?_); (with_reducible refine s_bl ?_))
    rw [srt_part]
    by_cases hp : s = .part
    · rw [decide_eq_true hp]
      subst hp
      ((with_reducible refine ite_tt ?_); (with_reducible refine s_seq ?_); (with_reducible refine s_asg ?_); (with_reducible refine t_lst ?_); (with_reducible refine s_cons ?_); (with_reducible refine s_c ?_); (with_reducible refine s_cons ?_); (with_reducible refine s_makeX ?_); (with_reducible refine s_cons ?_); (with_reducible refine s_c ?_); (with_reducible refine s_nil ?_))
      refine mk_any (ec := (EC.mk C_Entry C_Within C_At C_Between C_Read C_Joint C_Sifted kdAll noKp)) (p := Str.ofString "a") (lo := 0) (hi := 0) ek ⟨by decide +kernel, by decide +kernel, by decide +kernel⟩ fun v1 xa e1 n1 hSa => ?_
      ((with_reducible refine s_cons ?_); (with_reducible refine s_makeX ?_); (with_reducible refine s_cons ?_); (with_reducible refine s_c ?_); (with_reducible refine s_cons ?_); (with_reducible refine s_c ?_); (with_reducible refine s_cons ?_); (with_reducible refine s_c ?_); (with_reducible refine s_cons ?_); (with_reducible refine s_c ?_); (with_reducible refine s_nil ?_))
      refine mk_between (ec := (EC.mk C_Entry C_Within C_At C_Between C_Read C_Joint C_Sifted kdAll noKp)) ek ⟨by decide +kernel, by decide +kernel, by decide +kernel⟩ ⟨by decide +kernel, by decide +kernel, by decide +kernel⟩ (by decide) (by decide) (by decide) (by decide) fun v2 xb e2 n2 hSb => ?_
      ((with_reducible refine s_cons ?_); (with_reducible refine' s_var ?q120 ?q121); (case q120 => exact rfl); (with_reducible refine s_cons ?_); (with_reducible refine s_makeX ?_); (with_reducible refine s_cons ?_); (with_reducible refine s_c ?_); (with_reducible refine s_cons ?_); (with_reducible refine' s_var ?q122 ?q123); (case q122 => exact rfl); (with_reducible refine s_cons ?_); (with_reducible refine' s_fnv ?q124); intro _ _; (with_reducible refine s_nil ?_))
      refine mk_sifted (ec := (EC.mk C_Entry C_Within C_At C_Between C_Read C_Joint C_Sifted kdAll noKp)) ek trivial ⟨by decide +kernel, by decide +kernel, by decide +kernel⟩ ⟨_, SimS.go (e1.trans e2) hS1, ⟨trivial, fun h => h.elim, fun _ => rfl⟩, .inr (.inl rfl), fun _ => by dsimp only; omega⟩ fun v3 xs ds fs e3 ss => ?_
      ((with_reducible refine s_cons ?_); (with_reducible refine s_c ?_); (with_reducible refine s_cons ?_); (with_reducible refine t_lst ?_); (with_reducible refine s_cons ?_); (with_reducible refine' s_var ?q125 ?q126); (case q125 => exact rfl); (with_reducible refine s_nil ?_); (with_reducible refine' t_newLS ?q127 ?q128); (case q127 => simp only [ List.length , sizeLine_eq ]; omega); intro _ _ _ _ _; (with_reducible refine s_cons ?_); (with_reducible refine s_c ?_); (with_reducible refine s_cons ?_); (with_reducible refine' s_dnewS ?q129); intro _ _ _ _ _; (with_reducible refine s_cons ?_); (with_reducible refine t_tup ?_); (with_reducible refine s_nil ?_); (with_reducible refine' t_newT ?q130 ?q131); (case q130 => simp only [ List.length , sizeLine_eq ]; omega); intro _ _ _ _ _; (with_reducible refine s_nil ?_); (with_reducible refine' t_newLS ?q132 ?q133); (case q132 => simp only [ List.length , sizeLine_eq ]; omega); intro _ _ _ _ _; (with_reducible refine' s_gname ?q134 ?q135); (case q134 => simp only [ List.set_cons_succ , List.set_cons_zero ]; exact rfl); (with_reducible refine s_seq ?_); (with_reducible refine s_ifS ?_); (with_reducible refine s_test ?_); (with_reducible refine s_op ?_); (with_reducible refine s_op ?_); (with_reducible refine' s_var ?q136 ?q137); (case q136 => exact rfl); (with_reducible refine s_c ?_); (with_reducible refine s_mod ?q138 ?q139); (case q138 => omega); (with_reducible refine s_c ?_); (with_reducible refine s_eqI ?_); (with_reducible refine s_bl ?_))
      rename_i l4 v4 e4 n4 s4 p5 v5 e5 n5 s5 p6 v6 e6 n6 s6 p7 v7 e7 n7 s7
      have g3 : Same v3.S v7.S := fun a o z => e7.st a o (e6.st a o (e5.st a o (e4.st a o z)))
      have g2 : Same v2.S v7.S := fun a o z => g3 a o (e3.st a o z)
      have g1 : Same v1.S v7.S := fun a o z => g2 a o (e2.st a o z)
      have gj : Same vj.S v7.S := fun a o z => g1 a o (e1.st a o z)
      have ew7 : Ext Non w v7 := (((((((ewj.trans e1).trans e2).trans e3).trans e4).trans e5).trans e6).trans e7)
      obtain ⟨_, xa', dxa, hxa, sxa⟩ := SimS.mono g1 hSa
      cases hxa
      obtain ⟨_, xb', dxb, hxb, sxb⟩ := SimS.mono g2 hSb
      cases hxb
      have sj := gj _ _ sj
      have ss := g3 _ _ ss
      have s4 := e7.st _ _ (e6.st _ _ (e5.st _ _ s4))
      have s5 := e7.st _ _ (e6.st _ _ s5)
      have s6 := e7.st _ _ s6
      clear g1 g2 g3 gj e1 e2 e3 e4 e5 e6 e7 n4 n5 n6 n7 ewj hSa hSb hS1 hps
      have hall : ∀ x ∈ [V.non, .ref xa, .ref xb, .ref xj, .ref xs, .str (Str.ofString "a"), .ref l4, .int 7, .ref p5, .ref p6], ∃ A : Ans, TgA K (EC.mk C_Entry C_Within C_At C_Between C_Read C_Joint C_Sifted kdAll noKp) v7.S x A ∧ A.wi = false ∧ A.r = false := by
        refine all_cons ⟨_, tg_none kt, rfl, rfl⟩ <| all_cons ⟨_, tg_ins (k := .any) kt ek trivial trivial sxa, rfl, rfl⟩ <| all_cons ⟨_, tg_ins (k := .between) kt ek trivial trivial sxb, rfl, rfl⟩ <| all_cons ⟨_, tg_ins (k := .joint) kt ek trivial trivial sj, rfl, rfl⟩ <| all_cons ⟨_, tg_ins (k := .sifted) kt ek trivial trivial ss, rfl, rfl⟩ <| all_cons ⟨_, tg_str kt, rfl, rfl⟩ <| all_cons ⟨_, tg_lst kt s4, rfl, rfl⟩ <| all_cons ⟨_, tg_int kt, rfl, rfl⟩ <| all_cons ⟨_, tg_dct kt s5, rfl, rfl⟩ <| all_cons ⟨_, tg_tup kt s6, rfl, rfl⟩ all_nil
      refine ite_d (fun c => ?_) (fun c => ?_)
      · ((with_reducible refine s_seq ?_); (with_reducible refine s_asg ?_); (with_reducible refine s_op ?_); (with_reducible refine t_lst ?_); (with_reducible refine s_cons ?_); (with_reducible refine s_c ?_); (with_reducible refine s_cons ?_); (with_reducible refine s_c ?_); (with_reducible refine s_cons ?_); (with_reducible refine s_op ?_); (with_reducible refine s_c ?_); (with_reducible refine s_c ?_); (with_reducible refine' s_powN ?q140 ?q141 ?q142); (case q140 => exact ⟨ by decide , by decide , by decide ⟩); (case q141 => exact p10_9); (with_reducible refine s_nil ?_); (with_reducible refine' t_newLS ?q143 ?q144); (case q143 => simp only [ List.length , sizeLine_eq ]; omega); intro _ _ _ _ _; (with_reducible refine s_op ?_); (with_reducible refine s_op ?_); (with_reducible refine' s_var ?q145 ?q146); (case q145 => exact rfl); (with_reducible refine s_c ?_); (with_reducible refine s_div ?q147 ?q148); (case q147 => exact ⟨ by decide , by decide ⟩); (with_reducible refine s_c ?_); (with_reducible refine s_mod ?q149 ?q150); (case q149 => omega))
        ((with_reducible refine' s_ixSm ?q188 ?q189 ?q190 ?q191); (case q188 => assumption); (case q189 => omega); (case q190 => simp only [ List.length ]; omega))
        intro x hx hxm
        clear hx
        obtain ⟨wide, rfl, hw0, hw1⟩ : ∃ m : Int, x = .int m ∧ 1000 ≤ m ∧ m ≤ 1000000000 := by
          simp only [List.mem_cons, List.not_mem_nil, or_false] at hxm
          rcases hxm with rfl | rfl | rfl
          · exact ⟨_, rfl, by decide, by decide⟩
          · exact ⟨_, rfl, by decide, by decide⟩
          · exact ⟨_, rfl, by decide, by decide⟩
        ((with_reducible refine' s_gname ?q192 ?q193); (case q192 => simp only [ List.set_cons_succ , List.set_cons_zero ]; exact rfl); (with_reducible refine s_ret ?_); (with_reducible refine t_tup ?_); (with_reducible refine s_cons ?_); (with_reducible refine s_makeX ?_); (with_reducible refine s_cons ?_); (with_reducible refine s_c ?_); (with_reducible refine s_cons ?_); (with_reducible refine s_c ?_); (with_reducible refine s_cons ?_); (with_reducible refine' s_var ?q194 ?q195); (case q194 => exact rfl); (with_reducible refine s_nil ?_))
        refine mk_within (ec := (EC.mk C_Entry C_Within C_At C_Between C_Read C_Joint C_Sifted kdAll noKp)) (p := Str.ofString "a") ek ⟨by decide +kernel, by decide +kernel, by decide +kernel⟩ (by omega) (by omega) (by omega) (by omega) fun v9 xw e9 n9 hSw => ?_
        ((with_reducible refine s_cons ?_); (with_reducible refine s_c ?_); (with_reducible refine s_cons ?_); (with_reducible refine s_op ?_); (with_reducible refine' s_var ?q196 ?q197); (case q196 => exact rfl); (with_reducible refine s_c ?_); (with_reducible refine s_add ?_); (with_reducible refine s_nil ?_); (with_reducible refine' t_newT ?q198 ?q199); (case q198 => simp only [ List.length , sizeLine_eq ]; omega); intro _ _ _ _ _)
        rename_i lq vq eq nq sq tz vz ez nz sz
        have ez' := ez
        exact k vz tz _ .mn _ (((ew7.trans eq).trans e9).trans ez) sz ⟨_, SimS.go ez hSw, rfl, by dsimp only; omega, by dsimp only; rw [show wide - 0 + 1 = wide + 1 by omega]⟩ ⟨trivial, _, _, .int _, kit_ty kb_int_bool⟩
      · obtain ⟨x, hx⟩ : ∃ x, [V.non, .ref xa, .ref xb, .ref xj, .ref xs, .str (Str.ofString "a"), .ref l4, .int 7, .ref p5, .ref p6][(n % 10).toNat]? = some x := ⟨_, List.getElem?_eq_getElem (by simp only [List.length_cons, List.length_nil]; omega)⟩
        obtain ⟨A, hA, hA1, hA2⟩ := hall x (List.mem_of_getElem? hx)
        ((with_reducible refine s_next ?_); (with_reducible refine s_ret ?_); (with_reducible refine t_tup ?_); (with_reducible refine s_cons ?_); (with_reducible refine s_op ?_); (with_reducible refine' s_var ?q200 ?q201); (case q200 => exact rfl); (with_reducible refine s_op ?_); (with_reducible refine' s_var ?q202 ?q203); (case q202 => exact rfl); (with_reducible refine s_CB ?_); (with_reducible refine s_cons ?_); (with_reducible refine' s_var ?q204 ?q205); (case q204 => exact rfl); (with_reducible refine s_nil ?_); (with_reducible refine' s_lenL ?q209 ?q210); (case q209 => assumption); (with_reducible refine s_mod ?q211 ?q212); (case q211 => simp only [ List.length_append , List.length_cons , List.length_nil , List.length_map , List.length_reverse , List.length_replicate , sizeLine_eq ]; omega))
        refine ixS_of s7 (j := (n % 10).toNat) (by first | omega | (simp only [List.length_cons, List.length_nil]; omega)) hx ?_
        ((with_reducible refine s_cons ?_); (with_reducible refine s_c ?_); (with_reducible refine s_cons ?_); (with_reducible refine s_op ?_); (with_reducible refine' s_var ?q235 ?q236); (case q235 => exact rfl); (with_reducible refine s_op ?_); (with_reducible refine' s_var ?q237 ?q238); (case q237 => exact rfl); (with_reducible refine s_CB ?_); (with_reducible refine s_cons ?_); (with_reducible refine' s_var ?q239 ?q240); (case q239 => exact rfl); (with_reducible refine s_nil ?_); (with_reducible refine' s_lenL ?q244 ?q245); (case q244 => assumption); (with_reducible refine s_mod ?q246 ?q247); (case q246 => simp only [ List.length_append , List.length_cons , List.length_nil , List.length_map , List.length_reverse , List.length_replicate , sizeLine_eq ]; omega))
        refine ixS_of s7 (j := (n % 10).toNat) (by first | omega | (simp only [List.length_cons, List.length_nil]; omega)) hx ?_
        ((with_reducible refine s_nil ?_); (with_reducible refine' t_newT ?q270 ?q271); (case q270 => simp only [ List.length , sizeLine_eq ]; omega); intro _ _ _ _ _)
        rename_i tz vz ez nz sz
        have hA := hA.mono ez.st
        exact k vz tz x .en x (ew7.trans ez) sz (hA.nopart hA1 hA2) hA.thg
    · rw [decide_eq_false hp]
      have hs : s = .parts := by
        by_cases c : s = .parts
        · exact c
        · exact absurd ⟨c, hp⟩ hsk
      subst hs
      obtain ⟨p, vs, i, y, rfl, sp, rfl, hy, hP⟩ := hps rfl
      obtain ⟨_, xo', dxo, hxo, sxo⟩ := id hS1
      cases hxo
      clear hps
      ((with_reducible refine ite_ff ?_); (with_reducible refine s_next ?_); (with_reducible refine s_seq ?_); (with_reducible refine s_ifS ?_); (with_reducible refine s_test ?_); (with_reducible refine s_op ?_); (with_reducible refine s_op ?_); (with_reducible refine' s_var ?q272 ?q273); (case q272 => exact rfl); (with_reducible refine s_c ?_); (with_reducible refine s_mod ?q274 ?q275); (case q274 => omega); (with_reducible refine s_c ?_); (with_reducible refine s_eqI ?_); (with_reducible refine s_bl ?_))
      refine ite_d (fun c1 => ?_) (fun c1 => ?_)
      · ((with_reducible refine s_seq ?_); (with_reducible refine s_asg ?_); (with_reducible refine t_lst ?_); (with_reducible refine s_cons ?_); (with_reducible refine s_c ?_); (with_reducible refine s_cons ?_); (with_reducible refine t_lst ?_); (with_reducible refine s_nil ?_); (with_reducible refine' t_newLS ?q276 ?q277); (case q276 => simp only [ List.length , sizeLine_eq ]; omega); intro _ _ _ _ _; (with_reducible refine s_cons ?_); (with_reducible refine t_tup ?_); (with_reducible refine s_nil ?_); (with_reducible refine' t_newT ?q278 ?q279); (case q278 => simp only [ List.length , sizeLine_eq ]; omega); intro _ _ _ _ _; (with_reducible refine s_cons ?_); (with_reducible refine t_tup ?_); (with_reducible refine s_cons ?_); (with_reducible refine' s_var ?q280 ?q281); (case q280 => exact rfl); (with_reducible refine s_nil ?_); (with_reducible refine' t_newT ?q282 ?q283); (case q282 => simp only [ List.length , sizeLine_eq ]; omega); intro _ _ _ _ _; (with_reducible refine s_cons ?_); (with_reducible refine' s_var ?q284 ?q285); (case q284 => exact rfl); (with_reducible refine s_cons ?_); (with_reducible refine s_c ?_); (with_reducible refine s_cons ?_); (with_reducible refine' s_dnewS ?q286); intro _ _ _ _ _; (with_reducible refine s_cons ?_); (with_reducible refine s_c ?_); (with_reducible refine s_nil ?_); (with_reducible refine' t_newLS ?q287 ?q288); (case q287 => simp only [ List.length , sizeLine_eq ]; omega); intro _ _ _ _ _; (with_reducible refine' s_gname ?q289 ?q290); (case q289 => simp only [ List.set_cons_succ , List.set_cons_zero ]; exact rfl); (with_reducible refine s_ret ?_); (with_reducible refine t_tup ?_); (with_reducible refine s_cons ?_); (with_reducible refine s_op ?_); (with_reducible refine' s_var ?q291 ?q292); (case q291 => exact rfl); (with_reducible refine s_op ?_); (with_reducible refine s_op ?_); (with_reducible refine' s_var ?q293 ?q294); (case q293 => exact rfl); (with_reducible refine s_c ?_); (with_reducible refine s_div ?q295 ?q296); (case q295 => exact ⟨ by decide , by decide ⟩); (with_reducible refine s_c ?_); (with_reducible refine s_mod ?q297 ?q298); (case q297 => omega))
        rename_i l4 v4 e4 n4 s4 p5 v5 e5 n5 s5 p6 v6 e6 n6 s6 p7 v7 e7 n7 s7 p8 v8 e8 n8 s8
        have ew8 : Ext Non w v8 := (((((ewj.trans e4).trans e5).trans e6).trans e7).trans e8)
        have s7 := e8.st _ _ s7
        have s6 := e8.st _ _ (e7.st _ _ s6)
        have s5 := e8.st _ _ (e7.st _ _ (e6.st _ _ s5))
        have s4 := e8.st _ _ (e7.st _ _ (e6.st _ _ (e5.st _ _ s4)))
        have sxo := e8.st _ _ (e7.st _ _ (e6.st _ _ (e5.st _ _ (e4.st _ _ sxo))))
        clear e4 e5 e6 e7 e8 n4 n5 n6 n7 n8 ewj hS1
        have hall : ∀ x ∈ [V.non, .ref l4, .ref p5, .ref p6, .ref one, .str (Str.ofString "a"), .ref p7, .bl true], PartsA K (EC.mk C_Entry C_Within C_At C_Between C_Read C_Joint C_Sifted kdAll noKp) v8.S x (some (.en, x)) ∧ Thg K v8.S x := by
          have h1 : ∀ {x : V} {A : Ans}, TgA K (EC.mk C_Entry C_Within C_At C_Between C_Read C_Joint C_Sifted kdAll noKp) v8.S x A → A.l = false → PartsA K (EC.mk C_Entry C_Within C_At C_Between C_Read C_Joint C_Sifted kdAll noKp) v8.S x (some (.en, x)) ∧ Thg K v8.S x := fun h hA => ⟨h.nolist hA, h.thg⟩
          refine all_cons (h1 (tg_none kt) rfl) <| all_cons ⟨.inl ⟨rfl, .inr ⟨l4, rfl, s4⟩⟩, (tg_lst kt s4).thg⟩ <| all_cons (h1 (tg_tup kt s5) rfl) <| all_cons (h1 (tg_tup kt s6) rfl) <| all_cons (h1 (tg_ins (k := .att) kt ek trivial trivial sxo) rfl) <| all_cons (h1 (tg_str kt) rfl) <| all_cons (h1 (tg_dct kt s7) rfl) <| all_cons (h1 (tg_bl kt) rfl) all_nil
        obtain ⟨x, hx⟩ : ∃ x, [V.non, .ref l4, .ref p5, .ref p6, .ref one, .str (Str.ofString "a"), .ref p7, .bl true][(n / 4 % 8).toNat]? = some x := ⟨_, List.getElem?_eq_getElem (by simp only [List.length_cons, List.length_nil]; omega)⟩
        obtain ⟨hA, hT⟩ := hall x (List.mem_of_getElem? hx)
        refine ixS_of s8 (j := (n / 4 % 8).toNat) (by omega) hx ?_
        ((with_reducible refine s_cons ?_); (with_reducible refine s_c ?_); (with_reducible refine s_cons ?_); (with_reducible refine s_op ?_); (with_reducible refine' s_var ?q356 ?q357); (case q356 => exact rfl); (with_reducible refine s_op ?_); (with_reducible refine s_op ?_); (with_reducible refine' s_var ?q358 ?q359); (case q358 => exact rfl); (with_reducible refine s_c ?_); (with_reducible refine s_div ?q360 ?q361); (case q360 => exact ⟨ by decide , by decide ⟩); (with_reducible refine s_c ?_); (with_reducible refine s_mod ?q362 ?q363); (case q362 => omega))
        refine ixS_of s8 (j := (n / 4 % 8).toNat) (by omega) hx ?_
        ((with_reducible refine s_nil ?_); (with_reducible refine' t_newT ?q386 ?q387); (case q386 => simp only [ List.length , sizeLine_eq ]; omega); intro _ _ _ _ _)
        rename_i tz vz ez nz sz
        exact k vz tz x .en x (ew8.trans ez) sz (PartsA.mono ez.st hA) (hT.mono ez.st)
      · ((with_reducible refine s_next ?_); (with_reducible refine s_seq ?_); (with_reducible refine s_ifS ?_); (with_reducible refine s_test ?_); (with_reducible refine s_op ?_); (with_reducible refine s_op ?_); (with_reducible refine' s_var ?q388 ?q389); (case q388 => exact rfl); (with_reducible refine s_c ?_); (with_reducible refine s_mod ?q390 ?q391); (case q390 => omega); (with_reducible refine s_c ?_); (with_reducible refine s_eqI ?_); (with_reducible refine s_bl ?_))
        refine ite_d (fun c2 => ?_) (fun c2 => ?_)
        · ((with_reducible refine s_seq ?_); (with_reducible refine s_asg ?_); (with_reducible refine s_op ?_); (with_reducible refine s_c ?_); (with_reducible refine s_op ?_); (with_reducible refine s_op ?_); (with_reducible refine' s_var ?q392 ?q393); (case q392 => exact rfl); (with_reducible refine s_c ?_); (with_reducible refine s_div ?q394 ?q395); (case q394 => exact ⟨ by decide , by decide ⟩); (with_reducible refine s_c ?_); (with_reducible refine s_mod ?q396 ?q397); (case q396 => omega); (with_reducible refine s_add ?_); (with_reducible refine' s_gname ?q398 ?q399); (case q398 => simp only [ List.set_cons_succ , List.set_cons_zero ]; exact rfl); (with_reducible refine s_ret ?_); (with_reducible refine t_tup ?_); (with_reducible refine s_cons ?_); (with_reducible refine s_op ?_); (with_reducible refine s_op ?_); (with_reducible refine t_lst ?_); (with_reducible refine s_cons ?_); (with_reducible refine' s_var ?q400 ?q401); (case q400 => exact rfl); (with_reducible refine s_cons ?_); (with_reducible refine s_c ?_); (with_reducible refine s_cons ?_); (with_reducible refine' s_var ?q402 ?q403); (case q402 => exact rfl); (with_reducible refine s_nil ?_); (with_reducible refine' t_newLS ?q404 ?q405); (case q404 => simp only [ List.length , sizeLine_eq ]; omega); intro _ _ _ _ _; (with_reducible refine s_c ?_))
          rename_i l4 v4 e4 n4 s4
          refine s_repM (v4.ok _ _ s4) (by decide) (by decide) (by rw [sizeLine_eq]; simp only [List.length_cons, List.length_nil]; decide) fun l5 v5 ys e5 n5 s5 hl5 hq5 => ?_
          simp only [List.length_cons, List.length_nil] at hl5
          ((with_reducible refine s_op ?_); (with_reducible refine t_lst ?_); (with_reducible refine s_cons ?_); (with_reducible refine' s_var ?q406 ?q407); (case q406 => exact rfl); (with_reducible refine s_nil ?_); (with_reducible refine' t_newLS ?q408 ?q409); (case q408 => simp only [ List.length , sizeLine_eq ]; omega); intro _ _ _ _ _; (with_reducible refine s_op ?_); (with_reducible refine' s_var ?q410 ?q411); (case q410 => exact rfl); (with_reducible refine s_c ?_); (with_reducible refine s_sub ?_))
          rename_i l6 v6 e6 n6 s6
          refine s_repM (v6.ok _ _ s6) (by omega) (by omega) (by rw [sizeLine_eq]; simp only [List.length_cons, List.length_nil]; omega) fun l7 v7 zs e7 n7 s7 hl7 hq7 => ?_
          refine s_catS (v7.ok _ _ (e7.st _ _ (e6.st _ _ s5))) (v7.ok _ _ s7) (by rw [sizeLine_eq, hl5, hl7]; simp only [List.length_cons, List.length_nil]; omega) fun l8 v8 e8 n8 s8 => ?_
          ((with_reducible refine s_cons ?_); (with_reducible refine s_c ?_); (with_reducible refine s_cons ?_); (with_reducible refine' s_var ?q412 ?q413); (case q412 => exact rfl); (with_reducible refine s_nil ?_); (with_reducible refine' t_newT ?q414 ?q415); (case q414 => simp only [ List.length , sizeLine_eq ]; omega); intro _ _ _ _ _)
          rename_i tz vz ez nz sz
          have hlen : (ys ++ zs).length = 9 + (n / 4 % 3).toNat := by rw [List.length_append, hl5, hl7]; simp only [List.length_cons, List.length_nil]; omega
          exact k vz tz _ .mn _ ((((((ewj.trans e4).trans e5).trans e6).trans e7).trans e8).trans ez) sz ⟨l8, _, rfl, ez.st _ _ s8, by omega, by omega, by rw [hlen, show 9 + n / 4 % 3 = ((9 + (n / 4 % 3).toNat : Nat) : Int) by omega]⟩ ⟨trivial, _, _, .int _, kit_ty kb_int_bool⟩
        · ((with_reducible refine s_next ?_); (with_reducible refine s_seq ?_); (with_reducible refine s_asg ?_); (with_reducible refine s_op ?_); (with_reducible refine t_lst ?_); (with_reducible refine s_cons ?_); (with_reducible refine s_c ?_); (with_reducible refine s_cons ?_); (with_reducible refine' s_var ?q416 ?q417); (case q416 => exact rfl); (with_reducible refine s_cons ?_); (with_reducible refine s_c ?_); (with_reducible refine s_cons ?_); (with_reducible refine s_c ?_); (with_reducible refine s_cons ?_); (with_reducible refine s_c ?_); (with_reducible refine s_cons ?_); (with_reducible refine t_lst ?_); (with_reducible refine s_cons ?_); (with_reducible refine' s_var ?q418 ?q419); (case q418 => exact rfl); (with_reducible refine s_nil ?_); (with_reducible refine' t_newLS ?q420 ?q421); (case q420 => simp only [ List.length , sizeLine_eq ]; omega); intro _ _ _ _ _; (with_reducible refine s_cons ?_); (with_reducible refine t_tup ?_); (with_reducible refine s_cons ?_); (with_reducible refine' s_var ?q422 ?q423); (case q422 => exact rfl); (with_reducible refine s_nil ?_); (with_reducible refine' t_newT ?q424 ?q425); (case q424 => simp only [ List.length , sizeLine_eq ]; omega); intro _ _ _ _ _; (with_reducible refine s_cons ?_); (with_reducible refine' s_dnewS ?q426); intro _ _ _ _ _; (with_reducible refine s_nil ?_); (with_reducible refine' t_newLS ?q427 ?q428); (case q427 => simp only [ List.length , sizeLine_eq ]; omega); intro _ _ _ _ _; (with_reducible refine s_op ?_); (with_reducible refine s_op ?_); (with_reducible refine' s_var ?q429 ?q430); (case q429 => exact rfl); (with_reducible refine s_c ?_); (with_reducible refine s_div ?q431 ?q432); (case q431 => exact ⟨ by decide , by decide ⟩); (with_reducible refine s_c ?_); (with_reducible refine s_mod ?q433 ?q434); (case q433 => omega))
          rename_i l4 v4 e4 n4 s4 p5 v5 e5 n5 s5 p6 v6 e6 n6 s6 p7 v7 e7 n7 s7
          have ew7 : Ext Non w v7 := ((((ewj.trans e4).trans e5).trans e6).trans e7)
          have s6 := e7.st _ _ s6
          have s5 := e7.st _ _ (e6.st _ _ s5)
          have s4 := e7.st _ _ (e6.st _ _ (e5.st _ _ s4))
          have sj := e7.st _ _ (e6.st _ _ (e5.st _ _ (e4.st _ _ sj)))
          clear e4 e5 e6 e7 n4 n5 n6 n7 ewj hS1
          have hall : ∀ x ∈ [V.non, .ref xj, .str (Str.ofString "a"), .int 7, .bl true, .ref l4, .ref p5, .ref p6], Strg K (EC.mk C_Entry C_Within C_At C_Between C_Read C_Joint C_Sifted kdAll noKp) v7.S x ∧ Thg K v7.S x := by
            have h1 : ∀ {x : V} {A : Ans}, TgA K (EC.mk C_Entry C_Within C_At C_Between C_Read C_Joint C_Sifted kdAll noKp) v7.S x A → (A.e = false ∨ A.j = true) → Strg K (EC.mk C_Entry C_Within C_At C_Between C_Read C_Joint C_Sifted kdAll noKp) v7.S x ∧ Thg K v7.S x := fun h hA => ⟨h.strg hA, h.thg⟩
            refine all_cons (h1 (tg_none kt) (.inl rfl)) <| all_cons (h1 (tg_ins (k := .joint) kt ek trivial trivial sj) (.inr rfl)) <| all_cons (h1 (tg_str kt) (.inl rfl)) <| all_cons (h1 (tg_int kt) (.inl rfl)) <| all_cons (h1 (tg_bl kt) (.inl rfl)) <| all_cons (h1 (tg_lst kt s4) (.inl rfl)) <| all_cons (h1 (tg_tup kt s5) (.inl rfl)) <| all_cons (h1 (tg_dct kt s6) (.inl rfl)) all_nil
          obtain ⟨x, hx⟩ : ∃ x, [V.non, .ref xj, .str (Str.ofString "a"), .int 7, .bl true, .ref l4, .ref p5, .ref p6][(n / 4 % 8).toNat]? = some x := ⟨_, List.getElem?_eq_getElem (by simp only [List.length_cons, List.length_nil]; omega)⟩
          obtain ⟨hA, hT⟩ := hall x (List.mem_of_getElem? hx)
          refine ixS_of s7 (j := (n / 4 % 8).toNat) (by omega) hx ?_
          have sp7 := ew7.st _ _ sp
          have hP7 := PartsA.mono ew7.st hP
          clear hall s4 s5 s6 s7 sj sxo sp hP hx
          ((with_reducible refine' s_gname ?q485 ?q486); (case q485 => simp only [ List.set_cons_succ , List.set_cons_zero ]; exact rfl); (with_reducible refine s_seq ?_); (with_reducible refine s_asg ?_); (with_reducible refine s_sl ?_); (with_reducible refine s_CB ?_); (with_reducible refine s_cons ?_); (with_reducible refine s_op ?_); (with_reducible refine' s_var ?q487 ?q488); (case q487 => exact rfl); (with_reducible refine' s_var ?q489 ?q490); (case q489 => exact rfl))
          refine ixS_of sp7 rfl hy ?_
          obtain ⟨q, us, qs, rfl, sq, ra, hok, h0, h8⟩ := hP7
          have hul := ra.len
          ((with_reducible refine s_nil ?_); (with_reducible refine' s_listS ?q518 ?q519); (case q518 => refine' Or.inl ?q520; (case q520 => refine' SqL.of ( Wd.ok _ _ _ ?q521 ); (case q521 => assumption))); intro _ _ _ _ _; (with_reducible refine s_nopart ?_); (with_reducible refine s_part ?_); (with_reducible refine s_c ?_); (with_reducible refine s_int ?_); (with_reducible refine' s_slS ?q522 ?q523); (case q522 => refine' SqL.of ( Wd.ok _ _ _ ?q524 ); (case q524 => assumption)); intro _ _ _ _ _; (with_reducible refine' s_gname ?q525 ?q526); (case q525 => simp only [ List.set_cons_succ , List.set_cons_zero ]; exact rfl); (with_reducible refine s_seq ?_); (with_reducible refine s_asg ?_); (with_reducible refine s_op ?_); (with_reducible refine s_op ?_); (with_reducible refine' s_var ?q527 ?q528); (case q527 => exact rfl); (with_reducible refine s_c ?_); (with_reducible refine s_div ?q529 ?q530); (case q529 => exact ⟨ by decide , by decide ⟩); (with_reducible refine s_op ?_); (with_reducible refine s_CB ?_); (with_reducible refine s_cons ?_); (with_reducible refine' s_var ?q531 ?q532); (case q531 => exact rfl); (with_reducible refine s_nil ?_); (with_reducible refine' s_lenL ?q538 ?q539); (case q538 => assumption); (with_reducible refine s_c ?_); (with_reducible refine s_add ?_); (with_reducible refine s_mod ?q540 ?q541); (case q540 => omega); (with_reducible refine' s_gname ?q542 ?q543); (case q542 => simp only [ List.set_cons_succ , List.set_cons_zero ]; exact rfl); (with_reducible refine s_ret ?_); (with_reducible refine t_tup ?_); (with_reducible refine s_cons ?_); (with_reducible refine s_op ?_); (with_reducible refine s_op ?_); (with_reducible refine s_sl ?_); (with_reducible refine' s_var ?q544 ?q545); (case q544 => exact rfl); (with_reducible refine s_nopart ?_); (with_reducible refine s_part ?_); (with_reducible refine' s_var ?q546 ?q547); (case q546 => exact rfl); (with_reducible refine s_int ?_); (with_reducible refine' s_slS ?q548 ?q549); (case q548 => refine' SqL.of ( Wd.ok _ _ _ ?q550 ); (case q550 => assumption)); intro _ _ _ _ _; (with_reducible refine t_lst ?_); (with_reducible refine s_cons ?_); (with_reducible refine' s_var ?q551 ?q552); (case q551 => exact rfl); (with_reducible refine s_nil ?_); (with_reducible refine' t_newLS ?q553 ?q554); (case q553 => simp only [ List.length , sizeLine_eq ]; omega); intro _ _ _ _ _; (with_reducible refine' s_catS ?q555 ?q556 ?q557 ?q558); (case q555 => refine' Wd.ok _ _ _ ?q559; (case q559 => refine' st_go ( by assumption ) ?q560; (case q560 => assumption))); (case q556 => refine' Wd.ok _ _ _ ?q561; (case q561 => assumption)); (case q557 => refine' z_cat ?q562 ?q563 ?q564; (case q562 => refine' len_cut ?q565; (case q565 => refine' len_cut ?q566; (case q566 => exact Nat.le_refl _))); (case q563 => exact Nat.le_refl _); (case q564 => simp only [ List.length_append , List.length_cons , List.length_nil , List.length_map , List.length_reverse , sizeLine_eq ]; omega)); intro _ _ _ _ _; (with_reducible refine s_sl ?_); (with_reducible refine' s_var ?q567 ?q568); (case q567 => exact rfl); (with_reducible refine s_part ?_); (with_reducible refine' s_var ?q569 ?q570); (case q569 => exact rfl); (with_reducible refine s_int ?_); (with_reducible refine s_nopart ?_); (with_reducible refine' s_slS ?q571 ?q572); (case q571 => refine' SqL.of ( Wd.ok _ _ _ ?q573 ); (case q573 => refine' st_go ( by assumption ) ?q574; (case q574 => refine' st_go ( by assumption ) ?q575; (case q575 => refine' st_go ( by assumption ) ?q576; (case q576 => assumption))))); intro _ _ _ _ _; (with_reducible refine' s_catS ?q577 ?q578 ?q579 ?q580); (case q577 => refine' Wd.ok _ _ _ ?q581; (case q581 => refine' st_go ( by assumption ) ?q582; (case q582 => assumption))); (case q578 => refine' Wd.ok _ _ _ ?q583; (case q583 => assumption)); (case q579 => refine' z_cat ?q584 ?q585 ?q586; (case q584 => refine' len_app ?q587 ?q588; (case q587 => refine' len_cut ?q589; (case q589 => refine' len_cut ?q590; (case q590 => exact Nat.le_refl _))); (case q588 => exact Nat.le_refl _)); (case q585 => refine' len_cut ?q591; (case q591 => refine' len_cut ?q592; (case q592 => exact Nat.le_refl _))); (case q586 => simp only [ List.length_append , List.length_cons , List.length_nil , List.length_map , List.length_reverse , sizeLine_eq ]; omega)); intro _ _ _ _ _; (with_reducible refine s_cons ?_); (with_reducible refine s_c ?_); (with_reducible refine s_cons ?_); (with_reducible refine' s_var ?q593 ?q594); (case q593 => exact rfl); (with_reducible refine s_nil ?_); (with_reducible refine' t_newT ?q595 ?q596); (case q595 => simp only [ List.length , sizeLine_eq ]; omega); intro _ _ _ _ _)
          rename_i l8 v8 e8 n8 s8 l9 v9 e9 n9 s9 la va ea na sa lb vb eb nb sb lc vc ec nc sc ld vd ed nd sd le ve ee ne se tz vz ez nz sz
          have g7 : Same v7.S vz.S := fun a o z => ez.st a o (ee.st a o (ed.st a o (ec.st a o (eb.st a o (ea.st a o (e9.st a o (e8.st a o z)))))))
          have ewz : Ext Non w vz := ((((((((ew7.trans e8).trans e9).trans ea).trans eb).trans ec).trans ed).trans ee).trans ez)
          have se := ez.st _ _ se
          rw [cut_to (xs := us) (show (0 : Int) ≤ 7 by decide)] at se
          have hP7l : (us.take (7 : Int).toNat).length ≤ 7 := by rw [List.length_take]; omega
          have hP7m : ∀ y ∈ us.take (7 : Int).toNat, Frnd K (EC.mk C_Entry C_Within C_At C_Between C_Read C_Joint C_Sifted kdAll noKp) vz.S y := fun y hy => by
            obtain ⟨b, hb, hS⟩ := ra.mem (List.mem_of_mem_take hy)
            exact (frnd_prt trivial hS (hok b hb)).mono g7
          generalize us.take (7 : Int).toNat = P7 at se hP7l hP7m
          obtain ⟨pl, hpl, hle⟩ : ∃ pl : Nat, n / 32 % ((P7.length : Int) + 1) = (pl : Int) ∧ pl ≤ P7.length := by
            have h1 := Int.emod_nonneg (n / 32) (show ((P7.length : Int) + 1) ≠ 0 by omega)
            have h2 := Int.emod_lt_of_pos (n / 32) (show (0 : Int) < (P7.length : Int) + 1 by omega)
            exact ⟨(n / 32 % ((P7.length : Int) + 1)).toNat, by omega, by omega⟩
          rw [hpl, cut_to (by omega), cut_from (by omega), Int.toNat_natCast] at se
          have hA := hA.mono g7
          have hT := hT.mono g7
          have hl1 : (P7.take pl).length = pl := by rw [List.length_take]; omega
          have hlen : (P7.take pl ++ [x] ++ P7.drop pl).length = P7.length + 1 := by simp only [List.length_append, List.length_take, List.length_drop, List.length_cons, List.length_nil]; omega
          refine k vz tz _ .en x ewz sz (.inr ⟨le, _, pl, rfl, se, by omega, by omega, fun j y hj hy => ?_, ?_, hA⟩) hT
          · rw [List.append_assoc, List.getElem?_append_left (by omega)] at hy
            exact hP7m y (List.mem_of_mem_take (List.mem_of_getElem? hy))
          · rw [List.append_assoc, List.getElem?_append_right (by omega), hl1]
            simp
theorem fst_none : ∀ {α : Type} (ss : List α), fst (ss.map fun _ => none) = none
  | _, [] => rfl
  | _, _ :: r => fst_none r
theorem fst_at {x : Wrd × V} : ∀ {os : List Out} {a : Nat}, (∀ i, i < a → os[i]? = some none) → os[a]? = some (some x) → fst os = some x
  | [], _, _, h => by simp at h
  | o :: r, 0, _, h => by
    simp at h
    rw [h]
    rfl
  | o :: r, a + 1, h1, h => by
    have h0 := h1 0 (by omega)
    simp at h0
    rw [h0]
    show fst r = some x
    exact fst_at (os := r) (a := a) (fun i hi => by simpa using h1 (i + 1) (by omega)) (by simpa using h)
theorem Args.len {K : PySem.W.Frag} {ec : EC} {S : Hp} : ∀ {ss : List Srt} {vs : List V} {os : List Out}, Args K ec S ss vs os → vs.length = ss.length ∧ os.length = ss.length
  | _, _, _, .nil => ⟨rfl, rfl⟩
  | _, _, _, .cons _ b => by simp [b.len.1, b.len.2]
theorem Args.get {K : PySem.W.Frag} {ec : EC} {S : Hp} : ∀ {ss : List Srt} {vs : List V} {os : List Out} {i : Nat} {s : Srt}, Args K ec S ss vs os → ss[i]? = some s → ∃ v o, vs[i]? = some v ∧ os[i]? = some o ∧ ArgA K ec S s v o
  | _, _, _, _, _, .nil, h => by simp at h
  | _, _, _, 0, _, .cons a b, h => by
    simp at h
    subst h
    exact ⟨_, _, rfl, rfl, a⟩
  | _, _, _, i + 1, _, .cons a b, h => by
    obtain ⟨v, o, h1, h2, h3⟩ := b.get (i := i) (by simpa using h)
    exact ⟨v, o, by simpa using h1, by simpa using h2, h3⟩
theorem Args.set {K : PySem.W.Frag} {ec : EC} {S : Hp} : ∀ {ss : List Srt} {vs : List V} {os : List Out} (i : Nat) {s : Srt} {v : V} {o : Out}, Args K ec S ss vs os → ss[i]? = some s → ArgA K ec S s v o → Args K ec S ss (vs.set i v) (os.set i o)
  | _, _, _, _, _, _, _, .nil, h, _ => by simp at h
  | _, _, _, 0, _, _, _, .cons a b, h, k => by
    simp at h
    subst h
    exact .cons k b
  | _, _, _, i + 1, _, _, _, .cons a b, h, k => .cons a (b.set i (by simpa using h) k)
theorem srts_len : ∀ k : Kd, 0 < (srts k).length ∧ (srts k).length ≤ 4 := by intro k; cases k <;> decide
theorem nones_get {α : Type} {ss : List α} {i : Nat} {o : Out} (h : (ss.map fun _ => (none : Out))[i]? = some o) : o = none := by
  rw [List.getElem?_map] at h
  obtain ⟨_, _, e⟩ := Option.map_eq_some_iff.mp h
  exact e.symm
local macro_rules | `(tactic| wtm_at "go1") => `(tactic| first
  | with_reducible refine s_iRng2 ?_
  | fail "go1r2")
abbrev nm_l_kind_right : List Str := ["_law_kind", "_law_state", "_law_args", "_law_sorts_here", "_law_at", "_law_sort", "_law_turn", "_law_bad", "_law_due", "_law_later", "_law_thing", "_law_word", "_law_field"]
theorem sc_l_kind_right : FnScope nm_l_kind_right ["_law_kind", "_law_state"] (defScope s_l_kind_right) := ⟨rfl, rfl, rfl, by decide +kernel, rfl, by decide +kernel, by decide +kernel⟩
theorem st_l_kind_right (a b : V) : start nm_l_kind_right [a, b] = [some a, some b, none, none, none, none, none, none, none, none, none, none, none] := rfl
def p_l_kind_right (K : PySem.W.Frag) (ec : EC) (N M R G T : Addr) (w : Wd) (a b : V) (Q : VK) (_ : XK) : Prop := ∃ k p, a = .str (wordK k) ∧ b = .ref p ∧ Stt w p ∧ EK K ec ∧ ∀ v, Ext (One p) w v → Stt v p → Q (.bl true) v.H
theorem ok_l_kind_right {f : Addr} {fd : FuncData} {C_Entry C_Within C_At C_Between C_Read C_Joint C_Sifted C_LogError C_NoBond C_NoEntry C_NoMinutes C_NoMoment C_NoName C_NoPlace C_NoReading C_Taken C_TooMany : Addr} (F : Fun K "_law_kind_right" "_law_kind_right" s_l_kind_right f fd) (T : Txt K mg C_Entry C_Within C_At C_Between C_Read C_Joint C_Sifted C_LogError C_NoBond C_NoEntry C_NoMinutes C_NoMoment C_NoName C_NoPlace C_NoReading C_Taken C_TooMany) (c_l_good : Fnc P ww K mg base CX0 7 "_law_good" (pr2 (p_l_good K (EC.mk C_Entry C_Within C_At C_Between C_Read C_Joint C_Sifted kdAll noKp)))) (c_l_is : Fnc P ww K mg base CX0 1 "_law_is" (pr3 (p_l_is K))) (c_l_pull : Fnc P ww K mg base CX0 2 "_law_pull" (pr2 (p_l_pull))) (c_l_refusal : Fnc P ww K mg base CX0 8 "_law_refusal" (pr2 (p_l_refusal K (EC.mk C_Entry C_Within C_At C_Between C_Read C_Joint C_Sifted kdAll noKp) C_NoName C_NoMoment C_NoReading C_NoEntry C_TooMany))) (c_l_sorts : Fnc P ww K mg base CX0 1 "_law_sorts" (pr1 (p_l_sorts))) (c_l_spoilt : Fnc P ww K mg base CX0 7 "_law_spoilt" (pr4 (p_l_spoilt K (EC.mk C_Entry C_Within C_At C_Between C_Read C_Joint C_Sifted kdAll noKp)))) : FnOk P ww K mg base CX0 9 f fd ["_law_kind", "_law_state"] (pr2 (p_l_kind_right K (EC.mk C_Entry C_Within C_At C_Between C_Read C_Joint C_Sifted kdAll noKp) C_NoName C_NoMoment C_NoReading C_NoEntry C_TooMany)) := by
  refine F.ok sc_l_kind_right (fun vs H Q E h => len2 h) (fun cdv A outer s H vs Q E hr h => ?_)
  obtain ⟨w, x0, x1,  rfl, rfl, h⟩ := h
  have ekT := ek_T (P := P) (ww := ww) (base := base) T
  have oex_NoBond := T.oex_NoBond; have xf_NoBond := T.xf_NoBond; have ec_NoBond := T.ec_NoBond; have xn_NoBond := T.xn_NoBond
  have oex_NoEntry := T.oex_NoEntry; have xf_NoEntry := T.xf_NoEntry; have ec_NoEntry := T.ec_NoEntry; have xn_NoEntry := T.xn_NoEntry
  have oex_NoMinutes := T.oex_NoMinutes; have xf_NoMinutes := T.xf_NoMinutes; have ec_NoMinutes := T.ec_NoMinutes; have xn_NoMinutes := T.xn_NoMinutes
  have oex_NoMoment := T.oex_NoMoment; have xf_NoMoment := T.xf_NoMoment; have ec_NoMoment := T.ec_NoMoment; have xn_NoMoment := T.xn_NoMoment
  have oex_NoName := T.oex_NoName; have xf_NoName := T.xf_NoName; have ec_NoName := T.ec_NoName; have xn_NoName := T.xn_NoName
  have oex_NoPlace := T.oex_NoPlace; have xf_NoPlace := T.xf_NoPlace; have ec_NoPlace := T.ec_NoPlace; have xn_NoPlace := T.xn_NoPlace
  have oex_NoReading := T.oex_NoReading; have xf_NoReading := T.xf_NoReading; have ec_NoReading := T.ec_NoReading; have xn_NoReading := T.xn_NoReading
  have oex_Taken := T.oex_Taken; have xf_Taken := T.xf_Taken; have ec_Taken := T.ec_Taken; have xn_Taken := T.xn_Taken
  have oex_TooMany := T.oex_TooMany; have xf_TooMany := T.xf_TooMany; have ec_TooMany := T.ec_TooMany; have xn_TooMany := T.xn_TooMany
  refine ⟨_, (pss_cons (ps_set (i := 2) sc_l_kind_right.nd rfl (Or.inl rfl) (pe_fn c_l_good hr (by decide) pass0 (pa_cons (pv 0) (pa_cons (pv 1) pa_nil))))
      (pss_cons (ps_set (i := 3) sc_l_kind_right.nd rfl (Or.inl rfl) (pe_fn c_l_sorts hr (by decide) pass0 (pa_cons (pv 0) pa_nil)))
      (pss_cons (ps_if (pt_cmpR g_isnot (pe_fn c_l_refusal hr (by decide) pass0 (pa_cons (pv 0) (pa_cons (pv 2) pa_nil))) pe_non (nomark _)) (pss_one (ps_ret pe_bl)) pss_nil)
      (pss_cons (ps_for PassesOwn.never rfl (kpEnum K (by rfl) T.n_enumerate (pa_cons (pv 3) pa_nil)) (kgTup K (by rfl) (pgs_cons (pg_name (i := 4) sc_l_kind_right.nd rfl (Or.inl rfl)) (pgs_cons (pg_name (i := 5) sc_l_kind_right.nd rfl (Or.inl rfl)) pgs_nil))) (pss_one (ps_for PassesOwn.never rfl (pi_range1 rfl T.n_range (pa_cons pe_int pa_nil)) (pg_name (i := 6) sc_l_kind_right.nd rfl (Or.inl rfl)) (pss_cons (ps_set (i := 7) sc_l_kind_right.nd rfl (Or.inl rfl) (pe_callTy (kList K) (by rfl) T.n_list (by decide +kernel) (pa_cons (pv 2) pa_nil)))
      (pss_cons (ps_set (i := 8) sc_l_kind_right.nd rfl (Or.inl rfl) pe_non)
      (pss_cons (ps_for PassesOwn.never rfl (pi_range2 rfl T.n_range (pa_cons (pv 4) (pa_cons (pe_callB (kLen K) (by rfl) T.n_len (by decide +kernel) (pa_cons (pv 3) pa_nil)) pa_nil))) (pg_name (i := 9) sc_l_kind_right.nd rfl (Or.inl rfl)) (pss_one (ps_if (PW.pt (pw_or (pt_cmpR (kEq K hr.units) (pv 9) (pv 4) (nomark _)) (pw_or1 (PW.pt (pw_and (pt_cmpR g_gt (pv 6) pe_int (nomark _)) (pw_and1 (pt_cmpR (kEq K hr.units) (pe_fn c_l_pull hr (by decide) pass0 (pa_cons (pv 1) (pa_cons pe_int pa_nil))) pe_int (nomark _)))))))) (pss_cons (ps_asg (pe_fn c_l_spoilt hr (by decide) pass0 (pa_cons (pe_ix (kIx K) (pv 3) (pv 9) (fun _ _ => rfl)) (pa_cons (pv 2) (pa_cons (pv 9) (pa_cons (pe_fn c_l_pull hr (by decide) pass0 (pa_cons (pv 1) (pa_cons (pe_op g_pow pe_int pe_int) pa_nil))) pa_nil))))) (kgTup K (by rfl) (pgs_cons (pg_name (i := 10) sc_l_kind_right.nd rfl (Or.inl rfl)) (pgs_cons (pg_name (i := 11) sc_l_kind_right.nd rfl (Or.inl rfl)) (pgs_cons (pg_name (i := 12) sc_l_kind_right.nd rfl (Or.inl rfl)) pgs_nil)))))
      (pss_cons (ps_asg (pv 10) (pg_sub (pv 7) (pv 9) set_list))
      (pss_one (ps_if (pt_cmpR (kEq K hr.units) (pv 9) (pv 4) (nomark _)) (pss_one (ps_set (i := 8) sc_l_kind_right.nd rfl (Or.inl rfl) (pe_tup (pa_cons (pv 11) (pa_cons (pv 12) pa_nil))))) pss_nil)))) pss_nil)))
      (pss_one (ps_if (pt_not (pt_val (pe_fn c_l_is hr (by decide) pass0 (pa_cons (pe_fn c_l_refusal hr (by decide) pass0 (pa_cons (pv 0) (pa_cons (pv 7) pa_nil))) (pa_cons (pe_ix (kIx K) (pv 8) pe_int (fun _ _ => rfl)) (pa_cons (pe_ix (kIx K) (pv 8) pe_int (fun _ _ => rfl)) pa_nil)))))) (pss_one (ps_ret pe_bl)) pss_nil))))))))
      (pss_one (ps_ret (pe_cmpR g_is (pe_fn c_l_refusal hr (by decide) pass0 (pa_cons (pv 0) (pa_cons (pv 2) pa_nil))) pe_non (nomark _)))))))), ?_⟩
  rw [st_l_kind_right]
  obtain ⟨k, p, rfl, rfl, pu, ek, kk⟩ := h
  ((with_reducible refine s_seq ?_); (with_reducible refine s_asg ?_); (with_reducible refine s_call ?_); (with_reducible refine s_cons ?_); (with_reducible refine' s_var ?q0 ?q1); (case q0 => exact rfl); (with_reducible refine s_cons ?_); (with_reducible refine' s_var ?q2 ?q3); (case q2 => exact rfl); (with_reducible refine s_nil ?_); (with_reducible refine s_pr2 ?_))
  refine ⟨k, p, rfl, rfl, pu, ek, fun v1 r1 vs e1 pu1 s1 ha => ?_⟩
  ((with_reducible refine' s_gname ?q4 ?q5); (case q4 => simp only [ List.set_cons_succ , List.set_cons_zero ]; exact rfl); (with_reducible refine s_seq ?_); (with_reducible refine s_asg ?_); (with_reducible refine s_call ?_); (with_reducible refine s_cons ?_); (with_reducible refine' s_var ?q6 ?q7); (case q6 => exact rfl); (with_reducible refine s_nil ?_); (with_reducible refine s_pr1 ?_))
  refine ⟨k, rfl, fun v2 r2 e2 s2 => ?_⟩
  ((with_reducible refine' s_gname ?q8 ?q9); (case q8 => simp only [ List.set_cons_succ , List.set_cons_zero ]; exact rfl); (with_reducible refine s_seq ?_); (with_reducible refine s_ifS ?_); (with_reducible refine s_test ?_); (with_reducible refine s_op ?_); (with_reducible refine s_call ?_); (with_reducible refine s_cons ?_); (with_reducible refine' s_var ?q10 ?q11); (case q10 => exact rfl); (with_reducible refine s_cons ?_); (with_reducible refine' s_var ?q12 ?q13); (case q12 => exact rfl); (with_reducible refine s_nil ?_); (with_reducible refine s_pr2 ?_))
  refine ⟨k, r1, vs, _, rfl, rfl, .inl (st_go e2 s1), ek, Args.mono e2.st ha, fun _ v3 e3 => ?_, fun wd y h => by rw [fst_none] at h; cases h⟩
  have s1 := st_go e3 (st_go e2 s1)
  have s2 := st_go e3 s2
  have ha := Args.mono e3.st (Args.mono e2.st ha)
  have pu3 : Stt v3 p := (pu1.go e2 fun z => z).go e3 fun z => z
  have ew3 : Ext (One p) w v3 := e1.trans ((e2.trans e3).more fun _ z => z.elim)
  obtain ⟨hl0, hl4⟩ := srts_len k
  obtain ⟨hvl, _⟩ := ha.len
  clear e1 e2 e3 pu pu1
  ((with_reducible refine s_c ?_); (with_reducible refine s_notNN ?_); (with_reducible refine s_bl ?_); (with_reducible refine ite_ff ?_); (with_reducible refine s_next ?_); (with_reducible refine s_seq ?_); (with_reducible refine s_for ?_); (with_reducible refine s_iEnum ?_); (with_reducible refine s_cons ?_); (with_reducible refine' s_var ?q17 ?q18); (case q17 => exact rfl); (with_reducible refine s_nil ?_))
  refine ⟨r2, _, rfl, sql_of s2, ?_⟩
  refine forW (ww_enum (xs := (srts k).map fun s => V.str s.z)) (fun i σ u => Ext (One p) v3 u ∧ Stt u p ∧ ∃ g4 g5 g6 g7 g8 g9 g10 g11 g12, σ = [some (.str (wordK k)), some (.ref p), some (.ref r1), some (.ref r2), g4, g5, g6, g7, g8, g9, g10, g11, g12]) ⟨Ext.refl _ _, pu3, _, _, _, _, _, _, _, _, _, rfl⟩ (fun i σ u _ hh => sql_of (st_go hh.1 s2)) ?_ ?_
  · rintro a x σ u v hi ⟨eu, puu, g4, g5, g6, g7, g8, g9, g10, g11, g12, rfl⟩ ⟨T, x1, rfl, ev, hT, sT, hx⟩
    rw [List.getElem?_map] at hx
    obtain ⟨sa, hsa, rfl⟩ := Option.map_eq_some_iff.mp hx
    rw [List.length_map] at hi
    have puv : Stt v p := puu.go ev fun z => z
    have euv : Ext (One p) v3 v := eu.trans (ev.more fun _ z => z.elim)
    have s1v := st_go euv s1
    have s2v := st_go euv s2
    have hav := Args.mono euv.st ha
    ((with_reducible refine' s_gtup ?q19 ?q20 ?q21); (case q19 => assumption); (case q20 => exact rfl); (with_reducible refine s_gcons ?_); (with_reducible refine' s_gname ?q22 ?q23); (case q22 => simp only [ List.set_cons_succ , List.set_cons_zero ]; exact rfl); (with_reducible refine s_gcons ?_); (with_reducible refine' s_gname ?q24 ?q25); (case q24 => simp only [ List.set_cons_succ , List.set_cons_zero ]; exact rfl); (with_reducible refine s_gnil ?_); (with_reducible refine s_for ?_); (with_reducible refine s_iRng1 ?_); (with_reducible refine s_cons ?_); (with_reducible refine s_c ?_); (with_reducible refine s_nil ?_); refine' ⟨ _ , rfl , ?q26 , ?q27 , ?q28 ⟩; (case q26 => show ( - ( 2 ^ 62 ) : Int ) ≤ _; omega); (case q27 => show _ < ( 2 ^ 62 : Int ); omega))
    refine forW (ww_range (lo := 0) (m := 3)) (fun j σ u => Ext (One p) v u ∧ Stt u p ∧ ∃ g6 g7 g8 g9 g10 g11 g12, σ = [some (.str (wordK k)), some (.ref p), some (.ref r1), some (.ref r2), some (.int (a : Int)), some (.str sa.z), g6, g7, g8, g9, g10, g11, g12]) ⟨Ext.refl _ _, puv, _, _, _, _, _, _, _, rfl⟩ (fun _ _ _ _ _ => trivial) ?_ ?_
    · rintro tn x σ _ u2 hj ⟨eu2, pu2, g6, g7, g8, g9, g10, g11, g12, rfl⟩ ⟨rfl, rfl⟩
      ((with_reducible refine' s_gname ?q29 ?q30); (case q29 => simp only [ List.set_cons_succ , List.set_cons_zero ]; exact rfl); (with_reducible refine s_seq ?_); (with_reducible refine s_asg ?_); (with_reducible refine s_CB ?_); (with_reducible refine s_cons ?_); (with_reducible refine' s_var ?q31 ?q32); (case q31 => exact rfl); (with_reducible refine s_nil ?_))
      have s1w := st_go eu2 s1v
      have s2w := st_go eu2 s2v
      have haw := Args.mono eu2.st hav
      refine s_listO (.inl (sql_of s1w)) fun D v4 e4 n4 o4 => ?_
      have hDp : D ≠ p := stt_new n4 pu2
      have pu4 : Stt v4 p := pu2.go e4 fun z => z
      have s1x := st_go e4 s1w
      have s2x := st_go e4 s2w
      have hax := Args.mono e4.st haw
      have ev4 : Ext (One p) v v4 := eu2.trans (e4.more fun _ z => z.elim)
      have nvD : v.H D = none := eu2.back n4
      clear e4 s1w s2w haw eu2 pu2 n4
      ((with_reducible refine' s_gname ?q33 ?q34); (case q33 => simp only [ List.set_cons_succ , List.set_cons_zero ]; exact rfl); (with_reducible refine s_seq ?_); (with_reducible refine s_asg ?_); (with_reducible refine s_c ?_); (with_reducible refine' s_gname ?q35 ?q36); (case q35 => simp only [ List.set_cons_succ , List.set_cons_zero ]; exact rfl); (with_reducible refine s_seq ?_); (with_reducible refine s_for ?_); (with_reducible refine s_iRng2 ?_); (with_reducible refine s_cons ?_); (with_reducible refine' s_var ?q37 ?q38); (case q37 => exact rfl); (with_reducible refine s_cons ?_); (with_reducible refine s_CB ?_); (with_reducible refine s_cons ?_); (with_reducible refine' s_var ?q39 ?q40); (case q39 => exact rfl); (with_reducible refine s_nil ?_); (with_reducible refine' s_lenL ?q46 ?q47); (case q46 => assumption); (with_reducible refine s_nil ?_))
      refine ⟨_, _, rfl, ⟨by omega, by omega, by omega, by simp only [List.length_map]; omega⟩, ?_⟩
      rw [List.length_map]
      refine forW (ww_range (lo := (a : Int)) (m := (((srts k).length : Int) - (a : Int)).toNat)) (fun j σ u => Ext (Two p D) v4 u ∧ Stt u p ∧ ∃ bs os due g9 g10 g11 g12, σ = [some (.str (wordK k)), some (.ref p), some (.ref r1), some (.ref r2), some (.int (a : Int)), some (.str sa.z), some (.int (0 + (tn : Int))), some (.ref D), some due, g9, g10, g11, g12] ∧ Own u D (.lst bs) ∧ Args K (EC.mk C_Entry C_Within C_At C_Between C_Read C_Joint C_Sifted kdAll noKp) u.S (srts k) bs os ∧ (∀ i, i < a → os[i]? = some none) ∧ (0 < j → ∃ t wd f, due = .ref t ∧ u.S t = some (.tup [.str (Wrd.z wd), f]) ∧ os[a]? = some (some (wd, f)) ∧ Thg K u.S f)) ⟨Ext.refl _ _, pu4, vs, _, .non, _, _, _, _, rfl, o4, hax, fun i hia => ?_, fun h => absurd h (by decide)⟩ (fun _ _ _ _ _ => trivial) ?_ ?_
      · rw [List.getElem?_map, List.getElem?_eq_getElem (by omega)]
        rfl
      · rintro j x σ _ u5 hj2 ⟨eu5, pu5, bs, os, due, g9, g10, g11, g12, rfl, oD, hab, hpre, hdue⟩ ⟨rfl, rfl⟩
        have hjl : a + j < (srts k).length := by omega
        have s1y := st_go eu5 s1x
        have s2y := st_go eu5 s2x
        have hay := Args.mono eu5.st hax
        obtain ⟨hbl, hol⟩ := hab.len
        ((with_reducible refine' s_gname ?q48 ?q49); (case q48 => simp only [ List.set_cons_succ , List.set_cons_zero ]; exact rfl); (with_reducible refine s_ifS ?_); (with_reducible refine s_or ?_); (with_reducible refine s_test ?_); (with_reducible refine s_op ?_); (with_reducible refine' s_var ?q50 ?q51); (case q50 => exact rfl); (with_reducible refine' s_var ?q52 ?q53); (case q52 => exact rfl); (with_reducible refine s_eqI ?_); (with_reducible refine s_bl ?_))
        refine ite_d (fun c => ?_) (fun c => ?_)
        · ((with_reducible refine ite_tt ?_); (with_reducible refine s_seq ?_); (with_reducible refine s_asg ?_); (with_reducible refine s_call ?_); (with_reducible refine s_cons ?_); (with_reducible refine s_op ?_); (with_reducible refine' s_var ?q57 ?q58); (case q57 => exact rfl); (with_reducible refine' s_var ?q59 ?q60); (case q59 => exact rfl))
          obtain ⟨sj, hsj⟩ : ∃ sj, (srts k)[a + j]? = some sj := ⟨_, List.getElem?_eq_getElem hjl⟩
          refine ixS_of s2y (j := a + j) (by omega) (show ((srts k).map fun s => V.str s.z)[a + j]? = some (.str sj.z) by rw [List.getElem?_map, hsj]; rfl) ?_
          wtm_at "go"
          rename_i v7 d7 e7 pu7 h70 h71
          have s1z := st_go e7 s1y
          have haz := Args.mono e7.st hay
          have oD7 := oD.ext e7 hDp
          have hab7 := Args.mono e7.st hab
          refine ⟨sj, d7, rfl, rfl, h70, by omega, ek, fun hs => ?_, fun v8 t8 x8 wd8 f8 e8 st8 hA8 hT8 => ?_⟩
          · obtain ⟨v', o', hv, ho, hA⟩ := haz.get hsj
            rw [hs] at hA
            rw [nones_get ho] at hA
            exact ⟨r1, vs, a + j, v', rfl, s1z, by push_cast; rfl, hv, hA⟩
          have oD8 := oD7.ext e8 fun z => z
          have hab8 := Args.mono e8.st hab7
          have pu8 : Stt v8 p := pu7.go e8 fun z => z
          ((with_reducible refine' s_gtup ?q144 ?q145 ?q146); (case q144 => assumption); (case q145 => exact rfl); (with_reducible refine s_gcons ?_); (with_reducible refine' s_gname ?q147 ?q148); (case q147 => simp only [ List.set_cons_succ , List.set_cons_zero ]; exact rfl); (with_reducible refine s_gcons ?_); (with_reducible refine' s_gname ?q149 ?q150); (case q149 => simp only [ List.set_cons_succ , List.set_cons_zero ]; exact rfl); (with_reducible refine s_gcons ?_); (with_reducible refine' s_gname ?q151 ?q152); (case q151 => simp only [ List.set_cons_succ , List.set_cons_zero ]; exact rfl); (with_reducible refine s_gnil ?_); (with_reducible refine s_seq ?_); (with_reducible refine s_asg ?_); (with_reducible refine' s_var ?q153 ?q154); (case q153 => exact rfl); (with_reducible refine s_gsub ?_); (with_reducible refine' s_var ?q155 ?q156); (case q155 => exact rfl); (with_reducible refine' s_var ?q157 ?q158); (case q157 => exact rfl))
          refine s_setL (m := a + j) oD8 (by rw [ixN_nn (by omega) (by omega)]; congr 1) fun u9 e9 o9 => ?_
          have pu9 : Stt u9 p := pu8.go e9 fun z => hDp z.symm
          have hab9 := (Args.mono e9.st hab8).set (a + j) hsj (ArgA.mono e9.st hA8)
          have hT9 := hT8.mono e9.st
          ((with_reducible refine s_ifS ?_); (with_reducible refine s_test ?_); (with_reducible refine s_op ?_); (with_reducible refine' s_var ?q162 ?q163); (case q162 => exact rfl); (with_reducible refine' s_var ?q164 ?q165); (case q164 => exact rfl); (with_reducible refine s_eqI ?_); (with_reducible refine s_bl ?_))
          refine ite_d (fun c2 => ?_) (fun c2 => absurd c c2)
          ((with_reducible refine s_asg ?_); (with_reducible refine t_tup ?_); (with_reducible refine s_cons ?_); (with_reducible refine' s_var ?q166 ?q167); (case q166 => exact rfl); (with_reducible refine s_cons ?_); (with_reducible refine' s_var ?q168 ?q169); (case q168 => exact rfl); (with_reducible refine s_nil ?_); (with_reducible refine' t_newT ?q170 ?q171); (case q170 => simp only [ List.length , sizeLine_eq ]; omega); intro _ _ _ _ _; (with_reducible refine' s_gname ?q172 ?q173); (case q172 => simp only [ List.set_cons_succ , List.set_cons_zero ]; exact rfl); (with_reducible refine wds_i ?_))
          rename_i ta va ea na sa2
          refine ⟨(((eu5.trans (e7.more fun b hb => .inr (.inl hb))).trans (e8.more fun _ z => z.elim)).trans (e9.more fun b hb => .inr (.inr hb))).trans (ea.more fun _ z => z.elim), pu9.go ea fun z => z, _, _, .ref ta, _, _, _, _, rfl, o9.ext ea fun z => z, Args.mono ea.st hab9, fun i hia => ?_, fun _ => ⟨ta, wd8, f8, rfl, sa2, ?_, hT9.mono ea.st⟩⟩
          · rw [List.getElem?_set_ne (by omega)]
            exact hpre i hia
          · rw [show a + j = a by omega, List.getElem?_set_self (by omega)]
        · ((with_reducible refine s_and ?_); (with_reducible refine s_test ?_); (with_reducible refine s_op ?_); (with_reducible refine' s_var ?q174 ?q175); (case q174 => exact rfl); (with_reducible refine s_c ?_); (with_reducible refine s_gt ?_); (with_reducible refine s_bl ?_))
          refine ite_d (fun ct => ?_) (fun ct => ?_)
          · wtm_at "go"
            rename_i v6 d6 e6 pu6 h60 h61
            refine ite_d (fun c1 => ?_) (fun c1 => ?_)
            · have s1y := st_go e6 s1y
              have s2y := st_go e6 s2y
              have hay := Args.mono e6.st hay
              have oD := oD.ext e6 hDp
              have hab := Args.mono e6.st hab
              ((with_reducible refine s_seq ?_); (with_reducible refine s_asg ?_); (with_reducible refine s_call ?_); (with_reducible refine s_cons ?_); (with_reducible refine s_op ?_); (with_reducible refine' s_var ?q182 ?q183); (case q182 => exact rfl); (with_reducible refine' s_var ?q184 ?q185); (case q184 => exact rfl))
              obtain ⟨sj, hsj⟩ : ∃ sj, (srts k)[a + j]? = some sj := ⟨_, List.getElem?_eq_getElem hjl⟩
              refine ixS_of s2y (j := a + j) (by omega) (show ((srts k).map fun s => V.str s.z)[a + j]? = some (.str sj.z) by rw [List.getElem?_map, hsj]; rfl) ?_
              wtm_at "go"
              rename_i v7 d7 e7 pu7 h70 h71
              have s1z := st_go e7 s1y
              have haz := Args.mono e7.st hay
              have oD7 := oD.ext e7 hDp
              have hab7 := Args.mono e7.st hab
              refine ⟨sj, d7, rfl, rfl, h70, by omega, ek, fun hs => ?_, fun v8 t8 x8 wd8 f8 e8 st8 hA8 hT8 => ?_⟩
              · obtain ⟨v', o', hv, ho, hA⟩ := haz.get hsj
                rw [hs] at hA
                rw [nones_get ho] at hA
                exact ⟨r1, vs, a + j, v', rfl, s1z, by push_cast; rfl, hv, hA⟩
              have oD8 := oD7.ext e8 fun z => z
              have hab8 := Args.mono e8.st hab7
              have pu8 : Stt v8 p := pu7.go e8 fun z => z
              ((with_reducible refine' s_gtup ?q270 ?q271 ?q272); (case q270 => assumption); (case q271 => exact rfl); (with_reducible refine s_gcons ?_); (with_reducible refine' s_gname ?q273 ?q274); (case q273 => simp only [ List.set_cons_succ , List.set_cons_zero ]; exact rfl); (with_reducible refine s_gcons ?_); (with_reducible refine' s_gname ?q275 ?q276); (case q275 => simp only [ List.set_cons_succ , List.set_cons_zero ]; exact rfl); (with_reducible refine s_gcons ?_); (with_reducible refine' s_gname ?q277 ?q278); (case q277 => simp only [ List.set_cons_succ , List.set_cons_zero ]; exact rfl); (with_reducible refine s_gnil ?_); (with_reducible refine s_seq ?_); (with_reducible refine s_asg ?_); (with_reducible refine' s_var ?q279 ?q280); (case q279 => exact rfl); (with_reducible refine s_gsub ?_); (with_reducible refine' s_var ?q281 ?q282); (case q281 => exact rfl); (with_reducible refine' s_var ?q283 ?q284); (case q283 => exact rfl))
              refine s_setL (m := a + j) oD8 (by rw [ixN_nn (by omega) (by omega)]; congr 1) fun u9 e9 o9 => ?_
              have pu9 : Stt u9 p := pu8.go e9 fun z => hDp z.symm
              have hab9 := (Args.mono e9.st hab8).set (a + j) hsj (ArgA.mono e9.st hA8)
              have hT9 := hT8.mono e9.st
              ((with_reducible refine s_ifS ?_); (with_reducible refine s_test ?_); (with_reducible refine s_op ?_); (with_reducible refine' s_var ?q288 ?q289); (case q288 => exact rfl); (with_reducible refine' s_var ?q290 ?q291); (case q290 => exact rfl); (with_reducible refine s_eqI ?_); (with_reducible refine s_bl ?_))
              refine ite_d (fun c2 => absurd c2 c) (fun c2 => ?_)
              ((with_reducible refine s_next ?_); (with_reducible refine wds_i ?_))
              refine ⟨((((eu5.trans (e6.more fun b hb => .inr (.inl hb))).trans (e7.more fun b hb => .inr (.inl hb))).trans (e8.more fun _ z => z.elim)).trans (e9.more fun b hb => .inr (.inr hb))), pu9, _, _, _, _, _, _, _, rfl, o9, hab9, fun i hia => ?_, fun _ => ?_⟩
              · rw [List.getElem?_set_ne (by omega)]
                exact hpre i hia
              · obtain ⟨t, wd, f, h1, h2, h3, h4⟩ := hdue (by omega)
                exact ⟨t, wd, f, h1, st_go e9 (st_go e8 (st_go e7 (st_go e6 h2))), by rw [List.getElem?_set_ne (by omega)]; exact h3, (((h4.mono e6.st).mono e7.st).mono e8.st).mono e9.st⟩
            · ((with_reducible refine s_next ?_); (with_reducible refine wds_i ?_))
              refine ⟨eu5.trans (e6.more fun b hb => .inr (.inl hb)), pu6, _, _, _, _, _, _, _, rfl, oD.ext e6 hDp, Args.mono e6.st hab, hpre, fun _ => ?_⟩
              obtain ⟨t, wd, f, h1, h2, h3, h4⟩ := hdue (by omega)
              exact ⟨t, wd, f, h1, st_go e6 h2, h3, h4.mono e6.st⟩
          · ((with_reducible refine ite_ff ?_); (with_reducible refine s_next ?_); (with_reducible refine wds_i ?_))
            exact ⟨eu5, pu5, _, _, _, _, _, _, _, rfl, oD, hab, hpre, fun _ => hdue (by omega)⟩
      · rintro σ u5 ⟨eu5, pu5, bs, os, due, g9, g10, g11, g12, rfl, oD, hab, hpre, hdue⟩
        obtain ⟨t, wd, f, rfl, st, hos, hth⟩ := hdue (by omega)
        ((with_reducible refine s_ifS ?_); (with_reducible refine s_not ?_); (with_reducible refine s_B ?_); (with_reducible refine s_call ?_); (with_reducible refine s_cons ?_); (with_reducible refine s_call ?_); (with_reducible refine s_cons ?_); (with_reducible refine' s_var ?q295 ?q296); (case q295 => exact rfl); (with_reducible refine s_cons ?_); (with_reducible refine' s_var ?q297 ?q298); (case q297 => exact rfl); (with_reducible refine s_nil ?_); (with_reducible refine s_pr2 ?_))
        refine ⟨k, D, bs, os, rfl, rfl, .inr oD, ek, hab, (fun h => by rw [fst_at hpre hos] at h; cases h), fun wd' y' h v6 r6 q6 e6 s6 sq6 => ?_⟩
        rw [fst_at hpre hos] at h
        cases h
        have st := st_go e6 st
        have hth := hth.mono e6.st
        ((with_reducible refine s_cons ?_); (with_reducible refine s_op ?_); (with_reducible refine' s_var ?q299 ?q300); (case q299 => exact rfl); (with_reducible refine s_c ?_); (with_reducible refine' s_ixT ?q323 ?q324 ?q325); (case q323 => assumption); (case q324 => exact rfl); (with_reducible refine s_cons ?_); (with_reducible refine s_op ?_); (with_reducible refine' s_var ?q326 ?q327); (case q326 => exact rfl); (with_reducible refine s_c ?_); (with_reducible refine' s_ixT ?q350 ?q351 ?q352); (case q350 => assumption); (case q351 => exact rfl); (with_reducible refine s_nil ?_); (with_reducible refine s_pr3 ?_))
        refine ⟨r6, q6, wd, rfl, s6, sq6, rfl, hth, fun v7 e7 => ?_⟩
        ((with_reducible refine s_bl ?_); (with_reducible refine ite_nt ?_); (with_reducible refine s_next ?_); (with_reducible refine wds_i ?_))
        exact ⟨(ev4.step eu5 fun b hb => hb.elim .inr fun h => .inl (by rw [h]; exact nvD)).trans ((e6.trans e7).more fun _ z => z.elim), (pu5.go e6 fun z => z).go e7 fun z => z, _, _, _, _, _, _, _, rfl⟩
    · rintro σ u2 ⟨eu2, pu2, g6, g7, g8, g9, g10, g11, g12, rfl⟩
      ((with_reducible refine wds_i ?_))
      exact ⟨euv.trans eu2, pu2, _, _, _, _, _, _, _, _, _, rfl⟩
  · rintro σ u ⟨eu, puu, g4, g5, g6, g7, g8, g9, g10, g11, g12, rfl⟩
    ((with_reducible refine s_ret ?_); (with_reducible refine s_op ?_); (with_reducible refine s_call ?_); (with_reducible refine s_cons ?_); (with_reducible refine' s_var ?q356 ?q357); (case q356 => exact rfl); (with_reducible refine s_cons ?_); (with_reducible refine' s_var ?q358 ?q359); (case q358 => exact rfl); (with_reducible refine s_nil ?_); (with_reducible refine s_pr2 ?_))
    refine ⟨k, r1, vs, _, rfl, rfl, .inl (st_go eu s1), ek, Args.mono eu.st ha, fun _ v5 e5 => ?_, fun wd y h => by rw [fst_none] at h; cases h⟩
    ((with_reducible refine s_c ?_); (with_reducible refine s_isNN ?_))
    exact kk _ ((ew3.trans eu).trans (e5.more fun _ z => z.elim)) (puu.go e5 fun z => z)
abbrev nm_law : List Str := ["_law_script", "_law_k", "_law_state", "_law_kind"]
theorem sc_law : FnScope nm_law ["_law_script"] (defScope s_law) := ⟨rfl, rfl, rfl, by decide +kernel, rfl, by decide +kernel, by decide +kernel⟩
theorem st_law (a : V) : start nm_law [a] = [some a, none, none, none] := rfl
def p_law (K : PySem.W.Frag) (w : Wd) (a : V) (Q : VK) (_ : XK) : Prop := Scr K w a ∧ ∀ v, Ext Non w v → Q (.bl true) v.H
theorem ok_law {f : Addr} {fd : FuncData} {C_Entry C_Within C_At C_Between C_Read C_Joint C_Sifted C_LogError C_NoBond C_NoEntry C_NoMinutes C_NoMoment C_NoName C_NoPlace C_NoReading C_Taken C_TooMany : Addr} (F : Fun K "law" "law" s_law f fd) (T : Txt K mg C_Entry C_Within C_At C_Between C_Read C_Joint C_Sifted C_LogError C_NoBond C_NoEntry C_NoMinutes C_NoMoment C_NoName C_NoPlace C_NoReading C_Taken C_TooMany) (c_l_begun : Fnc P ww K mg base CX0 1 "_law_begun" (pr1 (p_l_begun))) (c_l_cell : Fnc P ww K mg base CX0 1 "_law_cell" (pr2 (p_l_cell K))) (c_l_kind_right : Fnc P ww K mg base CX0 9 "_law_kind_right" (pr2 (p_l_kind_right K (EC.mk C_Entry C_Within C_At C_Between C_Read C_Joint C_Sifted kdAll noKp) C_NoName C_NoMoment C_NoReading C_NoEntry C_TooMany))) : FnOk P ww K mg base CX0 10 f fd ["_law_script"] (pr1 (p_law K)) := by
  refine F.ok sc_law (fun vs H Q E h => len1 h) (fun cdv A outer s H vs Q E hr h => ?_)
  obtain ⟨w, x0,  rfl, rfl, h⟩ := h
  have ekT := ek_T (P := P) (ww := ww) (base := base) T
  have oex_NoBond := T.oex_NoBond; have xf_NoBond := T.xf_NoBond; have ec_NoBond := T.ec_NoBond; have xn_NoBond := T.xn_NoBond
  have oex_NoEntry := T.oex_NoEntry; have xf_NoEntry := T.xf_NoEntry; have ec_NoEntry := T.ec_NoEntry; have xn_NoEntry := T.xn_NoEntry
  have oex_NoMinutes := T.oex_NoMinutes; have xf_NoMinutes := T.xf_NoMinutes; have ec_NoMinutes := T.ec_NoMinutes; have xn_NoMinutes := T.xn_NoMinutes
  have oex_NoMoment := T.oex_NoMoment; have xf_NoMoment := T.xf_NoMoment; have ec_NoMoment := T.ec_NoMoment; have xn_NoMoment := T.xn_NoMoment
  have oex_NoName := T.oex_NoName; have xf_NoName := T.xf_NoName; have ec_NoName := T.ec_NoName; have xn_NoName := T.xn_NoName
  have oex_NoPlace := T.oex_NoPlace; have xf_NoPlace := T.xf_NoPlace; have ec_NoPlace := T.ec_NoPlace; have xn_NoPlace := T.xn_NoPlace
  have oex_NoReading := T.oex_NoReading; have xf_NoReading := T.xf_NoReading; have ec_NoReading := T.ec_NoReading; have xn_NoReading := T.xn_NoReading
  have oex_Taken := T.oex_Taken; have xf_Taken := T.xf_Taken; have ec_Taken := T.ec_Taken; have xn_Taken := T.xn_Taken
  have oex_TooMany := T.oex_TooMany; have xf_TooMany := T.xf_TooMany; have ec_TooMany := T.ec_TooMany; have xn_TooMany := T.xn_TooMany
  refine ⟨_, (pss_cons (ps_for PassesOwn.never rfl (pi_range1 rfl T.n_range (pa_cons (pe_callB (kMax K rfl) (by rfl) T.n_max (by decide +kernel) (pa_cons pe_int (pa_cons (pe_callB (kMin K rfl) (by rfl) T.n_min (by decide +kernel) (pa_cons pe_int (pa_cons (pe_callB (kLen K) (by rfl) T.n_len (by decide +kernel) (pa_cons (pv 0) pa_nil)) pa_nil))) pa_nil))) pa_nil)) (pg_name (i := 1) sc_law.nd rfl (Or.inl rfl)) (pss_cons (ps_set (i := 2) sc_law.nd rfl (Or.inl rfl) (pe_fn c_l_begun hr (by decide) pass0 (pa_cons (pe_fn c_l_cell hr (by decide) pass0 (pa_cons (pv 0) (pa_cons (pv 1) pa_nil))) pa_nil)))
      (pss_one (ps_for PassesOwn.never rfl (kpList K (pe_lst (pa_cons pe_str (pa_cons pe_str (pa_cons pe_str (pa_cons pe_str (pa_cons pe_str (pa_cons pe_str (pa_cons pe_str pa_nil))))))))) (pg_name (i := 3) sc_law.nd rfl (Or.inl rfl)) (pss_one (ps_if (pt_not (pt_val (pe_fn c_l_kind_right hr (by decide) pass0 (pa_cons (pv 3) (pa_cons (pv 2) pa_nil))))) (pss_one (ps_ret pe_bl)) pss_nil))))))
      (pss_one (ps_ret pe_bl))), ?_⟩
  rw [st_law]
  obtain ⟨sc, k⟩ := h
  have sc0 := sc
  obtain ⟨a, ns, rfl, hs, hl⟩ := sc
  have hs' : SqL K w.H a (ns.map V.int) := w.ok.seq hs
  ((with_reducible refine s_seq ?_); (with_reducible refine s_for ?_); (with_reducible refine s_iRng1 ?_); (with_reducible refine s_cons ?_); (with_reducible refine s_CB ?_); (with_reducible refine s_cons ?_); (with_reducible refine s_c ?_); (with_reducible refine s_cons ?_); (with_reducible refine s_CB ?_); (with_reducible refine s_cons ?_); (with_reducible refine s_c ?_); (with_reducible refine s_cons ?_); (with_reducible refine s_CB ?_); (with_reducible refine s_cons ?_); (with_reducible refine' s_var ?q0 ?q1); (case q0 => exact rfl); (with_reducible refine s_nil ?_))
  refine s_lenK hs' ?_
  rw [List.length_map]
  ((with_reducible refine s_nil ?_); (with_reducible refine s_min ?_); (with_reducible refine s_nil ?_); (with_reducible refine s_max ?_); (with_reducible refine s_nil ?_); refine' ⟨ _ , rfl , ?q10 , ?q11 , ?q12 ⟩; (case q10 => show ( - ( 2 ^ 62 ) : Int ) ≤ _; omega); (case q11 => show _ < ( 2 ^ 62 : Int ); omega))
  refine forW (ww_range (lo := 0) (m := _)) (fun i σ u => Ext Non w u ∧ ∃ a1 a2 a3, σ = [some (.ref a), a1, a2, a3]) ⟨Ext.refl _ _, _, _, _, rfl⟩ (fun _ _ _ _ _ => trivial) ?_ ?_
  · rintro i x σ _ u hi ⟨eu, a1, a2, a3, rfl⟩ ⟨rfl, rfl⟩
    ((with_reducible refine' s_gname ?q13 ?q14); (case q13 => simp only [ List.set_cons_succ , List.set_cons_zero ]; exact rfl); (with_reducible refine s_seq ?_); (with_reducible refine s_asg ?_); (with_reducible refine s_call ?_); (with_reducible refine s_cons ?_); (with_reducible refine s_call ?_); (with_reducible refine s_cons ?_); (with_reducible refine' s_var ?q15 ?q16); (case q15 => exact rfl); (with_reducible refine s_cons ?_); (with_reducible refine' s_var ?q17 ?q18); (case q17 => exact rfl); (with_reducible refine s_nil ?_); (with_reducible refine s_pr2 ?_))
    refine ⟨_, sc0.go eu, rfl, by omega, fun v z ev => ?_⟩
    ((with_reducible refine s_nil ?_); (with_reducible refine s_pr1 ?_))
    refine ⟨_, rfl, fun v2 p e2 n2 pu => ?_⟩
    have ew2 : Ext Non w v2 := (eu.trans ev).trans e2
    have npw : w.H p = none := (eu.trans ev).back n2
    clear eu ev e2 n2
    ((with_reducible refine' s_gname ?q19 ?q20); (case q19 => simp only [ List.set_cons_succ , List.set_cons_zero ]; exact rfl); (with_reducible refine s_for ?_); (with_reducible refine s_iList ?_); (with_reducible refine t_lst ?_); (with_reducible refine s_cons ?_); (with_reducible refine s_c ?_); (with_reducible refine s_cons ?_); (with_reducible refine s_c ?_); (with_reducible refine s_cons ?_); (with_reducible refine s_c ?_); (with_reducible refine s_cons ?_); (with_reducible refine s_c ?_); (with_reducible refine s_cons ?_); (with_reducible refine s_c ?_); (with_reducible refine s_cons ?_); (with_reducible refine s_c ?_); (with_reducible refine s_cons ?_); (with_reducible refine s_c ?_); (with_reducible refine s_nil ?_); (with_reducible refine' t_newLS ?q21 ?q22); (case q21 => simp only [ List.length , sizeLine_eq ]; omega); intro _ _ _ _ _; refine' ⟨ _ , rfl , ⟨ _ , ?q23 ⟩ , ?q24 ⟩; (case q23 => refine' SqL.of ( Wd.ok _ _ _ ?q25 ); (case q25 => assumption)))
    rename_i l3 v3 e3 n3 s3
    have s3 : v3.S l3 = some (.lst (kws.map V.str)) := s3
    have pu3 : Stt v3 p := pu.go e3 fun z => z
    refine forW (ww_list (xs := kws.map V.str)) (fun j σ u => Ext (One p) v3 u ∧ Stt u p ∧ ∃ a3, σ = [some (.ref a), some (.int (0 + (i : Int))), some (.ref p), a3]) ⟨Ext.refl _ _, pu3, _, rfl⟩ (fun j σ u _ hh => sql_of (st_go hh.1 s3)) ?_ ?_
    · rintro j y σ _ u4 hj ⟨eu4, pu4, a3, rfl⟩ ⟨rfl, hy⟩
      obtain ⟨k, rfl⟩ : ∃ k, y = .str (wordK k) := by
        rw [List.getElem?_map] at hy
        obtain ⟨z, hz, rfl⟩ := Option.map_eq_some_iff.mp hy
        have hm := List.mem_of_getElem? hz
        simp only [kws, List.mem_cons, List.not_mem_nil, or_false] at hm
        rcases hm with rfl | rfl | rfl | rfl | rfl | rfl | rfl
        · exact ⟨.any, rfl⟩
        · exact ⟨.within, rfl⟩
        · exact ⟨.att, rfl⟩
        · exact ⟨.between, rfl⟩
        · exact ⟨.read, rfl⟩
        · exact ⟨.joint, rfl⟩
        · exact ⟨.sifted, rfl⟩
      ((with_reducible refine' s_gname ?q26 ?q27); (case q26 => simp only [ List.set_cons_succ , List.set_cons_zero ]; exact rfl); (with_reducible refine s_ifS ?_); (with_reducible refine s_not ?_); (with_reducible refine s_B ?_); (with_reducible refine s_call ?_); (with_reducible refine s_cons ?_); (with_reducible refine' s_var ?q28 ?q29); (case q28 => exact rfl); (with_reducible refine s_cons ?_); (with_reducible refine' s_var ?q30 ?q31); (case q30 => exact rfl); (with_reducible refine s_nil ?_); (with_reducible refine s_pr2 ?_))
      refine ⟨k, p, rfl, rfl, pu4, ekT, fun v5 e5 pu5 => ?_⟩
      ((with_reducible refine s_bl ?_); (with_reducible refine ite_nt ?_); (with_reducible refine s_next ?_); (with_reducible refine wds_i ?_))
      exact ⟨eu4.trans e5, pu5, _, rfl⟩
    · rintro σ u4 ⟨eu4, pu4, a3, rfl⟩
      ((with_reducible refine wds_i ?_))
      exact ⟨(ew2.trans e3).step eu4 fun b hb => .inl (by rw [show b = p from hb]; exact npw), _, _, _, rfl⟩
  · rintro σ u ⟨eu, a1, a2, a3, rfl⟩
    ((with_reducible refine s_ret ?_); (with_reducible refine s_c ?_))
    exact k _ eu
theorem law_in {K : PySem.W.Frag} {H : Hp} {a : Addr} {ns : List Int} {E : XK} (hl : ns.length ≤ 63) (hS : SqL K H a (ns.map V.int)) : p_law K ⟨H, H, fun _ _ h => h, [], TabW.nil⟩ (.ref a) (fun v _ => v = .bl true) E := ⟨⟨a, ns, rfl, hS, hl⟩, fun _ _ => rfl⟩
end
theorem all_mk {l : PySem.W.OpenLaw} {ww : World} {K : PySem.W.Frag} {h : Heap} {mg : Str → Option Value} {fa : Addr} (X : K.In h) (G : h.Ns mainGlobals mg) (hfa : mg "law" = some (.ref fa)) (c : Hk.SaysB Fb Fn K) :
    ∃ fd : FuncData, (∀ (s : Shared) (v : Value), BindsTo s fd ⟨[v], []⟩ [("_law_script", v)]) ∧ ∀ base : Heap, K.In base → base.Ns mainGlobals mg → FnOk l.prog ww K mg base CX0 10 fa fd ["_law_script"] (pr1 (p_law K)) := by
  have e := hfa.symm.trans (He.glo_ok X G (c.fact 18 10 : He.Fa.ok K (.glo "law") = true))
  cases e
  have T : Txt K mg (He.ga K "Entry") (He.ga K "Within") (He.ga K "At") (He.ga K "Between") (He.ga K "Read") (He.ga K "Joint") (He.ga K "Sifted") (He.ga K "LogError") (He.ga K "NoBond") (He.ga K "NoEntry") (He.ga K "NoMinutes") (He.ga K "NoMoment") (He.ga K "NoName") (He.ga K "NoPlace") (He.ga K "NoReading") (He.ga K "Taken") (He.ga K "TooMany") := ⟨He.glo_ok X G (c.fact 0 0 : He.Fa.ok K (.glo "Entry") = true), He.cls_ok (c.fact 0 1 : He.Fa.ok K (.cls "Entry") = true), He.noat_ok (c.fact 0 2 : He.Fa.ok K (.noat "Entry" "high") = true), He.noat_ok (c.fact 0 3 : He.Fa.ok K (.noat "Entry" "keeps") = true), He.noat_ok (c.fact 0 4 : He.Fa.ok K (.noat "Entry" "known") = true), He.noat_ok (c.fact 0 5 : He.Fa.ok K (.noat "Entry" "low") = true), He.noat_ok (c.fact 0 6 : He.Fa.ok K (.noat "Entry" "name") = true), He.noat_ok (c.fact 0 7 : He.Fa.ok K (.noat "Entry" "part") = true), He.noat_ok (c.fact 0 8 : He.Fa.ok K (.noat "Entry" "place") = true), ⟨(of_decide_eq_true (c.fact 0 9 : decide (PySem.W.findIn K (.ref (He.ga K "Entry")) "__class__" = some (some (.builtin "object.__class__"))) = true)), (of_decide_eq_true (c.fact 0 10 : decide (PySem.W.specialIn K (.builtin "object.__class__") "__get__" = some (some (.builtin "getset_descriptor.__get__"))) = true)), (of_decide_eq_true (c.fact 0 11 : decide (PySem.W.takesIn K (.builtin "object.__class__") = some true) = true)), (of_decide_eq_true (c.fact 0 12 : decide (PySem.W.mroIn K (He.ga K "Entry") (.type "object") = some true) = true))⟩, He.glo_ok X G (c.fact 0 13 : He.Fa.ok K (.glo "Within") = true), He.cls_ok (c.fact 0 14 : He.Fa.ok K (.cls "Within") = true), He.noat_ok (c.fact 0 15 : He.Fa.ok K (.noat "Within" "high") = true), He.noat_ok (c.fact 0 16 : He.Fa.ok K (.noat "Within" "keeps") = true), He.noat_ok (c.fact 0 17 : He.Fa.ok K (.noat "Within" "known") = true), He.noat_ok (c.fact 0 18 : He.Fa.ok K (.noat "Within" "low") = true), He.noat_ok (c.fact 0 19 : He.Fa.ok K (.noat "Within" "name") = true), He.noat_ok (c.fact 1 0 : He.Fa.ok K (.noat "Within" "part") = true), He.noat_ok (c.fact 1 1 : He.Fa.ok K (.noat "Within" "place") = true), ⟨(of_decide_eq_true (c.fact 1 2 : decide (PySem.W.findIn K (.ref (He.ga K "Within")) "__class__" = some (some (.builtin "object.__class__"))) = true)), (of_decide_eq_true (c.fact 0 10 : decide (PySem.W.specialIn K (.builtin "object.__class__") "__get__" = some (some (.builtin "getset_descriptor.__get__"))) = true)), (of_decide_eq_true (c.fact 0 11 : decide (PySem.W.takesIn K (.builtin "object.__class__") = some true) = true)), (of_decide_eq_true (c.fact 1 3 : decide (PySem.W.mroIn K (He.ga K "Within") (.type "object") = some true) = true))⟩, He.glo_ok X G (c.fact 1 4 : He.Fa.ok K (.glo "At") = true), He.cls_ok (c.fact 1 5 : He.Fa.ok K (.cls "At") = true), He.noat_ok (c.fact 1 6 : He.Fa.ok K (.noat "At" "high") = true), He.noat_ok (c.fact 1 7 : He.Fa.ok K (.noat "At" "keeps") = true), He.noat_ok (c.fact 1 8 : He.Fa.ok K (.noat "At" "known") = true), He.noat_ok (c.fact 1 9 : He.Fa.ok K (.noat "At" "low") = true), He.noat_ok (c.fact 1 10 : He.Fa.ok K (.noat "At" "name") = true), He.noat_ok (c.fact 1 11 : He.Fa.ok K (.noat "At" "part") = true), He.noat_ok (c.fact 1 12 : He.Fa.ok K (.noat "At" "place") = true), ⟨(of_decide_eq_true (c.fact 1 13 : decide (PySem.W.findIn K (.ref (He.ga K "At")) "__class__" = some (some (.builtin "object.__class__"))) = true)), (of_decide_eq_true (c.fact 0 10 : decide (PySem.W.specialIn K (.builtin "object.__class__") "__get__" = some (some (.builtin "getset_descriptor.__get__"))) = true)), (of_decide_eq_true (c.fact 0 11 : decide (PySem.W.takesIn K (.builtin "object.__class__") = some true) = true)), (of_decide_eq_true (c.fact 1 14 : decide (PySem.W.mroIn K (He.ga K "At") (.type "object") = some true) = true))⟩, He.glo_ok X G (c.fact 1 15 : He.Fa.ok K (.glo "Between") = true), He.cls_ok (c.fact 1 16 : He.Fa.ok K (.cls "Between") = true), He.noat_ok (c.fact 1 17 : He.Fa.ok K (.noat "Between" "high") = true), He.noat_ok (c.fact 1 18 : He.Fa.ok K (.noat "Between" "keeps") = true), He.noat_ok (c.fact 1 19 : He.Fa.ok K (.noat "Between" "known") = true), He.noat_ok (c.fact 2 0 : He.Fa.ok K (.noat "Between" "low") = true), He.noat_ok (c.fact 2 1 : He.Fa.ok K (.noat "Between" "name") = true), He.noat_ok (c.fact 2 2 : He.Fa.ok K (.noat "Between" "part") = true), He.noat_ok (c.fact 2 3 : He.Fa.ok K (.noat "Between" "place") = true), ⟨(of_decide_eq_true (c.fact 2 4 : decide (PySem.W.findIn K (.ref (He.ga K "Between")) "__class__" = some (some (.builtin "object.__class__"))) = true)), (of_decide_eq_true (c.fact 0 10 : decide (PySem.W.specialIn K (.builtin "object.__class__") "__get__" = some (some (.builtin "getset_descriptor.__get__"))) = true)), (of_decide_eq_true (c.fact 0 11 : decide (PySem.W.takesIn K (.builtin "object.__class__") = some true) = true)), (of_decide_eq_true (c.fact 2 5 : decide (PySem.W.mroIn K (He.ga K "Between") (.type "object") = some true) = true))⟩, He.glo_ok X G (c.fact 2 6 : He.Fa.ok K (.glo "Read") = true), He.cls_ok (c.fact 2 7 : He.Fa.ok K (.cls "Read") = true), He.noat_ok (c.fact 2 8 : He.Fa.ok K (.noat "Read" "high") = true), He.noat_ok (c.fact 2 9 : He.Fa.ok K (.noat "Read" "keeps") = true), He.noat_ok (c.fact 2 10 : He.Fa.ok K (.noat "Read" "known") = true), He.noat_ok (c.fact 2 11 : He.Fa.ok K (.noat "Read" "low") = true), He.noat_ok (c.fact 2 12 : He.Fa.ok K (.noat "Read" "name") = true), He.noat_ok (c.fact 2 13 : He.Fa.ok K (.noat "Read" "part") = true), He.noat_ok (c.fact 2 14 : He.Fa.ok K (.noat "Read" "place") = true), ⟨(of_decide_eq_true (c.fact 2 15 : decide (PySem.W.findIn K (.ref (He.ga K "Read")) "__class__" = some (some (.builtin "object.__class__"))) = true)), (of_decide_eq_true (c.fact 0 10 : decide (PySem.W.specialIn K (.builtin "object.__class__") "__get__" = some (some (.builtin "getset_descriptor.__get__"))) = true)), (of_decide_eq_true (c.fact 0 11 : decide (PySem.W.takesIn K (.builtin "object.__class__") = some true) = true)), (of_decide_eq_true (c.fact 2 16 : decide (PySem.W.mroIn K (He.ga K "Read") (.type "object") = some true) = true))⟩, He.glo_ok X G (c.fact 2 17 : He.Fa.ok K (.glo "Joint") = true), He.cls_ok (c.fact 2 18 : He.Fa.ok K (.cls "Joint") = true), He.noat_ok (c.fact 2 19 : He.Fa.ok K (.noat "Joint" "high") = true), He.noat_ok (c.fact 3 0 : He.Fa.ok K (.noat "Joint" "keeps") = true), He.noat_ok (c.fact 3 1 : He.Fa.ok K (.noat "Joint" "known") = true), He.noat_ok (c.fact 3 2 : He.Fa.ok K (.noat "Joint" "low") = true), He.noat_ok (c.fact 3 3 : He.Fa.ok K (.noat "Joint" "name") = true), He.noat_ok (c.fact 3 4 : He.Fa.ok K (.noat "Joint" "part") = true), He.noat_ok (c.fact 3 5 : He.Fa.ok K (.noat "Joint" "place") = true), ⟨(of_decide_eq_true (c.fact 3 6 : decide (PySem.W.findIn K (.ref (He.ga K "Joint")) "__class__" = some (some (.builtin "object.__class__"))) = true)), (of_decide_eq_true (c.fact 0 10 : decide (PySem.W.specialIn K (.builtin "object.__class__") "__get__" = some (some (.builtin "getset_descriptor.__get__"))) = true)), (of_decide_eq_true (c.fact 0 11 : decide (PySem.W.takesIn K (.builtin "object.__class__") = some true) = true)), (of_decide_eq_true (c.fact 3 7 : decide (PySem.W.mroIn K (He.ga K "Joint") (.type "object") = some true) = true))⟩, He.glo_ok X G (c.fact 3 8 : He.Fa.ok K (.glo "Sifted") = true), He.cls_ok (c.fact 3 9 : He.Fa.ok K (.cls "Sifted") = true), He.noat_ok (c.fact 3 10 : He.Fa.ok K (.noat "Sifted" "high") = true), He.noat_ok (c.fact 3 11 : He.Fa.ok K (.noat "Sifted" "keeps") = true), He.noat_ok (c.fact 3 12 : He.Fa.ok K (.noat "Sifted" "known") = true), He.noat_ok (c.fact 3 13 : He.Fa.ok K (.noat "Sifted" "low") = true), He.noat_ok (c.fact 3 14 : He.Fa.ok K (.noat "Sifted" "name") = true), He.noat_ok (c.fact 3 15 : He.Fa.ok K (.noat "Sifted" "part") = true), He.noat_ok (c.fact 3 16 : He.Fa.ok K (.noat "Sifted" "place") = true), ⟨(of_decide_eq_true (c.fact 3 17 : decide (PySem.W.findIn K (.ref (He.ga K "Sifted")) "__class__" = some (some (.builtin "object.__class__"))) = true)), (of_decide_eq_true (c.fact 0 10 : decide (PySem.W.specialIn K (.builtin "object.__class__") "__get__" = some (some (.builtin "getset_descriptor.__get__"))) = true)), (of_decide_eq_true (c.fact 0 11 : decide (PySem.W.takesIn K (.builtin "object.__class__") = some true) = true)), (of_decide_eq_true (c.fact 3 18 : decide (PySem.W.mroIn K (He.ga K "Sifted") (.type "object") = some true) = true))⟩, He.glo_ok X G (c.fact 3 19 : He.Fa.ok K (.glo "LogError") = true), (c.fact 4 0 : PySem.W.readsIn K (He.ga K "LogError") (.type "type") = true), (of_decide_eq_true (c.fact 4 1 : decide (PySem.W.specialIn K (.ref (He.ga K "LogError")) "__getattribute__" = some (some (.builtin "type.__getattribute__"))) = true)), Hk.fc_ok (c.fact 4 2 : Hk.fcB K (He.ga K "LogError") "__init__" (.builtin "ValueError.__init__") = true), He.glo_ok X G (c.fact 4 3 : He.Fa.ok K (.glo "NoBond") = true), Hk.oex_ok (c.fact 4 4 : Hk.oexB K (He.ga K "NoBond") = true), L2.xfB_ok (c.fact 4 5 : L2.xfB K (He.ga K "NoBond") = true), Hk.ec_ok (c.fact 4 6 : Hk.ecB K (He.ga K "NoBond") = true), He.noat_ok (c.fact 4 7 : He.Fa.ok K (.noat "NoBond" "found") = true), He.glo_ok X G (c.fact 4 8 : He.Fa.ok K (.glo "NoEntry") = true), Hk.oex_ok (c.fact 4 9 : Hk.oexB K (He.ga K "NoEntry") = true), L2.xfB_ok (c.fact 4 10 : L2.xfB K (He.ga K "NoEntry") = true), Hk.ec_ok (c.fact 4 11 : Hk.ecB K (He.ga K "NoEntry") = true), He.noat_ok (c.fact 4 12 : He.Fa.ok K (.noat "NoEntry" "found") = true), He.glo_ok X G (c.fact 4 13 : He.Fa.ok K (.glo "NoMinutes") = true), Hk.oex_ok (c.fact 4 14 : Hk.oexB K (He.ga K "NoMinutes") = true), L2.xfB_ok (c.fact 4 15 : L2.xfB K (He.ga K "NoMinutes") = true), Hk.ec_ok (c.fact 4 16 : Hk.ecB K (He.ga K "NoMinutes") = true), He.noat_ok (c.fact 4 17 : He.Fa.ok K (.noat "NoMinutes" "found") = true), He.glo_ok X G (c.fact 4 18 : He.Fa.ok K (.glo "NoMoment") = true), Hk.oex_ok (c.fact 4 19 : Hk.oexB K (He.ga K "NoMoment") = true), L2.xfB_ok (c.fact 5 0 : L2.xfB K (He.ga K "NoMoment") = true), Hk.ec_ok (c.fact 5 1 : Hk.ecB K (He.ga K "NoMoment") = true), He.noat_ok (c.fact 5 2 : He.Fa.ok K (.noat "NoMoment" "found") = true), He.glo_ok X G (c.fact 5 3 : He.Fa.ok K (.glo "NoName") = true), Hk.oex_ok (c.fact 5 4 : Hk.oexB K (He.ga K "NoName") = true), L2.xfB_ok (c.fact 5 5 : L2.xfB K (He.ga K "NoName") = true), Hk.ec_ok (c.fact 5 6 : Hk.ecB K (He.ga K "NoName") = true), He.noat_ok (c.fact 5 7 : He.Fa.ok K (.noat "NoName" "found") = true), He.glo_ok X G (c.fact 5 8 : He.Fa.ok K (.glo "NoPlace") = true), Hk.oex_ok (c.fact 5 9 : Hk.oexB K (He.ga K "NoPlace") = true), L2.xfB_ok (c.fact 5 10 : L2.xfB K (He.ga K "NoPlace") = true), Hk.ec_ok (c.fact 5 11 : Hk.ecB K (He.ga K "NoPlace") = true), He.noat_ok (c.fact 5 12 : He.Fa.ok K (.noat "NoPlace" "found") = true), He.glo_ok X G (c.fact 5 13 : He.Fa.ok K (.glo "NoReading") = true), Hk.oex_ok (c.fact 5 14 : Hk.oexB K (He.ga K "NoReading") = true), L2.xfB_ok (c.fact 5 15 : L2.xfB K (He.ga K "NoReading") = true), Hk.ec_ok (c.fact 5 16 : Hk.ecB K (He.ga K "NoReading") = true), He.noat_ok (c.fact 5 17 : He.Fa.ok K (.noat "NoReading" "found") = true), He.glo_ok X G (c.fact 5 18 : He.Fa.ok K (.glo "Taken") = true), Hk.oex_ok (c.fact 5 19 : Hk.oexB K (He.ga K "Taken") = true), L2.xfB_ok (c.fact 6 0 : L2.xfB K (He.ga K "Taken") = true), Hk.ec_ok (c.fact 6 1 : Hk.ecB K (He.ga K "Taken") = true), He.noat_ok (c.fact 6 2 : He.Fa.ok K (.noat "Taken" "found") = true), He.glo_ok X G (c.fact 6 3 : He.Fa.ok K (.glo "TooMany") = true), Hk.oex_ok (c.fact 6 4 : Hk.oexB K (He.ga K "TooMany") = true), L2.xfB_ok (c.fact 6 5 : L2.xfB K (He.ga K "TooMany") = true), Hk.ec_ok (c.fact 6 6 : Hk.ecB K (He.ga K "TooMany") = true), He.noat_ok (c.fact 6 7 : He.Fa.ok K (.noat "TooMany" "many") = true), (of_decide_eq_true (c.fact 6 8 : decide (PySem.W.kitOne K (.ref (He.ga K "NoName")) (.ref (He.ga K "NoName")) = some true) = true)), (of_decide_eq_true (c.fact 6 9 : decide (PySem.W.kitOne K (.ref (He.ga K "NoName")) (.ref (He.ga K "NoMoment")) = some false) = true)), (of_decide_eq_true (c.fact 6 10 : decide (PySem.W.kitOne K (.ref (He.ga K "NoName")) (.ref (He.ga K "NoReading")) = some false) = true)), (of_decide_eq_true (c.fact 6 11 : decide (PySem.W.kitOne K (.ref (He.ga K "NoName")) (.ref (He.ga K "NoEntry")) = some false) = true)), (of_decide_eq_true (c.fact 6 12 : decide (PySem.W.kitOne K (.ref (He.ga K "NoName")) (.ref (He.ga K "TooMany")) = some false) = true)), (of_decide_eq_true (c.fact 6 13 : decide (PySem.W.kitOne K (.ref (He.ga K "NoName")) (.ref (He.ga K "NoBond")) = some false) = true)), (of_decide_eq_true (c.fact 6 14 : decide (PySem.W.kitOne K (.ref (He.ga K "NoName")) (.ref (He.ga K "NoMinutes")) = some false) = true)), (of_decide_eq_true (c.fact 6 15 : decide (PySem.W.kitOne K (.ref (He.ga K "NoName")) (.ref (He.ga K "NoPlace")) = some false) = true)), (of_decide_eq_true (c.fact 6 16 : decide (PySem.W.kitOne K (.ref (He.ga K "NoName")) (.ref (He.ga K "Taken")) = some false) = true)), (of_decide_eq_true (c.fact 6 17 : decide (PySem.W.kitOne K (.ref (He.ga K "NoMoment")) (.ref (He.ga K "NoName")) = some false) = true)), (of_decide_eq_true (c.fact 6 18 : decide (PySem.W.kitOne K (.ref (He.ga K "NoMoment")) (.ref (He.ga K "NoMoment")) = some true) = true)), (of_decide_eq_true (c.fact 6 19 : decide (PySem.W.kitOne K (.ref (He.ga K "NoMoment")) (.ref (He.ga K "NoReading")) = some false) = true)), (of_decide_eq_true (c.fact 7 0 : decide (PySem.W.kitOne K (.ref (He.ga K "NoMoment")) (.ref (He.ga K "NoEntry")) = some false) = true)), (of_decide_eq_true (c.fact 7 1 : decide (PySem.W.kitOne K (.ref (He.ga K "NoMoment")) (.ref (He.ga K "TooMany")) = some false) = true)), (of_decide_eq_true (c.fact 7 2 : decide (PySem.W.kitOne K (.ref (He.ga K "NoMoment")) (.ref (He.ga K "NoBond")) = some false) = true)), (of_decide_eq_true (c.fact 7 3 : decide (PySem.W.kitOne K (.ref (He.ga K "NoMoment")) (.ref (He.ga K "NoMinutes")) = some false) = true)), (of_decide_eq_true (c.fact 7 4 : decide (PySem.W.kitOne K (.ref (He.ga K "NoMoment")) (.ref (He.ga K "NoPlace")) = some false) = true)), (of_decide_eq_true (c.fact 7 5 : decide (PySem.W.kitOne K (.ref (He.ga K "NoMoment")) (.ref (He.ga K "Taken")) = some false) = true)), (of_decide_eq_true (c.fact 7 6 : decide (PySem.W.kitOne K (.ref (He.ga K "NoReading")) (.ref (He.ga K "NoName")) = some false) = true)), (of_decide_eq_true (c.fact 7 7 : decide (PySem.W.kitOne K (.ref (He.ga K "NoReading")) (.ref (He.ga K "NoMoment")) = some false) = true)), (of_decide_eq_true (c.fact 7 8 : decide (PySem.W.kitOne K (.ref (He.ga K "NoReading")) (.ref (He.ga K "NoReading")) = some true) = true)), (of_decide_eq_true (c.fact 7 9 : decide (PySem.W.kitOne K (.ref (He.ga K "NoReading")) (.ref (He.ga K "NoEntry")) = some false) = true)), (of_decide_eq_true (c.fact 7 10 : decide (PySem.W.kitOne K (.ref (He.ga K "NoReading")) (.ref (He.ga K "TooMany")) = some false) = true)), (of_decide_eq_true (c.fact 7 11 : decide (PySem.W.kitOne K (.ref (He.ga K "NoReading")) (.ref (He.ga K "NoBond")) = some false) = true)), (of_decide_eq_true (c.fact 7 12 : decide (PySem.W.kitOne K (.ref (He.ga K "NoReading")) (.ref (He.ga K "NoMinutes")) = some false) = true)), (of_decide_eq_true (c.fact 7 13 : decide (PySem.W.kitOne K (.ref (He.ga K "NoReading")) (.ref (He.ga K "NoPlace")) = some false) = true)), (of_decide_eq_true (c.fact 7 14 : decide (PySem.W.kitOne K (.ref (He.ga K "NoReading")) (.ref (He.ga K "Taken")) = some false) = true)), (of_decide_eq_true (c.fact 7 15 : decide (PySem.W.kitOne K (.ref (He.ga K "NoEntry")) (.ref (He.ga K "NoName")) = some false) = true)), (of_decide_eq_true (c.fact 7 16 : decide (PySem.W.kitOne K (.ref (He.ga K "NoEntry")) (.ref (He.ga K "NoMoment")) = some false) = true)), (of_decide_eq_true (c.fact 7 17 : decide (PySem.W.kitOne K (.ref (He.ga K "NoEntry")) (.ref (He.ga K "NoReading")) = some false) = true)), (of_decide_eq_true (c.fact 7 18 : decide (PySem.W.kitOne K (.ref (He.ga K "NoEntry")) (.ref (He.ga K "NoEntry")) = some true) = true)), (of_decide_eq_true (c.fact 7 19 : decide (PySem.W.kitOne K (.ref (He.ga K "NoEntry")) (.ref (He.ga K "TooMany")) = some false) = true)), (of_decide_eq_true (c.fact 8 0 : decide (PySem.W.kitOne K (.ref (He.ga K "NoEntry")) (.ref (He.ga K "NoBond")) = some false) = true)), (of_decide_eq_true (c.fact 8 1 : decide (PySem.W.kitOne K (.ref (He.ga K "NoEntry")) (.ref (He.ga K "NoMinutes")) = some false) = true)), (of_decide_eq_true (c.fact 8 2 : decide (PySem.W.kitOne K (.ref (He.ga K "NoEntry")) (.ref (He.ga K "NoPlace")) = some false) = true)), (of_decide_eq_true (c.fact 8 3 : decide (PySem.W.kitOne K (.ref (He.ga K "NoEntry")) (.ref (He.ga K "Taken")) = some false) = true)), (of_decide_eq_true (c.fact 8 4 : decide (PySem.W.kitOne K (.ref (He.ga K "TooMany")) (.ref (He.ga K "NoName")) = some false) = true)), (of_decide_eq_true (c.fact 8 5 : decide (PySem.W.kitOne K (.ref (He.ga K "TooMany")) (.ref (He.ga K "NoMoment")) = some false) = true)), (of_decide_eq_true (c.fact 8 6 : decide (PySem.W.kitOne K (.ref (He.ga K "TooMany")) (.ref (He.ga K "NoReading")) = some false) = true)), (of_decide_eq_true (c.fact 8 7 : decide (PySem.W.kitOne K (.ref (He.ga K "TooMany")) (.ref (He.ga K "NoEntry")) = some false) = true)), (of_decide_eq_true (c.fact 8 8 : decide (PySem.W.kitOne K (.ref (He.ga K "TooMany")) (.ref (He.ga K "TooMany")) = some true) = true)), (of_decide_eq_true (c.fact 8 9 : decide (PySem.W.kitOne K (.ref (He.ga K "TooMany")) (.ref (He.ga K "NoBond")) = some false) = true)), (of_decide_eq_true (c.fact 8 10 : decide (PySem.W.kitOne K (.ref (He.ga K "TooMany")) (.ref (He.ga K "NoMinutes")) = some false) = true)), (of_decide_eq_true (c.fact 8 11 : decide (PySem.W.kitOne K (.ref (He.ga K "TooMany")) (.ref (He.ga K "NoPlace")) = some false) = true)), (of_decide_eq_true (c.fact 8 12 : decide (PySem.W.kitOne K (.ref (He.ga K "TooMany")) (.ref (He.ga K "Taken")) = some false) = true)), (of_decide_eq_true (c.fact 8 13 : decide (PySem.W.kitOne K (.ref (He.ga K "NoName")) (.type "ValueError") = some true) = true)), (of_decide_eq_true (c.fact 8 14 : decide (PySem.W.kitOne K (.ref (He.ga K "NoMoment")) (.type "ValueError") = some true) = true)), (of_decide_eq_true (c.fact 8 15 : decide (PySem.W.kitOne K (.ref (He.ga K "NoReading")) (.type "ValueError") = some true) = true)), (of_decide_eq_true (c.fact 8 16 : decide (PySem.W.kitOne K (.ref (He.ga K "NoEntry")) (.type "ValueError") = some true) = true)), (of_decide_eq_true (c.fact 8 17 : decide (PySem.W.kitOne K (.ref (He.ga K "TooMany")) (.type "ValueError") = some true) = true)), (of_decide_eq_true (c.fact 8 18 : decide (PySem.W.exmOne K (.ref (He.ga K "NoName")) (.ref (He.ga K "LogError")) = some true) = true)), (of_decide_eq_true (c.fact 8 19 : decide (PySem.W.exmOne K (.ref (He.ga K "NoMoment")) (.ref (He.ga K "LogError")) = some true) = true)), (of_decide_eq_true (c.fact 9 0 : decide (PySem.W.exmOne K (.ref (He.ga K "NoReading")) (.ref (He.ga K "LogError")) = some true) = true)), (of_decide_eq_true (c.fact 9 1 : decide (PySem.W.exmOne K (.ref (He.ga K "NoEntry")) (.ref (He.ga K "LogError")) = some true) = true)), (of_decide_eq_true (c.fact 9 2 : decide (PySem.W.exmOne K (.ref (He.ga K "TooMany")) (.ref (He.ga K "LogError")) = some true) = true)), (of_decide_eq_true (c.fact 9 3 : decide (PySem.W.kitOne K (.type "NoneType") (.ref (He.ga K "Entry")) = some false) = true)), (of_decide_eq_true (c.fact 9 4 : decide (PySem.W.kitOne K (.type "NoneType") (.ref (He.ga K "Joint")) = some false) = true)), (of_decide_eq_true (c.fact 9 5 : decide (PySem.W.kitOne K (.type "NoneType") (.ref (He.ga K "Within")) = some false) = true)), (of_decide_eq_true (c.fact 9 6 : decide (PySem.W.kitOne K (.type "NoneType") (.ref (He.ga K "Read")) = some false) = true)), (of_decide_eq_true (c.fact 9 7 : decide (PySem.W.kitOne K (.type "bool") (.ref (He.ga K "Entry")) = some false) = true)), (of_decide_eq_true (c.fact 9 8 : decide (PySem.W.kitOne K (.type "bool") (.ref (He.ga K "Joint")) = some false) = true)), (of_decide_eq_true (c.fact 9 9 : decide (PySem.W.kitOne K (.type "bool") (.ref (He.ga K "Within")) = some false) = true)), (of_decide_eq_true (c.fact 9 10 : decide (PySem.W.kitOne K (.type "bool") (.ref (He.ga K "Read")) = some false) = true)), (of_decide_eq_true (c.fact 9 11 : decide (PySem.W.kitOne K (.type "int") (.ref (He.ga K "Entry")) = some false) = true)), (of_decide_eq_true (c.fact 9 12 : decide (PySem.W.kitOne K (.type "int") (.ref (He.ga K "Joint")) = some false) = true)), (of_decide_eq_true (c.fact 9 13 : decide (PySem.W.kitOne K (.type "int") (.ref (He.ga K "Within")) = some false) = true)), (of_decide_eq_true (c.fact 9 14 : decide (PySem.W.kitOne K (.type "int") (.ref (He.ga K "Read")) = some false) = true)), (of_decide_eq_true (c.fact 9 15 : decide (PySem.W.kitOne K (.type "str") (.ref (He.ga K "Entry")) = some false) = true)), (of_decide_eq_true (c.fact 9 16 : decide (PySem.W.kitOne K (.type "str") (.ref (He.ga K "Joint")) = some false) = true)), (of_decide_eq_true (c.fact 9 17 : decide (PySem.W.kitOne K (.type "str") (.ref (He.ga K "Within")) = some false) = true)), (of_decide_eq_true (c.fact 9 18 : decide (PySem.W.kitOne K (.type "str") (.ref (He.ga K "Read")) = some false) = true)), (of_decide_eq_true (c.fact 9 19 : decide (PySem.W.kitOne K (.type "list") (.ref (He.ga K "Entry")) = some false) = true)), (of_decide_eq_true (c.fact 10 0 : decide (PySem.W.kitOne K (.type "list") (.ref (He.ga K "Joint")) = some false) = true)), (of_decide_eq_true (c.fact 10 1 : decide (PySem.W.kitOne K (.type "list") (.ref (He.ga K "Within")) = some false) = true)), (of_decide_eq_true (c.fact 10 2 : decide (PySem.W.kitOne K (.type "list") (.ref (He.ga K "Read")) = some false) = true)), (of_decide_eq_true (c.fact 10 3 : decide (PySem.W.kitOne K (.type "tuple") (.ref (He.ga K "Entry")) = some false) = true)), (of_decide_eq_true (c.fact 10 4 : decide (PySem.W.kitOne K (.type "tuple") (.ref (He.ga K "Joint")) = some false) = true)), (of_decide_eq_true (c.fact 10 5 : decide (PySem.W.kitOne K (.type "tuple") (.ref (He.ga K "Within")) = some false) = true)), (of_decide_eq_true (c.fact 10 6 : decide (PySem.W.kitOne K (.type "tuple") (.ref (He.ga K "Read")) = some false) = true)), (of_decide_eq_true (c.fact 10 7 : decide (PySem.W.kitOne K (.type "dict") (.ref (He.ga K "Entry")) = some false) = true)), (of_decide_eq_true (c.fact 10 8 : decide (PySem.W.kitOne K (.type "dict") (.ref (He.ga K "Joint")) = some false) = true)), (of_decide_eq_true (c.fact 10 9 : decide (PySem.W.kitOne K (.type "dict") (.ref (He.ga K "Within")) = some false) = true)), (of_decide_eq_true (c.fact 10 10 : decide (PySem.W.kitOne K (.type "dict") (.ref (He.ga K "Read")) = some false) = true)), (of_decide_eq_true (c.fact 10 11 : decide (PySem.W.kitOne K (.ref (He.ga K "Entry")) (.type "list") = some false) = true)), (of_decide_eq_true (c.fact 10 12 : decide (PySem.W.kitOne K (.ref (He.ga K "Entry")) (.type "bool") = some false) = true)), (of_decide_eq_true (c.fact 10 13 : decide (PySem.W.kitOne K (.ref (He.ga K "Within")) (.type "list") = some false) = true)), (of_decide_eq_true (c.fact 10 14 : decide (PySem.W.kitOne K (.ref (He.ga K "Within")) (.type "bool") = some false) = true)), (of_decide_eq_true (c.fact 10 15 : decide (PySem.W.kitOne K (.ref (He.ga K "At")) (.type "list") = some false) = true)), (of_decide_eq_true (c.fact 10 16 : decide (PySem.W.kitOne K (.ref (He.ga K "At")) (.type "bool") = some false) = true)), (of_decide_eq_true (c.fact 10 17 : decide (PySem.W.kitOne K (.ref (He.ga K "Between")) (.type "list") = some false) = true)), (of_decide_eq_true (c.fact 10 18 : decide (PySem.W.kitOne K (.ref (He.ga K "Between")) (.type "bool") = some false) = true)), (of_decide_eq_true (c.fact 10 19 : decide (PySem.W.kitOne K (.ref (He.ga K "Read")) (.type "list") = some false) = true)), (of_decide_eq_true (c.fact 11 0 : decide (PySem.W.kitOne K (.ref (He.ga K "Read")) (.type "bool") = some false) = true)), (of_decide_eq_true (c.fact 11 1 : decide (PySem.W.kitOne K (.ref (He.ga K "Joint")) (.type "list") = some false) = true)), (of_decide_eq_true (c.fact 11 2 : decide (PySem.W.kitOne K (.ref (He.ga K "Joint")) (.type "bool") = some false) = true)), (of_decide_eq_true (c.fact 11 3 : decide (PySem.W.kitOne K (.ref (He.ga K "Sifted")) (.type "list") = some false) = true)), (of_decide_eq_true (c.fact 11 4 : decide (PySem.W.kitOne K (.ref (He.ga K "Sifted")) (.type "bool") = some false) = true)), (of_decide_eq_true (c.fact 11 5 : decide (PySem.W.findIn K (.ref (He.ga K "Entry")) "__eq__" = some (some (.builtin "object.__eq__"))) = true)), (of_decide_eq_true (c.fact 0 12 : decide (PySem.W.mroIn K (He.ga K "Entry") (.type "object") = some true) = true)), (of_decide_eq_true (c.fact 11 6 : decide (PySem.W.findIn K (.ref (He.ga K "Within")) "__eq__" = some (some (.builtin "object.__eq__"))) = true)), (of_decide_eq_true (c.fact 1 3 : decide (PySem.W.mroIn K (He.ga K "Within") (.type "object") = some true) = true)), (of_decide_eq_true (c.fact 11 7 : decide (PySem.W.findIn K (.ref (He.ga K "At")) "__eq__" = some (some (.builtin "object.__eq__"))) = true)), (of_decide_eq_true (c.fact 1 14 : decide (PySem.W.mroIn K (He.ga K "At") (.type "object") = some true) = true)), (of_decide_eq_true (c.fact 11 8 : decide (PySem.W.findIn K (.ref (He.ga K "Between")) "__eq__" = some (some (.builtin "object.__eq__"))) = true)), (of_decide_eq_true (c.fact 2 5 : decide (PySem.W.mroIn K (He.ga K "Between") (.type "object") = some true) = true)), (of_decide_eq_true (c.fact 11 9 : decide (PySem.W.findIn K (.ref (He.ga K "Read")) "__eq__" = some (some (.builtin "object.__eq__"))) = true)), (of_decide_eq_true (c.fact 2 16 : decide (PySem.W.mroIn K (He.ga K "Read") (.type "object") = some true) = true)), (of_decide_eq_true (c.fact 11 10 : decide (PySem.W.findIn K (.ref (He.ga K "Joint")) "__eq__" = some (some (.builtin "object.__eq__"))) = true)), (of_decide_eq_true (c.fact 3 7 : decide (PySem.W.mroIn K (He.ga K "Joint") (.type "object") = some true) = true)), (of_decide_eq_true (c.fact 11 11 : decide (PySem.W.findIn K (.ref (He.ga K "Sifted")) "__eq__" = some (some (.builtin "object.__eq__"))) = true)), (of_decide_eq_true (c.fact 3 18 : decide (PySem.W.mroIn K (He.ga K "Sifted") (.type "object") = some true) = true)), He.free_ok X G (c.fact 11 12 : He.Fa.ok K (.free "ValueError") = true), He.free_ok X G (c.fact 11 13 : He.Fa.ok K (.free "all") = true), He.free_ok X G (c.fact 11 14 : He.Fa.ok K (.free "bool") = true), He.free_ok X G (c.fact 11 15 : He.Fa.ok K (.free "enumerate") = true), He.free_ok X G (c.fact 11 16 : He.Fa.ok K (.free "int") = true), He.free_ok X G (c.fact 11 17 : He.Fa.ok K (.free "isinstance") = true), He.free_ok X G (c.fact 11 18 : He.Fa.ok K (.free "len") = true), He.free_ok X G (c.fact 11 19 : He.Fa.ok K (.free "list") = true), He.free_ok X G (c.fact 12 0 : He.Fa.ok K (.free "max") = true), He.free_ok X G (c.fact 12 1 : He.Fa.ok K (.free "min") = true), He.free_ok X G (c.fact 12 2 : He.Fa.ok K (.free "range") = true), He.free_ok X G (c.fact 12 3 : He.Fa.ok K (.free "str") = true), Hk.con_ok X G (c.fact 12 4 : Hk.conB K "FARTHEST_READING" (.int 10000000000) = true), Hk.con_ok X G (c.fact 12 5 : Hk.conB K "LAST" (.int 1000000000) = true), Hk.con_ok X G (c.fact 12 6 : Hk.conB K "LETTERS" (.str (Str.ofString "abcdefghijklmnopqrstuvwxyz")) = true), Hk.con_ok X G (c.fact 12 7 : Hk.conB K "LONGEST_NAME" (.int 8) = true), Hk.con_ok X G (c.fact 12 8 : Hk.conB K "MOST_PARTS" (.int 8) = true), Hk.con_ok X G (c.fact 12 9 : Hk.conB K "MOST_SIFTED" (.int 1000) = true), (of_decide_eq_true (c.fact 12 10 : decide (PySem.W.kitOne K (.ref (He.ga K "Entry")) (.ref (He.ga K "Within")) = some false) = true)), (of_decide_eq_true (c.fact 12 11 : decide (PySem.W.kitOne K (.ref (He.ga K "Entry")) (.ref (He.ga K "At")) = some false) = true)), (of_decide_eq_true (c.fact 12 12 : decide (PySem.W.kitOne K (.ref (He.ga K "Entry")) (.ref (He.ga K "Between")) = some false) = true)), (of_decide_eq_true (c.fact 12 13 : decide (PySem.W.kitOne K (.ref (He.ga K "Entry")) (.ref (He.ga K "Read")) = some false) = true)), (of_decide_eq_true (c.fact 12 14 : decide (PySem.W.kitOne K (.ref (He.ga K "Entry")) (.ref (He.ga K "Joint")) = some false) = true)), (of_decide_eq_true (c.fact 12 15 : decide (PySem.W.kitOne K (.ref (He.ga K "Entry")) (.ref (He.ga K "Sifted")) = some false) = true)), (of_decide_eq_true (c.fact 12 16 : decide (PySem.W.kitOne K (.ref (He.ga K "Within")) (.ref (He.ga K "Entry")) = some true) = true)), (of_decide_eq_true (c.fact 12 17 : decide (PySem.W.kitOne K (.ref (He.ga K "Within")) (.ref (He.ga K "At")) = some false) = true)), (of_decide_eq_true (c.fact 12 18 : decide (PySem.W.kitOne K (.ref (He.ga K "Within")) (.ref (He.ga K "Between")) = some false) = true)), (of_decide_eq_true (c.fact 12 19 : decide (PySem.W.kitOne K (.ref (He.ga K "Within")) (.ref (He.ga K "Read")) = some false) = true)), (of_decide_eq_true (c.fact 13 0 : decide (PySem.W.kitOne K (.ref (He.ga K "Within")) (.ref (He.ga K "Joint")) = some false) = true)), (of_decide_eq_true (c.fact 13 1 : decide (PySem.W.kitOne K (.ref (He.ga K "Within")) (.ref (He.ga K "Sifted")) = some false) = true)), (of_decide_eq_true (c.fact 13 2 : decide (PySem.W.kitOne K (.ref (He.ga K "At")) (.ref (He.ga K "Entry")) = some true) = true)), (of_decide_eq_true (c.fact 13 3 : decide (PySem.W.kitOne K (.ref (He.ga K "At")) (.ref (He.ga K "Within")) = some true) = true)), (of_decide_eq_true (c.fact 13 4 : decide (PySem.W.kitOne K (.ref (He.ga K "At")) (.ref (He.ga K "Between")) = some false) = true)), (of_decide_eq_true (c.fact 13 5 : decide (PySem.W.kitOne K (.ref (He.ga K "At")) (.ref (He.ga K "Read")) = some false) = true)), (of_decide_eq_true (c.fact 13 6 : decide (PySem.W.kitOne K (.ref (He.ga K "At")) (.ref (He.ga K "Joint")) = some false) = true)), (of_decide_eq_true (c.fact 13 7 : decide (PySem.W.kitOne K (.ref (He.ga K "At")) (.ref (He.ga K "Sifted")) = some false) = true)), (of_decide_eq_true (c.fact 13 8 : decide (PySem.W.kitOne K (.ref (He.ga K "Between")) (.ref (He.ga K "Entry")) = some true) = true)), (of_decide_eq_true (c.fact 13 9 : decide (PySem.W.kitOne K (.ref (He.ga K "Between")) (.ref (He.ga K "Within")) = some false) = true)), (of_decide_eq_true (c.fact 13 10 : decide (PySem.W.kitOne K (.ref (He.ga K "Between")) (.ref (He.ga K "At")) = some false) = true)), (of_decide_eq_true (c.fact 13 11 : decide (PySem.W.kitOne K (.ref (He.ga K "Between")) (.ref (He.ga K "Read")) = some false) = true)), (of_decide_eq_true (c.fact 13 12 : decide (PySem.W.kitOne K (.ref (He.ga K "Between")) (.ref (He.ga K "Joint")) = some false) = true)), (of_decide_eq_true (c.fact 13 13 : decide (PySem.W.kitOne K (.ref (He.ga K "Between")) (.ref (He.ga K "Sifted")) = some false) = true)), (of_decide_eq_true (c.fact 13 14 : decide (PySem.W.kitOne K (.ref (He.ga K "Read")) (.ref (He.ga K "Entry")) = some true) = true)), (of_decide_eq_true (c.fact 13 15 : decide (PySem.W.kitOne K (.ref (He.ga K "Read")) (.ref (He.ga K "Within")) = some false) = true)), (of_decide_eq_true (c.fact 13 16 : decide (PySem.W.kitOne K (.ref (He.ga K "Read")) (.ref (He.ga K "At")) = some false) = true)), (of_decide_eq_true (c.fact 13 17 : decide (PySem.W.kitOne K (.ref (He.ga K "Read")) (.ref (He.ga K "Between")) = some true) = true)), (of_decide_eq_true (c.fact 13 18 : decide (PySem.W.kitOne K (.ref (He.ga K "Read")) (.ref (He.ga K "Joint")) = some false) = true)), (of_decide_eq_true (c.fact 13 19 : decide (PySem.W.kitOne K (.ref (He.ga K "Read")) (.ref (He.ga K "Sifted")) = some false) = true)), (of_decide_eq_true (c.fact 14 0 : decide (PySem.W.kitOne K (.ref (He.ga K "Joint")) (.ref (He.ga K "Entry")) = some true) = true)), (of_decide_eq_true (c.fact 14 1 : decide (PySem.W.kitOne K (.ref (He.ga K "Joint")) (.ref (He.ga K "Within")) = some false) = true)), (of_decide_eq_true (c.fact 14 2 : decide (PySem.W.kitOne K (.ref (He.ga K "Joint")) (.ref (He.ga K "At")) = some false) = true)), (of_decide_eq_true (c.fact 14 3 : decide (PySem.W.kitOne K (.ref (He.ga K "Joint")) (.ref (He.ga K "Between")) = some false) = true)), (of_decide_eq_true (c.fact 14 4 : decide (PySem.W.kitOne K (.ref (He.ga K "Joint")) (.ref (He.ga K "Read")) = some false) = true)), (of_decide_eq_true (c.fact 14 5 : decide (PySem.W.kitOne K (.ref (He.ga K "Joint")) (.ref (He.ga K "Sifted")) = some false) = true)), (of_decide_eq_true (c.fact 14 6 : decide (PySem.W.kitOne K (.ref (He.ga K "Sifted")) (.ref (He.ga K "Entry")) = some true) = true)), (of_decide_eq_true (c.fact 14 7 : decide (PySem.W.kitOne K (.ref (He.ga K "Sifted")) (.ref (He.ga K "Within")) = some false) = true)), (of_decide_eq_true (c.fact 14 8 : decide (PySem.W.kitOne K (.ref (He.ga K "Sifted")) (.ref (He.ga K "At")) = some false) = true)), (of_decide_eq_true (c.fact 14 9 : decide (PySem.W.kitOne K (.ref (He.ga K "Sifted")) (.ref (He.ga K "Between")) = some false) = true)), (of_decide_eq_true (c.fact 14 10 : decide (PySem.W.kitOne K (.ref (He.ga K "Sifted")) (.ref (He.ga K "Read")) = some false) = true)), (of_decide_eq_true (c.fact 14 11 : decide (PySem.W.kitOne K (.ref (He.ga K "Sifted")) (.ref (He.ga K "Joint")) = some false) = true))⟩
  obtain ⟨oc_law, od_law, sl_law, kv_law, dc_law, pm_law, an_law, cd_law, ct_law, l_law, d_law⟩ := c.def_ 31 (d := ⟨("law", none), "law", "law", defArgs s_law, defBody s_law, defScope s_law⟩) rfl
  refine ⟨PySem.W.fnOf "law" "law" (defArgs s_law) (defBody s_law) (defScope s_law) .none kv_law dc_law pm_law an_law cd_law ct_law, fun s v => .of_eq rfl, fun base _ _ => ?_⟩
  obtain ⟨oc_is_whole, od_is_whole, sl_is_whole, kv_is_whole, dc_is_whole, pm_is_whole, an_is_whole, cd_is_whole, ct_is_whole, l_is_whole, d_is_whole⟩ := c.def_ 0 (d := ⟨("is_whole", none), "is_whole", "is_whole", defArgs s_is_whole, defBody s_is_whole, defScope s_is_whole⟩) rfl
  have F_is_whole := fun_mk (st := s_is_whole) l_is_whole d_is_whole (c.fact 14 12 : PySem.W.keepIn K (.ref (He.fAd K ("is_whole", none))) = true)
  have G_is_whole := ok_is_whole (P := l.prog) (ww := ww) (base := base) F_is_whole T 
  have c_is_whole : Fnc l.prog ww K mg base CX0 1 "is_whole" (pr3 (p_is_whole)) := ⟨_, _, _, G_is_whole, He.glo_ok X G (c.fact 14 13 : He.Fa.ok K (.glo "is_whole") = true), (c.fact 14 12 : PySem.W.keepIn K (.ref (He.fAd K ("is_whole", none))) = true), F_is_whole.binds (ps := ["thing", "low", "high"]) fun _ _ _ _ _ _ us hl => match us, hl with | [_, _, _], _ => rfl⟩
  obtain ⟨oc_is_moment, od_is_moment, sl_is_moment, kv_is_moment, dc_is_moment, pm_is_moment, an_is_moment, cd_is_moment, ct_is_moment, l_is_moment, d_is_moment⟩ := c.def_ 1 (d := ⟨("is_moment", none), "is_moment", "is_moment", defArgs s_is_moment, defBody s_is_moment, defScope s_is_moment⟩) rfl
  have F_is_moment := fun_mk (st := s_is_moment) l_is_moment d_is_moment (c.fact 14 14 : PySem.W.keepIn K (.ref (He.fAd K ("is_moment", none))) = true)
  have G_is_moment := ok_is_moment (P := l.prog) (ww := ww) (base := base) F_is_moment T c_is_whole
  have c_is_moment : Fnc l.prog ww K mg base CX0 2 "is_moment" (pr1 (p_is_moment)) := ⟨_, _, _, G_is_moment, He.glo_ok X G (c.fact 14 15 : He.Fa.ok K (.glo "is_moment") = true), (c.fact 14 14 : PySem.W.keepIn K (.ref (He.fAd K ("is_moment", none))) = true), F_is_moment.binds (ps := ["thing"]) fun _ _ _ _ _ _ us hl => match us, hl with | [_], _ => rfl⟩
  obtain ⟨oc_is_reading, od_is_reading, sl_is_reading, kv_is_reading, dc_is_reading, pm_is_reading, an_is_reading, cd_is_reading, ct_is_reading, l_is_reading, d_is_reading⟩ := c.def_ 2 (d := ⟨("is_reading", none), "is_reading", "is_reading", defArgs s_is_reading, defBody s_is_reading, defScope s_is_reading⟩) rfl
  have F_is_reading := fun_mk (st := s_is_reading) l_is_reading d_is_reading (c.fact 14 16 : PySem.W.keepIn K (.ref (He.fAd K ("is_reading", none))) = true)
  have G_is_reading := ok_is_reading (P := l.prog) (ww := ww) (base := base) F_is_reading T c_is_whole
  have c_is_reading : Fnc l.prog ww K mg base CX0 2 "is_reading" (pr1 (p_is_reading)) := ⟨_, _, _, G_is_reading, He.glo_ok X G (c.fact 14 17 : He.Fa.ok K (.glo "is_reading") = true), (c.fact 14 16 : PySem.W.keepIn K (.ref (He.fAd K ("is_reading", none))) = true), F_is_reading.binds (ps := ["thing"]) fun _ _ _ _ _ _ us hl => match us, hl with | [_], _ => rfl⟩
  obtain ⟨oc_NoReading_init, od_NoReading_init, sl_NoReading_init, kv_NoReading_init, dc_NoReading_init, pm_NoReading_init, an_NoReading_init, cd_NoReading_init, ct_NoReading_init, l_NoReading_init, d_NoReading_init⟩ := c.def_ 3 (d := ⟨("NoReading", some "__init__"), "__init__", "NoReading.__init__", defArgs s_NoReading_init, defBody s_NoReading_init, defScope s_NoReading_init⟩) rfl
  have F_NoReading_init := fun_mk (st := s_NoReading_init) l_NoReading_init d_NoReading_init (c.fact 14 18 : PySem.W.keepIn K (.ref (He.fAd K ("NoReading", some "__init__"))) = true)
  have G_NoReading_init := ok_NoReading_init (P := l.prog) (ww := ww) (base := base) F_NoReading_init T 
  have c_NoReading_init : Mxr l.prog ww K mg base (He.ga K "NoReading") 1 (pr2 (p_NoReading_init (He.ga K "NoReading"))) := ⟨_, _, _, G_NoReading_init, T.oex_NoReading, (of_decide_eq_true (c.fact 14 19 : decide (PySem.W.findIn K (.ref (He.ga K "NoReading")) "__init__" = some (some (.ref (He.fAd K ("NoReading", some "__init__"))))) = true)), (of_decide_eq_true (c.fact 15 0 : decide (PySem.W.typeIn K (.ref (He.fAd K ("NoReading", some "__init__"))) = some (.type "function")) = true)), F_NoReading_init.binds (ps := ["self", "found"]) fun _ _ _ _ _ _ us hl => match us, hl with | [_, _], _ => rfl⟩
  obtain ⟨oc_is_name, od_is_name, sl_is_name, kv_is_name, dc_is_name, pm_is_name, an_is_name, cd_is_name, ct_is_name, l_is_name, d_is_name⟩ := c.def_ 4 (d := ⟨("is_name", none), "is_name", "is_name", defArgs s_is_name, defBody s_is_name, defScope s_is_name⟩) rfl
  have F_is_name := fun_mk (st := s_is_name) l_is_name d_is_name (c.fact 15 1 : PySem.W.keepIn K (.ref (He.fAd K ("is_name", none))) = true)
  have G_is_name := ok_is_name (P := l.prog) (ww := ww) (base := base) F_is_name T 
  have c_is_name : Fnc l.prog ww K mg base CX0 1 "is_name" (pr1 (p_is_name)) := ⟨_, _, _, G_is_name, He.glo_ok X G (c.fact 15 2 : He.Fa.ok K (.glo "is_name") = true), (c.fact 15 1 : PySem.W.keepIn K (.ref (He.fAd K ("is_name", none))) = true), F_is_name.binds (ps := ["thing"]) fun _ _ _ _ _ _ us hl => match us, hl with | [_], _ => rfl⟩
  obtain ⟨oc_NoName_init, od_NoName_init, sl_NoName_init, kv_NoName_init, dc_NoName_init, pm_NoName_init, an_NoName_init, cd_NoName_init, ct_NoName_init, l_NoName_init, d_NoName_init⟩ := c.def_ 5 (d := ⟨("NoName", some "__init__"), "__init__", "NoName.__init__", defArgs s_NoName_init, defBody s_NoName_init, defScope s_NoName_init⟩) rfl
  have F_NoName_init := fun_mk (st := s_NoName_init) l_NoName_init d_NoName_init (c.fact 15 3 : PySem.W.keepIn K (.ref (He.fAd K ("NoName", some "__init__"))) = true)
  have G_NoName_init := ok_NoName_init (P := l.prog) (ww := ww) (base := base) F_NoName_init T 
  have c_NoName_init : Mxr l.prog ww K mg base (He.ga K "NoName") 1 (pr2 (p_NoName_init (He.ga K "NoName"))) := ⟨_, _, _, G_NoName_init, T.oex_NoName, (of_decide_eq_true (c.fact 15 4 : decide (PySem.W.findIn K (.ref (He.ga K "NoName")) "__init__" = some (some (.ref (He.fAd K ("NoName", some "__init__"))))) = true)), (of_decide_eq_true (c.fact 15 5 : decide (PySem.W.typeIn K (.ref (He.fAd K ("NoName", some "__init__"))) = some (.type "function")) = true)), F_NoName_init.binds (ps := ["self", "found"]) fun _ _ _ _ _ _ us hl => match us, hl with | [_, _], _ => rfl⟩
  obtain ⟨oc_NoPlace_init, od_NoPlace_init, sl_NoPlace_init, kv_NoPlace_init, dc_NoPlace_init, pm_NoPlace_init, an_NoPlace_init, cd_NoPlace_init, ct_NoPlace_init, l_NoPlace_init, d_NoPlace_init⟩ := c.def_ 6 (d := ⟨("NoPlace", some "__init__"), "__init__", "NoPlace.__init__", defArgs s_NoPlace_init, defBody s_NoPlace_init, defScope s_NoPlace_init⟩) rfl
  have F_NoPlace_init := fun_mk (st := s_NoPlace_init) l_NoPlace_init d_NoPlace_init (c.fact 15 6 : PySem.W.keepIn K (.ref (He.fAd K ("NoPlace", some "__init__"))) = true)
  have G_NoPlace_init := ok_NoPlace_init (P := l.prog) (ww := ww) (base := base) F_NoPlace_init T 
  have c_NoPlace_init : Mxr l.prog ww K mg base (He.ga K "NoPlace") 1 (pr2 (p_NoPlace_init (He.ga K "NoPlace"))) := ⟨_, _, _, G_NoPlace_init, T.oex_NoPlace, (of_decide_eq_true (c.fact 15 7 : decide (PySem.W.findIn K (.ref (He.ga K "NoPlace")) "__init__" = some (some (.ref (He.fAd K ("NoPlace", some "__init__"))))) = true)), (of_decide_eq_true (c.fact 15 8 : decide (PySem.W.typeIn K (.ref (He.fAd K ("NoPlace", some "__init__"))) = some (.type "function")) = true)), F_NoPlace_init.binds (ps := ["self", "found"]) fun _ _ _ _ _ _ us hl => match us, hl with | [_, _], _ => rfl⟩
  obtain ⟨oc_NoMoment_init, od_NoMoment_init, sl_NoMoment_init, kv_NoMoment_init, dc_NoMoment_init, pm_NoMoment_init, an_NoMoment_init, cd_NoMoment_init, ct_NoMoment_init, l_NoMoment_init, d_NoMoment_init⟩ := c.def_ 7 (d := ⟨("NoMoment", some "__init__"), "__init__", "NoMoment.__init__", defArgs s_NoMoment_init, defBody s_NoMoment_init, defScope s_NoMoment_init⟩) rfl
  have F_NoMoment_init := fun_mk (st := s_NoMoment_init) l_NoMoment_init d_NoMoment_init (c.fact 15 9 : PySem.W.keepIn K (.ref (He.fAd K ("NoMoment", some "__init__"))) = true)
  have G_NoMoment_init := ok_NoMoment_init (P := l.prog) (ww := ww) (base := base) F_NoMoment_init T 
  have c_NoMoment_init : Mxr l.prog ww K mg base (He.ga K "NoMoment") 1 (pr2 (p_NoMoment_init (He.ga K "NoMoment"))) := ⟨_, _, _, G_NoMoment_init, T.oex_NoMoment, (of_decide_eq_true (c.fact 15 10 : decide (PySem.W.findIn K (.ref (He.ga K "NoMoment")) "__init__" = some (some (.ref (He.fAd K ("NoMoment", some "__init__"))))) = true)), (of_decide_eq_true (c.fact 15 11 : decide (PySem.W.typeIn K (.ref (He.fAd K ("NoMoment", some "__init__"))) = some (.type "function")) = true)), F_NoMoment_init.binds (ps := ["self", "found"]) fun _ _ _ _ _ _ us hl => match us, hl with | [_, _], _ => rfl⟩
  obtain ⟨oc_Entry_init, od_Entry_init, sl_Entry_init, kv_Entry_init, dc_Entry_init, pm_Entry_init, an_Entry_init, cd_Entry_init, ct_Entry_init, l_Entry_init, d_Entry_init⟩ := c.def_ 8 (d := ⟨("Entry", some "__init__"), "__init__", "Entry.__init__", defArgs s_Entry_init, defBody s_Entry_init, defScope s_Entry_init⟩) rfl
  have F_Entry_init := fun_mk (st := s_Entry_init) l_Entry_init d_Entry_init (c.fact 15 12 : PySem.W.keepIn K (.ref (He.fAd K ("Entry", some "__init__"))) = true)
  have G_Entry_init := ok_Entry_init (P := l.prog) (ww := ww) (base := base) F_Entry_init T c_NoName_init c_is_name
  have c_Entry_init : Mkr l.prog ww K mg base (L2.CX l.prog ww) (He.ga K "Entry") 3 (pr2 (p_Entry_init K (He.ga K "NoName"))) := ⟨_, _, _, G_Entry_init, He.mkr_ok (c.fact 15 13 : He.Fa.ok K (.mkr "Entry") = true), F_Entry_init.binds (ps := ["self", "name"]) fun _ _ _ _ _ _ us hl => match us, hl with | [_, _], _ => rfl⟩
  have b_Entry_init : Bin l.prog ww K mg base (L2.CX l.prog ww) (He.ga K "Entry") 3 (pr2 (p_Entry_init K (He.ga K "NoName"))) := ⟨_, _, _, G_Entry_init, (c.fact 15 14 : PySem.W.readsIn K (He.ga K "Entry") (.type "type") = true), (of_decide_eq_true (c.fact 15 15 : decide (PySem.W.specialIn K (.ref (He.ga K "Entry")) "__getattribute__" = some (some (.builtin "type.__getattribute__"))) = true)), Hk.fc_ok (c.fact 15 16 : Hk.fcB K (He.ga K "Entry") "__init__" (.ref (He.fAd K ("Entry", some "__init__"))) = true), (c.fact 15 12 : PySem.W.keepIn K (.ref (He.fAd K ("Entry", some "__init__"))) = true), F_Entry_init.binds (ps := ["self", "name"]) fun _ _ _ _ _ _ us hl => match us, hl with | [_, _], _ => rfl⟩
  obtain ⟨oc_Within_init, od_Within_init, sl_Within_init, kv_Within_init, dc_Within_init, pm_Within_init, an_Within_init, cd_Within_init, ct_Within_init, l_Within_init, d_Within_init⟩ := c.def_ 9 (d := ⟨("Within", some "__init__"), "__init__", "Within.__init__", defArgs s_Within_init, defBody s_Within_init, defScope s_Within_init⟩) rfl
  have F_Within_init := fun_mk (st := s_Within_init) l_Within_init d_Within_init (c.fact 15 17 : PySem.W.keepIn K (.ref (He.fAd K ("Within", some "__init__"))) = true)
  have G_Within_init := ok_Within_init (P := l.prog) (ww := ww) (base := base) F_Within_init T c_NoMoment_init c_is_moment b_Entry_init
  have c_Within_init : Mkr l.prog ww K mg base (L2.CX l.prog ww) (He.ga K "Within") 4 (pr4 (p_Within_init K (He.ga K "NoName") (He.ga K "NoMoment"))) := ⟨_, _, _, G_Within_init, He.mkr_ok (c.fact 15 18 : He.Fa.ok K (.mkr "Within") = true), F_Within_init.binds (ps := ["self", "name", "low", "high"]) fun _ _ _ _ _ _ us hl => match us, hl with | [_, _, _, _], _ => rfl⟩
  have b_Within_init : Bin l.prog ww K mg base (L2.CX l.prog ww) (He.ga K "Within") 4 (pr4 (p_Within_init K (He.ga K "NoName") (He.ga K "NoMoment"))) := ⟨_, _, _, G_Within_init, (c.fact 15 19 : PySem.W.readsIn K (He.ga K "Within") (.type "type") = true), (of_decide_eq_true (c.fact 16 0 : decide (PySem.W.specialIn K (.ref (He.ga K "Within")) "__getattribute__" = some (some (.builtin "type.__getattribute__"))) = true)), Hk.fc_ok (c.fact 16 1 : Hk.fcB K (He.ga K "Within") "__init__" (.ref (He.fAd K ("Within", some "__init__"))) = true), (c.fact 15 17 : PySem.W.keepIn K (.ref (He.fAd K ("Within", some "__init__"))) = true), F_Within_init.binds (ps := ["self", "name", "low", "high"]) fun _ _ _ _ _ _ us hl => match us, hl with | [_, _, _, _], _ => rfl⟩
  obtain ⟨oc_At_init, od_At_init, sl_At_init, kv_At_init, dc_At_init, pm_At_init, an_At_init, cd_At_init, ct_At_init, l_At_init, d_At_init⟩ := c.def_ 10 (d := ⟨("At", some "__init__"), "__init__", "At.__init__", defArgs s_At_init, defBody s_At_init, defScope s_At_init⟩) rfl
  have F_At_init := fun_mk (st := s_At_init) l_At_init d_At_init (c.fact 16 2 : PySem.W.keepIn K (.ref (He.fAd K ("At", some "__init__"))) = true)
  have G_At_init := ok_At_init (P := l.prog) (ww := ww) (base := base) F_At_init T b_Within_init
  have c_At_init : Mkr l.prog ww K mg base (L2.CX l.prog ww) (He.ga K "At") 5 (pr3 (p_At_init K (He.ga K "NoName") (He.ga K "NoMoment"))) := ⟨_, _, _, G_At_init, He.mkr_ok (c.fact 16 3 : He.Fa.ok K (.mkr "At") = true), F_At_init.binds (ps := ["self", "name", "moment"]) fun _ _ _ _ _ _ us hl => match us, hl with | [_, _, _], _ => rfl⟩
  obtain ⟨oc_Between_init, od_Between_init, sl_Between_init, kv_Between_init, dc_Between_init, pm_Between_init, an_Between_init, cd_Between_init, ct_Between_init, l_Between_init, d_Between_init⟩ := c.def_ 11 (d := ⟨("Between", some "__init__"), "__init__", "Between.__init__", defArgs s_Between_init, defBody s_Between_init, defScope s_Between_init⟩) rfl
  have F_Between_init := fun_mk (st := s_Between_init) l_Between_init d_Between_init (c.fact 16 4 : PySem.W.keepIn K (.ref (He.fAd K ("Between", some "__init__"))) = true)
  have G_Between_init := ok_Between_init (P := l.prog) (ww := ww) (base := base) F_Between_init T c_NoName_init c_NoReading_init c_is_name c_is_reading b_Entry_init
  have c_Between_init : Mkr l.prog ww K mg base (L2.CX l.prog ww) (He.ga K "Between") 4 (pr5 (p_Between_init K (He.ga K "NoName") (He.ga K "NoReading"))) := ⟨_, _, _, G_Between_init, He.mkr_ok (c.fact 16 5 : He.Fa.ok K (.mkr "Between") = true), F_Between_init.binds (ps := ["self", "name", "place", "low", "high"]) fun _ _ _ _ _ _ us hl => match us, hl with | [_, _, _, _, _], _ => rfl⟩
  have b_Between_init : Bin l.prog ww K mg base (L2.CX l.prog ww) (He.ga K "Between") 4 (pr5 (p_Between_init K (He.ga K "NoName") (He.ga K "NoReading"))) := ⟨_, _, _, G_Between_init, (c.fact 16 6 : PySem.W.readsIn K (He.ga K "Between") (.type "type") = true), (of_decide_eq_true (c.fact 16 7 : decide (PySem.W.specialIn K (.ref (He.ga K "Between")) "__getattribute__" = some (some (.builtin "type.__getattribute__"))) = true)), Hk.fc_ok (c.fact 16 8 : Hk.fcB K (He.ga K "Between") "__init__" (.ref (He.fAd K ("Between", some "__init__"))) = true), (c.fact 16 4 : PySem.W.keepIn K (.ref (He.fAd K ("Between", some "__init__"))) = true), F_Between_init.binds (ps := ["self", "name", "place", "low", "high"]) fun _ _ _ _ _ _ us hl => match us, hl with | [_, _, _, _, _], _ => rfl⟩
  obtain ⟨oc_Read_init, od_Read_init, sl_Read_init, kv_Read_init, dc_Read_init, pm_Read_init, an_Read_init, cd_Read_init, ct_Read_init, l_Read_init, d_Read_init⟩ := c.def_ 12 (d := ⟨("Read", some "__init__"), "__init__", "Read.__init__", defArgs s_Read_init, defBody s_Read_init, defScope s_Read_init⟩) rfl
  have F_Read_init := fun_mk (st := s_Read_init) l_Read_init d_Read_init (c.fact 16 9 : PySem.W.keepIn K (.ref (He.fAd K ("Read", some "__init__"))) = true)
  have G_Read_init := ok_Read_init (P := l.prog) (ww := ww) (base := base) F_Read_init T b_Between_init
  have c_Read_init : Mkr l.prog ww K mg base (L2.CX l.prog ww) (He.ga K "Read") 5 (pr4 (p_Read_init K (He.ga K "NoName") (He.ga K "NoReading"))) := ⟨_, _, _, G_Read_init, He.mkr_ok (c.fact 16 10 : He.Fa.ok K (.mkr "Read") = true), F_Read_init.binds (ps := ["self", "name", "place", "reading"]) fun _ _ _ _ _ _ us hl => match us, hl with | [_, _, _, _], _ => rfl⟩
  obtain ⟨oc_TooMany_init, od_TooMany_init, sl_TooMany_init, kv_TooMany_init, dc_TooMany_init, pm_TooMany_init, an_TooMany_init, cd_TooMany_init, ct_TooMany_init, l_TooMany_init, d_TooMany_init⟩ := c.def_ 13 (d := ⟨("TooMany", some "__init__"), "__init__", "TooMany.__init__", defArgs s_TooMany_init, defBody s_TooMany_init, defScope s_TooMany_init⟩) rfl
  have F_TooMany_init := fun_mk (st := s_TooMany_init) l_TooMany_init d_TooMany_init (c.fact 16 11 : PySem.W.keepIn K (.ref (He.fAd K ("TooMany", some "__init__"))) = true)
  have G_TooMany_init := ok_TooMany_init (P := l.prog) (ww := ww) (base := base) F_TooMany_init T 
  have c_TooMany_init : Mxr l.prog ww K mg base (He.ga K "TooMany") 1 (pr2 (p_TooMany_init (He.ga K "TooMany"))) := ⟨_, _, _, G_TooMany_init, T.oex_TooMany, (of_decide_eq_true (c.fact 16 12 : decide (PySem.W.findIn K (.ref (He.ga K "TooMany")) "__init__" = some (some (.ref (He.fAd K ("TooMany", some "__init__"))))) = true)), (of_decide_eq_true (c.fact 16 13 : decide (PySem.W.typeIn K (.ref (He.fAd K ("TooMany", some "__init__"))) = some (.type "function")) = true)), F_TooMany_init.binds (ps := ["self", "many"]) fun _ _ _ _ _ _ us hl => match us, hl with | [_, _], _ => rfl⟩
  obtain ⟨oc_NoEntry_init, od_NoEntry_init, sl_NoEntry_init, kv_NoEntry_init, dc_NoEntry_init, pm_NoEntry_init, an_NoEntry_init, cd_NoEntry_init, ct_NoEntry_init, l_NoEntry_init, d_NoEntry_init⟩ := c.def_ 14 (d := ⟨("NoEntry", some "__init__"), "__init__", "NoEntry.__init__", defArgs s_NoEntry_init, defBody s_NoEntry_init, defScope s_NoEntry_init⟩) rfl
  have F_NoEntry_init := fun_mk (st := s_NoEntry_init) l_NoEntry_init d_NoEntry_init (c.fact 16 14 : PySem.W.keepIn K (.ref (He.fAd K ("NoEntry", some "__init__"))) = true)
  have G_NoEntry_init := ok_NoEntry_init (P := l.prog) (ww := ww) (base := base) F_NoEntry_init T 
  have c_NoEntry_init : Mxr l.prog ww K mg base (He.ga K "NoEntry") 1 (pr2 (p_NoEntry_init (He.ga K "NoEntry"))) := ⟨_, _, _, G_NoEntry_init, T.oex_NoEntry, (of_decide_eq_true (c.fact 16 15 : decide (PySem.W.findIn K (.ref (He.ga K "NoEntry")) "__init__" = some (some (.ref (He.fAd K ("NoEntry", some "__init__"))))) = true)), (of_decide_eq_true (c.fact 16 16 : decide (PySem.W.typeIn K (.ref (He.fAd K ("NoEntry", some "__init__"))) = some (.type "function")) = true)), F_NoEntry_init.binds (ps := ["self", "found"]) fun _ _ _ _ _ _ us hl => match us, hl with | [_, _], _ => rfl⟩
  obtain ⟨oc_Joint_init, od_Joint_init, sl_Joint_init, kv_Joint_init, dc_Joint_init, pm_Joint_init, an_Joint_init, cd_Joint_init, ct_Joint_init, l_Joint_init, d_Joint_init⟩ := c.def_ 15 (d := ⟨("Joint", some "__init__"), "__init__", "Joint.__init__", defArgs s_Joint_init, defBody s_Joint_init, defScope s_Joint_init⟩) rfl
  have F_Joint_init := fun_mk (st := s_Joint_init) l_Joint_init d_Joint_init (c.fact 16 17 : PySem.W.keepIn K (.ref (He.fAd K ("Joint", some "__init__"))) = true)
  have G_Joint_init := ok_Joint_init (P := l.prog) (ww := ww) (base := base) F_Joint_init T c_NoEntry_init c_TooMany_init b_Entry_init
  have c_Joint_init : Mkr l.prog ww K mg base (L2.CX l.prog ww) (He.ga K "Joint") 4 (pr3 (p_Joint_init K (EC.mk (He.ga K "Entry") (He.ga K "Within") (He.ga K "At") (He.ga K "Between") (He.ga K "Read") (He.ga K "Joint") (He.ga K "Sifted") kdAll noKp) (He.ga K "NoName") (He.ga K "NoMoment") (He.ga K "NoReading") (He.ga K "NoEntry") (He.ga K "TooMany"))) := ⟨_, _, _, G_Joint_init, He.mkr_ok (c.fact 16 18 : He.Fa.ok K (.mkr "Joint") = true), F_Joint_init.binds (ps := ["self", "name", "parts"]) fun _ _ _ _ _ _ us hl => match us, hl with | [_, _, _], _ => rfl⟩
  obtain ⟨oc_Sifted_init, od_Sifted_init, sl_Sifted_init, kv_Sifted_init, dc_Sifted_init, pm_Sifted_init, an_Sifted_init, cd_Sifted_init, ct_Sifted_init, l_Sifted_init, d_Sifted_init⟩ := c.def_ 16 (d := ⟨("Sifted", some "__init__"), "__init__", "Sifted.__init__", defArgs s_Sifted_init, defBody s_Sifted_init, defScope s_Sifted_init⟩) rfl
  have F_Sifted_init := fun_mk (st := s_Sifted_init) l_Sifted_init d_Sifted_init (c.fact 16 19 : PySem.W.keepIn K (.ref (He.fAd K ("Sifted", some "__init__"))) = true)
  have G_Sifted_init := ok_Sifted_init (P := l.prog) (ww := ww) (base := base) F_Sifted_init T c_NoEntry_init c_TooMany_init b_Entry_init
  have c_Sifted_init : Mkr l.prog ww K mg base (L2.CX l.prog ww) (He.ga K "Sifted") 4 (pr4 (p_Sifted_init K (EC.mk (He.ga K "Entry") (He.ga K "Within") (He.ga K "At") (He.ga K "Between") (He.ga K "Read") (He.ga K "Joint") (He.ga K "Sifted") kdAll noKp) (He.ga K "NoName") (He.ga K "NoMoment") (He.ga K "NoReading") (He.ga K "NoEntry") (He.ga K "TooMany"))) := ⟨_, _, _, G_Sifted_init, He.mkr_ok (c.fact 17 0 : He.Fa.ok K (.mkr "Sifted") = true), F_Sifted_init.binds (ps := ["self", "name", "part", "keeps"]) fun _ _ _ _ _ _ us hl => match us, hl with | [_, _, _, _], _ => rfl⟩
  obtain ⟨oc_l_cell, od_l_cell, sl_l_cell, kv_l_cell, dc_l_cell, pm_l_cell, an_l_cell, cd_l_cell, ct_l_cell, l_l_cell, d_l_cell⟩ := c.def_ 17 (d := ⟨("_law_cell", none), "_law_cell", "_law_cell", defArgs s_l_cell, defBody s_l_cell, defScope s_l_cell⟩) rfl
  have F_l_cell := fun_mk (st := s_l_cell) l_l_cell d_l_cell (c.fact 17 1 : PySem.W.keepIn K (.ref (He.fAd K ("_law_cell", none))) = true)
  have G_l_cell := ok_l_cell (P := l.prog) (ww := ww) (base := base) F_l_cell T 
  have c_l_cell : Fnc l.prog ww K mg base CX0 1 "_law_cell" (pr2 (p_l_cell K)) := ⟨_, _, _, G_l_cell, He.glo_ok X G (c.fact 17 2 : He.Fa.ok K (.glo "_law_cell") = true), (c.fact 17 1 : PySem.W.keepIn K (.ref (He.fAd K ("_law_cell", none))) = true), F_l_cell.binds (ps := ["_law_script", "_law_k"]) fun _ _ _ _ _ _ us hl => match us, hl with | [_, _], _ => rfl⟩
  obtain ⟨oc_l_mix, od_l_mix, sl_l_mix, kv_l_mix, dc_l_mix, pm_l_mix, an_l_mix, cd_l_mix, ct_l_mix, l_l_mix, d_l_mix⟩ := c.def_ 18 (d := ⟨("_law_mix", none), "_law_mix", "_law_mix", defArgs s_l_mix, defBody s_l_mix, defScope s_l_mix⟩) rfl
  have F_l_mix := fun_mk (st := s_l_mix) l_l_mix d_l_mix (c.fact 17 3 : PySem.W.keepIn K (.ref (He.fAd K ("_law_mix", none))) = true)
  have G_l_mix := ok_l_mix (P := l.prog) (ww := ww) (base := base) F_l_mix T 
  have c_l_mix : Fnc l.prog ww K mg base CX0 1 "_law_mix" (pr2 (p_l_mix)) := ⟨_, _, _, G_l_mix, He.glo_ok X G (c.fact 17 4 : He.Fa.ok K (.glo "_law_mix") = true), (c.fact 17 3 : PySem.W.keepIn K (.ref (He.fAd K ("_law_mix", none))) = true), F_l_mix.binds (ps := ["_law_cell_here", "_law_k"]) fun _ _ _ _ _ _ us hl => match us, hl with | [_, _], _ => rfl⟩
  obtain ⟨oc_l_begun, od_l_begun, sl_l_begun, kv_l_begun, dc_l_begun, pm_l_begun, an_l_begun, cd_l_begun, ct_l_begun, l_l_begun, d_l_begun⟩ := c.def_ 19 (d := ⟨("_law_begun", none), "_law_begun", "_law_begun", defArgs s_l_begun, defBody s_l_begun, defScope s_l_begun⟩) rfl
  have F_l_begun := fun_mk (st := s_l_begun) l_l_begun d_l_begun (c.fact 17 5 : PySem.W.keepIn K (.ref (He.fAd K ("_law_begun", none))) = true)
  have G_l_begun := ok_l_begun (P := l.prog) (ww := ww) (base := base) F_l_begun T 
  have c_l_begun : Fnc l.prog ww K mg base CX0 1 "_law_begun" (pr1 (p_l_begun)) := ⟨_, _, _, G_l_begun, He.glo_ok X G (c.fact 17 6 : He.Fa.ok K (.glo "_law_begun") = true), (c.fact 17 5 : PySem.W.keepIn K (.ref (He.fAd K ("_law_begun", none))) = true), F_l_begun.binds (ps := ["_law_cell_here"]) fun _ _ _ _ _ _ us hl => match us, hl with | [_], _ => rfl⟩
  obtain ⟨oc_l_pull, od_l_pull, sl_l_pull, kv_l_pull, dc_l_pull, pm_l_pull, an_l_pull, cd_l_pull, ct_l_pull, l_l_pull, d_l_pull⟩ := c.def_ 20 (d := ⟨("_law_pull", none), "_law_pull", "_law_pull", defArgs s_l_pull, defBody s_l_pull, defScope s_l_pull⟩) rfl
  have F_l_pull := fun_mk (st := s_l_pull) l_l_pull d_l_pull (c.fact 17 7 : PySem.W.keepIn K (.ref (He.fAd K ("_law_pull", none))) = true)
  have G_l_pull := ok_l_pull (P := l.prog) (ww := ww) (base := base) F_l_pull T c_l_mix
  have c_l_pull : Fnc l.prog ww K mg base CX0 2 "_law_pull" (pr2 (p_l_pull)) := ⟨_, _, _, G_l_pull, He.glo_ok X G (c.fact 17 8 : He.Fa.ok K (.glo "_law_pull") = true), (c.fact 17 7 : PySem.W.keepIn K (.ref (He.fAd K ("_law_pull", none))) = true), F_l_pull.binds (ps := ["_law_state", "_law_many"]) fun _ _ _ _ _ _ us hl => match us, hl with | [_, _], _ => rfl⟩
  obtain ⟨oc_l_keeps, od_l_keeps, sl_l_keeps, kv_l_keeps, dc_l_keeps, pm_l_keeps, an_l_keeps, cd_l_keeps, ct_l_keeps, l_l_keeps, d_l_keeps⟩ := c.def_ 21 (d := ⟨("_law_keeps", none), "_law_keeps", "_law_keeps", defArgs s_l_keeps, defBody s_l_keeps, defScope s_l_keeps⟩) rfl
  have F_l_keeps := fun_mk (st := s_l_keeps) l_l_keeps d_l_keeps (c.fact 17 9 : PySem.W.keepIn K (.ref (He.fAd K ("_law_keeps", none))) = true)
  have G_l_keeps := ok_l_keeps (P := l.prog) (ww := ww) (base := base) F_l_keeps T 
  have c_l_keeps : Fnc l.prog ww K mg base CX0 1 "_law_keeps" (pr1 (p_l_keeps)) := ⟨_, _, _, G_l_keeps, He.glo_ok X G (c.fact 17 10 : He.Fa.ok K (.glo "_law_keeps") = true), (c.fact 17 9 : PySem.W.keepIn K (.ref (He.fAd K ("_law_keeps", none))) = true), F_l_keeps.binds (ps := ["_law_moment"]) fun _ _ _ _ _ _ us hl => match us, hl with | [_], _ => rfl⟩
  obtain ⟨oc_l_made, od_l_made, sl_l_made, kv_l_made, dc_l_made, pm_l_made, an_l_made, cd_l_made, ct_l_made, l_l_made, d_l_made⟩ := c.def_ 22 (d := ⟨("_law_made", none), "_law_made", "_law_made", defArgs s_l_made, defBody s_l_made, defScope s_l_made⟩) rfl
  have F_l_made := fun_mk (st := s_l_made) l_l_made d_l_made (c.fact 17 11 : PySem.W.keepIn K (.ref (He.fAd K ("_law_made", none))) = true)
  have G_l_made := ok_l_made (P := l.prog) (ww := ww) (base := base) F_l_made T c_At_init c_Between_init c_Entry_init c_Joint_init c_Read_init c_Sifted_init c_Within_init c_l_keeps
  have c_l_made : Fnc l.prog ww K mg base (L2.CX l.prog ww) 7 "_law_made" (pr2 (p_l_made K (EC.mk (He.ga K "Entry") (He.ga K "Within") (He.ga K "At") (He.ga K "Between") (He.ga K "Read") (He.ga K "Joint") (He.ga K "Sifted") kdAll noKp) (He.ga K "NoName") (He.ga K "NoMoment") (He.ga K "NoReading") (He.ga K "NoEntry") (He.ga K "TooMany"))) := ⟨_, _, _, G_l_made, He.glo_ok X G (c.fact 17 12 : He.Fa.ok K (.glo "_law_made") = true), (c.fact 17 11 : PySem.W.keepIn K (.ref (He.fAd K ("_law_made", none))) = true), F_l_made.binds (ps := ["_law_kind", "_law_args"]) fun _ _ _ _ _ _ us hl => match us, hl with | [_, _], _ => rfl⟩
  obtain ⟨oc_l_refusal, od_l_refusal, sl_l_refusal, kv_l_refusal, dc_l_refusal, pm_l_refusal, an_l_refusal, cd_l_refusal, ct_l_refusal, l_l_refusal, d_l_refusal⟩ := c.def_ 23 (d := ⟨("_law_refusal", none), "_law_refusal", "_law_refusal", defArgs s_l_refusal, defBody s_l_refusal, defScope s_l_refusal⟩) rfl
  have F_l_refusal := fun_mk (st := s_l_refusal) l_l_refusal d_l_refusal (c.fact 17 13 : PySem.W.keepIn K (.ref (He.fAd K ("_law_refusal", none))) = true)
  have G_l_refusal := ok_l_refusal (P := l.prog) (ww := ww) (base := base) F_l_refusal T c_l_made
  have c_l_refusal : Fnc l.prog ww K mg base CX0 8 "_law_refusal" (pr2 (p_l_refusal K (EC.mk (He.ga K "Entry") (He.ga K "Within") (He.ga K "At") (He.ga K "Between") (He.ga K "Read") (He.ga K "Joint") (He.ga K "Sifted") kdAll noKp) (He.ga K "NoName") (He.ga K "NoMoment") (He.ga K "NoReading") (He.ga K "NoEntry") (He.ga K "TooMany"))) := ⟨_, _, _, G_l_refusal, He.glo_ok X G (c.fact 17 14 : He.Fa.ok K (.glo "_law_refusal") = true), (c.fact 17 13 : PySem.W.keepIn K (.ref (He.fAd K ("_law_refusal", none))) = true), F_l_refusal.binds (ps := ["_law_kind", "_law_args"]) fun _ _ _ _ _ _ us hl => match us, hl with | [_, _], _ => rfl⟩
  obtain ⟨oc_l_is, od_l_is, sl_l_is, kv_l_is, dc_l_is, pm_l_is, an_l_is, cd_l_is, ct_l_is, l_l_is, d_l_is⟩ := c.def_ 24 (d := ⟨("_law_is", none), "_law_is", "_law_is", defArgs s_l_is, defBody s_l_is, defScope s_l_is⟩) rfl
  have F_l_is := fun_mk (st := s_l_is) l_l_is d_l_is (c.fact 17 15 : PySem.W.keepIn K (.ref (He.fAd K ("_law_is", none))) = true)
  have G_l_is := ok_l_is (P := l.prog) (ww := ww) (base := base) F_l_is T 
  have c_l_is : Fnc l.prog ww K mg base CX0 1 "_law_is" (pr3 (p_l_is K)) := ⟨_, _, _, G_l_is, He.glo_ok X G (c.fact 17 16 : He.Fa.ok K (.glo "_law_is") = true), (c.fact 17 15 : PySem.W.keepIn K (.ref (He.fAd K ("_law_is", none))) = true), F_l_is.binds (ps := ["_law_told", "_law_sort", "_law_thing"]) fun _ _ _ _ _ _ us hl => match us, hl with | [_, _, _], _ => rfl⟩
  obtain ⟨oc_l_names, od_l_names, sl_l_names, kv_l_names, dc_l_names, pm_l_names, an_l_names, cd_l_names, ct_l_names, l_l_names, d_l_names⟩ := c.def_ 25 (d := ⟨("_law_names", none), "_law_names", "_law_names", defArgs s_l_names, defBody s_l_names, defScope s_l_names⟩) rfl
  have F_l_names := fun_mk (st := s_l_names) l_l_names d_l_names (c.fact 17 17 : PySem.W.keepIn K (.ref (He.fAd K ("_law_names", none))) = true)
  have G_l_names := ok_l_names (P := l.prog) (ww := ww) (base := base) F_l_names T 
  have c_l_names : Fnc l.prog ww K mg base CX0 1 "_law_names" (pr0 (p_l_names K)) := ⟨_, _, _, G_l_names, He.glo_ok X G (c.fact 17 18 : He.Fa.ok K (.glo "_law_names") = true), (c.fact 17 17 : PySem.W.keepIn K (.ref (He.fAd K ("_law_names", none))) = true), F_l_names.binds (ps := []) fun _ _ _ _ _ _ us hl => match us, hl with | [], _ => rfl⟩
  obtain ⟨oc_l_numbers, od_l_numbers, sl_l_numbers, kv_l_numbers, dc_l_numbers, pm_l_numbers, an_l_numbers, cd_l_numbers, ct_l_numbers, l_l_numbers, d_l_numbers⟩ := c.def_ 26 (d := ⟨("_law_numbers", none), "_law_numbers", "_law_numbers", defArgs s_l_numbers, defBody s_l_numbers, defScope s_l_numbers⟩) rfl
  have F_l_numbers := fun_mk (st := s_l_numbers) l_l_numbers d_l_numbers (c.fact 17 19 : PySem.W.keepIn K (.ref (He.fAd K ("_law_numbers", none))) = true)
  have G_l_numbers := ok_l_numbers (P := l.prog) (ww := ww) (base := base) F_l_numbers T 
  have c_l_numbers : Fnc l.prog ww K mg base CX0 1 "_law_numbers" (pr2 (p_l_numbers K)) := ⟨_, _, _, G_l_numbers, He.glo_ok X G (c.fact 18 0 : He.Fa.ok K (.glo "_law_numbers") = true), (c.fact 17 19 : PySem.W.keepIn K (.ref (He.fAd K ("_law_numbers", none))) = true), F_l_numbers.binds (ps := ["_law_bound", "_law_low"]) fun _ _ _ _ _ _ us hl => match us, hl with | [_, _], _ => rfl⟩
  obtain ⟨oc_l_sorts, od_l_sorts, sl_l_sorts, kv_l_sorts, dc_l_sorts, pm_l_sorts, an_l_sorts, cd_l_sorts, ct_l_sorts, l_l_sorts, d_l_sorts⟩ := c.def_ 27 (d := ⟨("_law_sorts", none), "_law_sorts", "_law_sorts", defArgs s_l_sorts, defBody s_l_sorts, defScope s_l_sorts⟩) rfl
  have F_l_sorts := fun_mk (st := s_l_sorts) l_l_sorts d_l_sorts (c.fact 18 1 : PySem.W.keepIn K (.ref (He.fAd K ("_law_sorts", none))) = true)
  have G_l_sorts := ok_l_sorts (P := l.prog) (ww := ww) (base := base) F_l_sorts T 
  have c_l_sorts : Fnc l.prog ww K mg base CX0 1 "_law_sorts" (pr1 (p_l_sorts)) := ⟨_, _, _, G_l_sorts, He.glo_ok X G (c.fact 18 2 : He.Fa.ok K (.glo "_law_sorts") = true), (c.fact 18 1 : PySem.W.keepIn K (.ref (He.fAd K ("_law_sorts", none))) = true), F_l_sorts.binds (ps := ["_law_kind"]) fun _ _ _ _ _ _ us hl => match us, hl with | [_], _ => rfl⟩
  obtain ⟨oc_l_good, od_l_good, sl_l_good, kv_l_good, dc_l_good, pm_l_good, an_l_good, cd_l_good, ct_l_good, l_l_good, d_l_good⟩ := c.def_ 28 (d := ⟨("_law_good", none), "_law_good", "_law_good", defArgs s_l_good, defBody s_l_good, defScope s_l_good⟩) rfl
  have F_l_good := fun_mk (st := s_l_good) l_l_good d_l_good (c.fact 18 3 : PySem.W.keepIn K (.ref (He.fAd K ("_law_good", none))) = true)
  have G_l_good := ok_l_good (P := l.prog) (ww := ww) (base := base) F_l_good T c_At_init c_Entry_init c_Read_init c_Within_init c_l_pull
  have c_l_good : Fnc l.prog ww K mg base CX0 7 "_law_good" (pr2 (p_l_good K (EC.mk (He.ga K "Entry") (He.ga K "Within") (He.ga K "At") (He.ga K "Between") (He.ga K "Read") (He.ga K "Joint") (He.ga K "Sifted") kdAll noKp))) := ⟨_, _, _, G_l_good, He.glo_ok X G (c.fact 18 4 : He.Fa.ok K (.glo "_law_good") = true), (c.fact 18 3 : PySem.W.keepIn K (.ref (He.fAd K ("_law_good", none))) = true), F_l_good.binds (ps := ["_law_kind", "_law_state"]) fun _ _ _ _ _ _ us hl => match us, hl with | [_, _], _ => rfl⟩
  obtain ⟨oc_l_spoilt, od_l_spoilt, sl_l_spoilt, kv_l_spoilt, dc_l_spoilt, pm_l_spoilt, an_l_spoilt, cd_l_spoilt, ct_l_spoilt, l_l_spoilt, d_l_spoilt⟩ := c.def_ 29 (d := ⟨("_law_spoilt", none), "_law_spoilt", "_law_spoilt", defArgs s_l_spoilt, defBody s_l_spoilt, defScope s_l_spoilt⟩) rfl
  have F_l_spoilt := fun_mk (st := s_l_spoilt) l_l_spoilt d_l_spoilt (c.fact 18 5 : PySem.W.keepIn K (.ref (He.fAd K ("_law_spoilt", none))) = true)
  have G_l_spoilt := ok_l_spoilt (P := l.prog) (ww := ww) (base := base) F_l_spoilt T c_At_init c_Between_init c_Entry_init c_Joint_init c_Sifted_init c_Within_init c_l_keeps c_l_names c_l_numbers
  have c_l_spoilt : Fnc l.prog ww K mg base CX0 7 "_law_spoilt" (pr4 (p_l_spoilt K (EC.mk (He.ga K "Entry") (He.ga K "Within") (He.ga K "At") (He.ga K "Between") (He.ga K "Read") (He.ga K "Joint") (He.ga K "Sifted") kdAll noKp))) := ⟨_, _, _, G_l_spoilt, He.glo_ok X G (c.fact 18 6 : He.Fa.ok K (.glo "_law_spoilt") = true), (c.fact 18 5 : PySem.W.keepIn K (.ref (He.fAd K ("_law_spoilt", none))) = true), F_l_spoilt.binds (ps := ["_law_sort", "_law_args", "_law_at", "_law_number"]) fun _ _ _ _ _ _ us hl => match us, hl with | [_, _, _, _], _ => rfl⟩
  obtain ⟨oc_l_kind_right, od_l_kind_right, sl_l_kind_right, kv_l_kind_right, dc_l_kind_right, pm_l_kind_right, an_l_kind_right, cd_l_kind_right, ct_l_kind_right, l_l_kind_right, d_l_kind_right⟩ := c.def_ 30 (d := ⟨("_law_kind_right", none), "_law_kind_right", "_law_kind_right", defArgs s_l_kind_right, defBody s_l_kind_right, defScope s_l_kind_right⟩) rfl
  have F_l_kind_right := fun_mk (st := s_l_kind_right) l_l_kind_right d_l_kind_right (c.fact 18 7 : PySem.W.keepIn K (.ref (He.fAd K ("_law_kind_right", none))) = true)
  have G_l_kind_right := ok_l_kind_right (P := l.prog) (ww := ww) (base := base) F_l_kind_right T c_l_good c_l_is c_l_pull c_l_refusal c_l_sorts c_l_spoilt
  have c_l_kind_right : Fnc l.prog ww K mg base CX0 9 "_law_kind_right" (pr2 (p_l_kind_right K (EC.mk (He.ga K "Entry") (He.ga K "Within") (He.ga K "At") (He.ga K "Between") (He.ga K "Read") (He.ga K "Joint") (He.ga K "Sifted") kdAll noKp) (He.ga K "NoName") (He.ga K "NoMoment") (He.ga K "NoReading") (He.ga K "NoEntry") (He.ga K "TooMany"))) := ⟨_, _, _, G_l_kind_right, He.glo_ok X G (c.fact 18 8 : He.Fa.ok K (.glo "_law_kind_right") = true), (c.fact 18 7 : PySem.W.keepIn K (.ref (He.fAd K ("_law_kind_right", none))) = true), F_l_kind_right.binds (ps := ["_law_kind", "_law_state"]) fun _ _ _ _ _ _ us hl => match us, hl with | [_, _], _ => rfl⟩
  have F_law := fun_mk (st := s_law) l_law d_law (c.fact 18 9 : PySem.W.keepIn K (.ref (He.fAd K ("law", none))) = true)
  have G_law := ok_law (P := l.prog) (ww := ww) (base := base) F_law T c_l_begun c_l_cell c_l_kind_right
  exact G_law
end L
open PySem PySem.W PyProof.Rows in
set_option maxRecDepth 100000 in
set_option maxHeartbeats 0 in
theorem PySem.Challenge.cw_foldlog_k34_entries_refused_holds : PySem.Challenge.rw_foldlog_k34_entries_refused.Holds := by
  w_on; o_law
  refine HandSHeadRun.head_any (r := OpenLaw.row PySem.Challenge.rw_foldlog_k34_entries_refused) (q := view (OpenLaw.row PySem.Challenge.rw_foldlog_k34_entries_refused).prog [46]) (H := L.hk) (ob := L.ob) (M := 30000) (loose := L.nms) (d := HandSHeadRun.topDef (OpenLaw.row PySem.Challenge.rw_foldlog_k34_entries_refused).prog 46) (kwd := []) L.ob_eq (by kernel_rfl) (fun s => by kernel_rfl) L.run (by kernel_rfl) (by kernel_rfl) (by kernel_rfl) (by rfl) (by first | assumption | decide +kernel) (by decide +kernel) ⟨rfl, rfl, rfl, rfl, rfl, by decide +kernel⟩ ?hw ?hc
  case hw => w_witness2
  case hc =>
    refine L2.walk_ofE (l := PySem.Challenge.rw_foldlog_k34_entries_refused) (n := 63) (k := 10) (x := "_law_script") (CX := L2.CX0) rfl (by decide) (by kernel_rfl) ⟨rfl, by decide, by decide⟩ ?F (fun _ _ _ _ z => z)
    intro w mg fa h Y G hmg0
    obtain ⟨K, KX, c⟩ := Y
    have hmg : mg ("law" : PySem.Str) = some (.ref fa) := by
      have e : (HandSHeadRun.topDef (OpenLaw.row PySem.Challenge.rw_foldlog_k34_entries_refused).prog 46).name = ("law" : PySem.Str) := by kernel_rfl
      rw [← e]
      exact hmg0
    obtain ⟨fd, hb, hF⟩ := L.all_mk (l := PySem.Challenge.rw_foldlog_k34_entries_refused) (ww := w) KX G hmg c
    exact ⟨K, fd, pr1 (L.p_law K), KX, hb, fun H a ns hl _ hS => ⟨⟨H, H, fun _ _ h => h, [], TabW.nil⟩, _, rfl, rfl, L.law_in hl hS⟩, hF⟩
#print axioms PySem.Challenge.cw_foldlog_k34_entries_refused_holds
