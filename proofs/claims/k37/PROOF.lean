import PyProof.Rows.All
import Wide.All
import OpenK.AllK
import Wide.FinOn
import KE.KStateDown
import HandS.Base
import HandS.Call
import HandS.Ends
import HandS.ExcInit
import HandS.ExcField
import HandS.ExcIs
import HandS.Head0
import HandS.Head1
import HandS.Head2
import HandS.HeadEnd
import HandS.HeadHook1
import HandS.HeadHook2
import HandS.ForMost
import HandS.Exc
import HandS.TryOnly
import HandS.ExcOwn
import HandS.WordsExc
import HandS.Flow
import HandS.Style
import HandS.IsInst
import HandS.StrMore
import HandS.SortRule
import HandS.SortInts
import HandS.Wide
import HandS.TupAny
import HandS.Walk
import KE.DataMinMax
import HandS.SortKw
import HandS.More
import HandS.Zip
import HandS.CallLocal
import HandS.Text
import HandS.Replace
import HandS.FStr
import KE.IntTextLaws
import KE.KExcIs
import HandS.DictComp
import HandS.DeepEq
import HandS.Set
import KE.KDictSum
import HandS.ExcValue
import HandS.Finally
import PyProof.Rows.TmSorted
import PyProof.Rows.StrMeet
import KE.KDictLaws
import PySem.Challenge.RW_foldlog_k37_deeds_one_behind_another
set_option Elab.async false
set_option linter.all false
set_option maxRecDepth 100000
set_option maxHeartbeats 4000000
set_option linter.all false
set_option maxRecDepth 100000
set_option maxHeartbeats 4000000
namespace Hk
open PySem PySem.Spec PyProof.Rows L2 He
abbrev Fr := PySem.W.Frag
/-- what a list of objects names -/
def nxt (g : Addr → Option Obj) (fr : List Addr) : List Addr := (fr.flatMap fun a => match g a with
  | some o => refsO o
  | none => []).eraseDups
def asB (g : Addr → Option Obj) : Nat → List Addr → List Addr
  | 0, fr => fr
  | n + 1, fr => fr ++ asB g n (nxt g fr)
def obsB (fb : List (List (Fr → Bool))) (fn : List FnD) (K : Fr) : Al := ((fb.all fun l => l.all fun f => f K) && fn.all fun d => (Fa.code d.at_ d.qual).ok K, fn.map fun d => fnObs K d.at_)
def SaysB (fb : List (List (Fr → Bool))) (fn : List FnD) (K : Fr) : Prop := obsB fb fn K = valE fn
def obsBG (n : Nat) (fb : List (List (Fr → Bool))) (fn : List FnD) (g : Addr → Option Obj) : Al := obsB fb fn (frG g (asB g n [mainGlobals] ++ [cStatics]))
def hookB (n : Nat) (fb : List (List (Fr → Bool))) (fn : List FnD) : PySem.W.Hook where
  α := Al
  obs := fun s => obsBG n fb fn s.heap.get?
  val := fun _ => valE fn
  says := fun _ h => ∃ K : Fr, K.In h ∧ SaysB fb fn K
  of := fun _ _ e => ⟨_, frG_in, e⟩
  keeps := fun _ _ _ ⟨K, hK, c⟩ k => ⟨K, PySem.W.Frag.In.keeps hK k, c⟩
theorem obsBG_eq {n : Nat} {fb : List (List (Fr → Bool))} {fn : List FnD} {g : Addr → Option Obj} {s : Shared} (h : ∀ a, g a = s.heap.get? a) : obsBG n fb fn g = (hookB n fb fn).obs s := by
  have e : g = s.heap.get? := funext h
  rw [e] <;> rfl
section
variable {fb : List (List (Fr → Bool))} {fn : List FnD} {K : Fr}
theorem SaysB.fact (c : SaysB fb fn K) (i j : Nat) {l : List (Fr → Bool)} {f : Fr → Bool} (h : fb[i]? = some l := by rfl) (h2 : l[j]? = some f := by rfl) : f K = true := by
  have c1 := (ba (show ((fb.all fun l => l.all fun f => f K) && fn.all fun d => (Fa.code d.at_ d.qual).ok K) = true from congrArg (fun z : Al => z.1) c)).1
  exact List.all_eq_true.mp (List.all_eq_true.mp c1 l (List.mem_of_getElem? h)) f (List.mem_of_getElem? h2)
theorem SaysB.def_ (c : SaysB fb fn K) (i : Nat) {d : FnD} (h : fn[i]? = some d := by rfl) :
    ∃ oc od osl kV doc pm an cdv ct, K.lookup (fAd K d.at_) = some ⟨oc, od, .func (PySem.W.fnOf d.name d.qual d.params d.body d.scope .none kV doc pm an cdv ct), osl⟩ ∧ PySem.W.codeIn K cdv d.qual = true := by
  have c2 := (ba (show ((fb.all fun l => l.all fun f => f K) && fn.all fun d => (Fa.code d.at_ d.qual).ok K) = true from congrArg (fun z : Al => z.1) c)).2
  have e : fn.map (fun d => fnObs K d.at_) = fn.map FnD.val := congrArg (fun z : Al => z.2) c
  have e2 : (fn.map fun d => fnObs K d.at_)[i]? = (fn.map FnD.val)[i]? := by rw [e]
  rw [List.getElem?_map, List.getElem?_map, h] at e2
  exact fn_ok (Option.some.inj e2) (List.all_eq_true.mp c2 d (List.mem_of_getElem? h))
end
/-- a constant of the module -/
def conB (K : Fr) (x : Str) (v : V) : Bool := match PySem.W.nsIn K mainGlobals x with
  | some (some u) => relB v u
  | _ => false
theorem con_ok {K : Fr} {h : Heap} {mg : Str → Option Value} (X : K.In h) (G : h.Ns mainGlobals mg) {x : Str} {v : V} (c : conB K x v = true) : ∃ u, mg x = some u ∧ RelV v u := by
  unfold conB at c
  cases e : PySem.W.nsIn K mainGlobals x with
  | none => rw [e] at c; cases c
  | some o =>
    rw [e] at c
    cases o with
    | none => cases c
    | some u => exact ⟨u, PySem.W.mg_of X G e, relB_ok c⟩
/-- what a class's own look-up finds -/
def fcB (K : Fr) (C : Addr) (x : Str) (v : Value) : Bool := match PySem.W.findCls K (.ref C) (.type "type") x with
  | some (.val u) => decide (u = v)
  | _ => false
theorem fc_ok {K : Fr} {C : Addr} {x : Str} {v : Value} (c : fcB K C x v = true) : PySem.W.findCls K (.ref C) (.type "type") x = some (.val v) := by
  unfold fcB at c
  split at c
  · rename_i u e
    rw [e, of_decide_eq_true c]
  · cases c
/-- an own exception class under ValueError -/
def oexB (K : Fr) (C : Addr) : Bool := (match K.lookup C with
  | some ⟨.type "type", _, .cls cd, sl⟩ => (match cd.mro, sl.toList with
    | .ref C' :: bm, [_, _, _, _, some (.builtin n), _] => C' == C && n == "ValueError.__new__" && !cd.hasDel && PySem.HandSPX.refsVE bm && cd.hasDict
    | _, _ => false)
  | _ => false) && (decide (PySem.W.findIn K (.ref C) "__setattr__" = some (some (.builtin "object.__setattr__"))) && (decide (PySem.W.subIn K (.ref C) (.type "BaseException") = some true) && (decide (PySem.W.typeIn K (.ref C) = some (.type "type")) && PySem.W.keepIn K (.ref C))))
def ecB (K : Fr) (C : Addr) : Bool := xfB K C && (decide (PySem.W.findIn K (.ref C) "__class__" = some (some (.builtin "object.__class__"))) && (decide (PySem.W.specialIn K (.builtin "object.__class__") "__get__" = some (some (.builtin "getset_descriptor.__get__"))) && (decide (PySem.W.takesIn K (.builtin "object.__class__") = some true) && decide (PySem.W.mroIn K C (.type "object") = some true))))
theorem ec_ok {K : Fr} {C : Addr} (h : ecB K C = true) : L2.ExcC K C := by
  obtain ⟨h1, h⟩ := ba h
  obtain ⟨h2, h⟩ := ba h
  obtain ⟨h3, h⟩ := ba h
  obtain ⟨h4, h5⟩ := ba h
  have x := xfB_ok h1
  exact ⟨x.ga, x.gg, x.exC, x.hdC, of_decide_eq_true h2, of_decide_eq_true h3, of_decide_eq_true h4, of_decide_eq_true h5⟩
theorem oex_ok {K : Fr} {C : Addr} (h : oexB K C = true) : OexC K C := by
  obtain ⟨h1, h⟩ := ba h
  obtain ⟨h2, h⟩ := ba h
  obtain ⟨h3, h⟩ := ba h
  obtain ⟨h4, h5⟩ := ba h
  refine ⟨?_, of_decide_eq_true h2, of_decide_eq_true h3, of_decide_eq_true h4, h5⟩
  split at h1
  · rename_i dd cd sl ho
    split at h1
    · rename_i C' bm k0 k1 k2 k3 n k5 hm hs
      simp only [Bool.and_eq_true, beq_iff_eq, Bool.not_eq_true'] at h1
      obtain ⟨⟨⟨⟨rfl, rfl⟩, hdel⟩, hb⟩, hdct⟩ := h1
      obtain ⟨nm, bs, mro, ns, qn, hd, sn, sub, ab, col, del⟩ := cd
      dsimp only at hm hdel hdct
      subst hm hdel hdct
      have hsl : sl = #[k0, k1, k2, k3, some (.builtin "ValueError.__new__"), k5] := by
        obtain ⟨l⟩ := sl
        simp only at hs
        rw [hs]
      subst hsl
      exact ⟨nm, qn, ns, bs, bm, sn, sub, ab, col, dd, k0, k1, k2, k3, k5, ho, hb⟩
    · cases h1
  · cases h1
end Hk
namespace L
open PySem PySem.Spec PyProof.Rows L2
def top (i : Nat) : Stmt := PySem.Challenge.pw_foldlog_k37_deeds_one_behind_another.main.body.getD i (.Pass ⟨0, 0, 0, 0⟩)
abbrev s_is_whole : Stmt := top 22
abbrev s_is_moment : Stmt := top 23
abbrev s_is_shift : Stmt := top 25
abbrev s_is_row : Stmt := top 45
abbrev s_fault_at : Stmt := top 46
abbrev s_is_reading : Stmt := top 24
abbrev s_is_minutes : Stmt := top 26
abbrev s_Table_init : Stmt := inClass (top 47) 0
abbrev s_joined : Stmt := top 30
abbrev s_is_stretch : Stmt := top 29
abbrev s_NoReading_init : Stmt := inClass (top 6) 0
abbrev s_Table_pieces : Stmt := inClass (top 47) 2
abbrev s_spans_of : Stmt := top 31
abbrev s_Table_moments_between : Stmt := inClass (top 47) 6
abbrev s_is_name : Stmt := top 27
abbrev s_NoName_init : Stmt := inClass (top 8) 0
abbrev s_NoPlace_init : Stmt := inClass (top 9) 0
abbrev s_NoMoment_init : Stmt := inClass (top 5) 0
abbrev s_Entry_init : Stmt := inClass (top 33) 0
abbrev s_Within_init : Stmt := inClass (top 34) 0
abbrev s_At_init : Stmt := inClass (top 35) 0
abbrev s_Between_init : Stmt := inClass (top 36) 0
abbrev s_Read_init : Stmt := inClass (top 37) 0
abbrev s_Entry_places : Stmt := inClass (top 33) 2
abbrev s_Between_places : Stmt := inClass (top 36) 2
abbrev s_Entry_spans : Stmt := inClass (top 33) 3
abbrev s_Within_spans : Stmt := inClass (top 34) 2
abbrev s_Between_spans : Stmt := inClass (top 36) 3
abbrev s_Log_init : Stmt := inClass (top 42) 0
abbrev s_Log_names : Stmt := inClass (top 42) 6
abbrev s_Log_bonds : Stmt := inClass (top 42) 9
abbrev s_Log_places : Stmt := inClass (top 42) 10
abbrev s_NoEntry_init : Stmt := inClass (top 10) 0
abbrev s_Log_entry : Stmt := inClass (top 42) 7
abbrev s_Log_spans : Stmt := inClass (top 42) 8
abbrev s_Log_clock : Stmt := inClass (top 42) 1
abbrev s_Log_put : Stmt := inClass (top 42) 2
abbrev s_Log_bind : Stmt := inClass (top 42) 3
abbrev s_Log_unbind : Stmt := inClass (top 42) 4
abbrev s_Log_drop : Stmt := inClass (top 42) 5
abbrev s_Log_copied : Stmt := inClass (top 42) 13
abbrev s_l_cell : Stmt := top 49
abbrev s_l_mix : Stmt := top 50
abbrev s_l_begun : Stmt := top 51
abbrev s_l_pull : Stmt := top 52
abbrev s_l_names : Stmt := top 53
abbrev s_l_shift : Stmt := top 54
abbrev s_l_rows : Stmt := top 55
abbrev s_l_pieces : Stmt := top 56
abbrev s_l_joined : Stmt := top 57
abbrev s_l_shown : Stmt := top 58
abbrev s_l_near : Stmt := top 61
abbrev s_l_spec : Stmt := top 62
abbrev s_l_made : Stmt := top 63
abbrev s_l_spans : Stmt := top 64
abbrev s_l_same : Stmt := top 60
abbrev s_l_gone : Stmt := top 66
abbrev s_l_copy : Stmt := top 67
abbrev s_l_right : Stmt := top 65
abbrev s_l_bound : Stmt := top 68
abbrev s_l_dropped : Stmt := top 69
abbrev s_l_put : Stmt := top 70
abbrev s_l_done : Stmt := top 71
abbrev s_law : Stmt := top 72
def Fb : List (List (PySem.W.Frag → Bool)) := [
  [fun K => He.Fa.ok K (.glo "Entry"), fun K => He.Fa.ok K (.cls "Entry"), fun K => He.Fa.ok K (.noat "Entry" "high"), fun K => He.Fa.ok K (.noat "Entry" "keeps"), fun K => He.Fa.ok K (.noat "Entry" "known"), fun K => He.Fa.ok K (.noat "Entry" "low"), fun K => He.Fa.ok K (.noat "Entry" "name"), fun K => He.Fa.ok K (.noat "Entry" "part"), fun K => He.Fa.ok K (.noat "Entry" "place"), fun K => decide (PySem.W.findIn K (.ref (He.ga K "Entry")) "__class__" = some (some (.builtin "object.__class__"))), fun K => decide (PySem.W.specialIn K (.builtin "object.__class__") "__get__" = some (some (.builtin "getset_descriptor.__get__"))), fun K => decide (PySem.W.takesIn K (.builtin "object.__class__") = some true), fun K => decide (PySem.W.mroIn K (He.ga K "Entry") (.type "object") = some true), fun K => He.Fa.ok K (.glo "Within"), fun K => He.Fa.ok K (.cls "Within"), fun K => He.Fa.ok K (.noat "Within" "high"), fun K => He.Fa.ok K (.noat "Within" "keeps"), fun K => He.Fa.ok K (.noat "Within" "known"), fun K => He.Fa.ok K (.noat "Within" "low"), fun K => He.Fa.ok K (.noat "Within" "name")],
  [fun K => He.Fa.ok K (.noat "Within" "part"), fun K => He.Fa.ok K (.noat "Within" "place"), fun K => decide (PySem.W.findIn K (.ref (He.ga K "Within")) "__class__" = some (some (.builtin "object.__class__"))), fun K => decide (PySem.W.mroIn K (He.ga K "Within") (.type "object") = some true), fun K => He.Fa.ok K (.glo "At"), fun K => He.Fa.ok K (.cls "At"), fun K => He.Fa.ok K (.noat "At" "high"), fun K => He.Fa.ok K (.noat "At" "keeps"), fun K => He.Fa.ok K (.noat "At" "known"), fun K => He.Fa.ok K (.noat "At" "low"), fun K => He.Fa.ok K (.noat "At" "name"), fun K => He.Fa.ok K (.noat "At" "part"), fun K => He.Fa.ok K (.noat "At" "place"), fun K => decide (PySem.W.findIn K (.ref (He.ga K "At")) "__class__" = some (some (.builtin "object.__class__"))), fun K => decide (PySem.W.mroIn K (He.ga K "At") (.type "object") = some true), fun K => He.Fa.ok K (.glo "Between"), fun K => He.Fa.ok K (.cls "Between"), fun K => He.Fa.ok K (.noat "Between" "high"), fun K => He.Fa.ok K (.noat "Between" "keeps"), fun K => He.Fa.ok K (.noat "Between" "known")],
  [fun K => He.Fa.ok K (.noat "Between" "low"), fun K => He.Fa.ok K (.noat "Between" "name"), fun K => He.Fa.ok K (.noat "Between" "part"), fun K => He.Fa.ok K (.noat "Between" "place"), fun K => decide (PySem.W.findIn K (.ref (He.ga K "Between")) "__class__" = some (some (.builtin "object.__class__"))), fun K => decide (PySem.W.mroIn K (He.ga K "Between") (.type "object") = some true), fun K => He.Fa.ok K (.glo "Table"), fun K => He.Fa.ok K (.cls "Table"), fun K => He.Fa.ok K (.noat "Table" "kept_rows"), fun K => He.Fa.ok K (.glo "Read"), fun K => He.Fa.ok K (.cls "Read"), fun K => He.Fa.ok K (.noat "Read" "high"), fun K => He.Fa.ok K (.noat "Read" "keeps"), fun K => He.Fa.ok K (.noat "Read" "known"), fun K => He.Fa.ok K (.noat "Read" "low"), fun K => He.Fa.ok K (.noat "Read" "name"), fun K => He.Fa.ok K (.noat "Read" "part"), fun K => He.Fa.ok K (.noat "Read" "place"), fun K => decide (PySem.W.findIn K (.ref (He.ga K "Read")) "__class__" = some (some (.builtin "object.__class__"))), fun K => decide (PySem.W.mroIn K (He.ga K "Read") (.type "object") = some true)],
  [fun K => He.Fa.ok K (.glo "Log"), fun K => He.Fa.ok K (.cls "Log"), fun K => He.Fa.ok K (.noat "Log" "bound"), fun K => He.Fa.ok K (.noat "Log" "clocks"), fun K => He.Fa.ok K (.noat "Log" "line"), fun K => He.Fa.ok K (.noat "Log" "name"), fun K => He.Fa.ok K (.glo "LogError"), fun K => PySem.W.readsIn K (He.ga K "LogError") (.type "type"), fun K => decide (PySem.W.specialIn K (.ref (He.ga K "LogError")) "__getattribute__" = some (some (.builtin "type.__getattribute__"))), fun K => Hk.fcB K (He.ga K "LogError") "__init__" (.builtin "ValueError.__init__"), fun K => He.Fa.ok K (.glo "NoEntry"), fun K => Hk.oexB K (He.ga K "NoEntry"), fun K => L2.xfB K (He.ga K "NoEntry"), fun K => Hk.ecB K (He.ga K "NoEntry"), fun K => He.Fa.ok K (.noat "NoEntry" "found"), fun K => He.Fa.ok K (.glo "NoMoment"), fun K => Hk.oexB K (He.ga K "NoMoment"), fun K => L2.xfB K (He.ga K "NoMoment"), fun K => Hk.ecB K (He.ga K "NoMoment"), fun K => He.Fa.ok K (.noat "NoMoment" "found")],
  [fun K => He.Fa.ok K (.glo "NoName"), fun K => Hk.oexB K (He.ga K "NoName"), fun K => L2.xfB K (He.ga K "NoName"), fun K => Hk.ecB K (He.ga K "NoName"), fun K => He.Fa.ok K (.noat "NoName" "found"), fun K => He.Fa.ok K (.glo "NoPlace"), fun K => Hk.oexB K (He.ga K "NoPlace"), fun K => L2.xfB K (He.ga K "NoPlace"), fun K => Hk.ecB K (He.ga K "NoPlace"), fun K => He.Fa.ok K (.noat "NoPlace" "found"), fun K => He.Fa.ok K (.glo "NoReading"), fun K => Hk.oexB K (He.ga K "NoReading"), fun K => L2.xfB K (He.ga K "NoReading"), fun K => Hk.ecB K (He.ga K "NoReading"), fun K => He.Fa.ok K (.noat "NoReading" "found"), fun K => decide (PySem.W.kitOne K (.ref (He.ga K "NoEntry")) (.ref (He.ga K "NoEntry")) = some true), fun K => decide (PySem.W.exmOne K (.ref (He.ga K "NoEntry")) (.ref (He.ga K "NoEntry")) = some true), fun K => He.Fa.ok K (.free "all"), fun K => He.Fa.ok K (.free "bool"), fun K => He.Fa.ok K (.free "dict")],
  [fun K => He.Fa.ok K (.free "enumerate"), fun K => He.Fa.ok K (.free "int"), fun K => He.Fa.ok K (.free "isinstance"), fun K => He.Fa.ok K (.free "len"), fun K => He.Fa.ok K (.free "list"), fun K => He.Fa.ok K (.free "max"), fun K => He.Fa.ok K (.free "min"), fun K => He.Fa.ok K (.free "range"), fun K => He.Fa.ok K (.free "sorted"), fun K => He.Fa.ok K (.free "str"), fun K => He.Fa.ok K (.free "tuple"), fun K => He.Fa.ok K (.free "zip"), fun K => Hk.conB K "FARTHEST_READING" (.int 10000000000), fun K => Hk.conB K "LAST" (.int 1000000000), fun K => Hk.conB K "LEAST_MINUTES" (.int (-2000000000)), fun K => Hk.conB K "LETTERS" (.str (Str.ofString "abcdefghijklmnopqrstuvwxyz")), fun K => Hk.conB K "LONGEST_NAME" (.int 8), fun K => Hk.conB K "MOST_BONDS" (.int 100), fun K => Hk.conB K "MOST_ENTRIES" (.int 60), fun K => Hk.conB K "MOST_MINUTES" (.int 2000000001)],
  [fun K => Hk.conB K "MOST_PLACES" (.int 6), fun K => Hk.conB K "MOST_ROWS" (.int 21), fun K => Hk.conB K "MOST_SHIFT" (.int 2880), fun K => decide (PySem.W.kitOne K (.ref (He.ga K "Entry")) (.ref (He.ga K "Within")) = some false), fun K => decide (PySem.W.kitOne K (.ref (He.ga K "Entry")) (.ref (He.ga K "At")) = some false), fun K => decide (PySem.W.kitOne K (.ref (He.ga K "Entry")) (.ref (He.ga K "Between")) = some false), fun K => decide (PySem.W.kitOne K (.ref (He.ga K "Entry")) (.ref (He.ga K "Read")) = some false), fun K => decide (PySem.W.kitOne K (.ref (He.ga K "Within")) (.ref (He.ga K "Entry")) = some true), fun K => decide (PySem.W.kitOne K (.ref (He.ga K "Within")) (.ref (He.ga K "At")) = some false), fun K => decide (PySem.W.kitOne K (.ref (He.ga K "Within")) (.ref (He.ga K "Between")) = some false), fun K => decide (PySem.W.kitOne K (.ref (He.ga K "Within")) (.ref (He.ga K "Read")) = some false), fun K => decide (PySem.W.kitOne K (.ref (He.ga K "At")) (.ref (He.ga K "Entry")) = some true), fun K => decide (PySem.W.kitOne K (.ref (He.ga K "At")) (.ref (He.ga K "Within")) = some true), fun K => decide (PySem.W.kitOne K (.ref (He.ga K "At")) (.ref (He.ga K "Between")) = some false), fun K => decide (PySem.W.kitOne K (.ref (He.ga K "At")) (.ref (He.ga K "Read")) = some false), fun K => decide (PySem.W.kitOne K (.ref (He.ga K "Between")) (.ref (He.ga K "Entry")) = some true), fun K => decide (PySem.W.kitOne K (.ref (He.ga K "Between")) (.ref (He.ga K "Within")) = some false), fun K => decide (PySem.W.kitOne K (.ref (He.ga K "Between")) (.ref (He.ga K "At")) = some false), fun K => decide (PySem.W.kitOne K (.ref (He.ga K "Between")) (.ref (He.ga K "Read")) = some false), fun K => decide (PySem.W.kitOne K (.ref (He.ga K "Read")) (.ref (He.ga K "Entry")) = some true)],
  [fun K => decide (PySem.W.kitOne K (.ref (He.ga K "Read")) (.ref (He.ga K "Within")) = some false), fun K => decide (PySem.W.kitOne K (.ref (He.ga K "Read")) (.ref (He.ga K "At")) = some false), fun K => decide (PySem.W.kitOne K (.ref (He.ga K "Read")) (.ref (He.ga K "Between")) = some true), fun K => PySem.W.keepIn K (.ref (He.fAd K ("is_whole", none))), fun K => He.Fa.ok K (.glo "is_whole"), fun K => PySem.W.keepIn K (.ref (He.fAd K ("is_moment", none))), fun K => He.Fa.ok K (.glo "is_moment"), fun K => PySem.W.keepIn K (.ref (He.fAd K ("is_shift", none))), fun K => He.Fa.ok K (.glo "is_shift"), fun K => PySem.W.keepIn K (.ref (He.fAd K ("is_row", none))), fun K => He.Fa.ok K (.glo "is_row"), fun K => PySem.W.keepIn K (.ref (He.fAd K ("fault_at", none))), fun K => He.Fa.ok K (.glo "fault_at"), fun K => PySem.W.keepIn K (.ref (He.fAd K ("is_reading", none))), fun K => He.Fa.ok K (.glo "is_reading"), fun K => PySem.W.keepIn K (.ref (He.fAd K ("is_minutes", none))), fun K => He.Fa.ok K (.glo "is_minutes"), fun K => PySem.W.keepIn K (.ref (He.fAd K ("Table", some "__init__"))), fun K => He.Fa.ok K (.mkr "Table"), fun K => PySem.W.keepIn K (.ref (He.fAd K ("joined", none)))],
  [fun K => He.Fa.ok K (.glo "joined"), fun K => PySem.W.keepIn K (.ref (He.fAd K ("is_stretch", none))), fun K => He.Fa.ok K (.glo "is_stretch"), fun K => PySem.W.keepIn K (.ref (He.fAd K ("NoReading", some "__init__"))), fun K => decide (PySem.W.findIn K (.ref (He.ga K "NoReading")) "__init__" = some (some (.ref (He.fAd K ("NoReading", some "__init__"))))), fun K => decide (PySem.W.typeIn K (.ref (He.fAd K ("NoReading", some "__init__"))) = some (.type "function")), fun K => PySem.W.keepIn K (.ref (He.fAd K ("Table", some "pieces"))), fun K => He.Fa.ok K (.meth "Table" "pieces"), fun K => PySem.W.keepIn K (.ref (He.fAd K ("spans_of", none))), fun K => He.Fa.ok K (.glo "spans_of"), fun K => PySem.W.keepIn K (.ref (He.fAd K ("Table", some "moments_between"))), fun K => He.Fa.ok K (.meth "Table" "moments_between"), fun K => PySem.W.keepIn K (.ref (He.fAd K ("is_name", none))), fun K => He.Fa.ok K (.glo "is_name"), fun K => PySem.W.keepIn K (.ref (He.fAd K ("NoName", some "__init__"))), fun K => decide (PySem.W.findIn K (.ref (He.ga K "NoName")) "__init__" = some (some (.ref (He.fAd K ("NoName", some "__init__"))))), fun K => decide (PySem.W.typeIn K (.ref (He.fAd K ("NoName", some "__init__"))) = some (.type "function")), fun K => PySem.W.keepIn K (.ref (He.fAd K ("NoPlace", some "__init__"))), fun K => decide (PySem.W.findIn K (.ref (He.ga K "NoPlace")) "__init__" = some (some (.ref (He.fAd K ("NoPlace", some "__init__"))))), fun K => decide (PySem.W.typeIn K (.ref (He.fAd K ("NoPlace", some "__init__"))) = some (.type "function"))],
  [fun K => PySem.W.keepIn K (.ref (He.fAd K ("NoMoment", some "__init__"))), fun K => decide (PySem.W.findIn K (.ref (He.ga K "NoMoment")) "__init__" = some (some (.ref (He.fAd K ("NoMoment", some "__init__"))))), fun K => decide (PySem.W.typeIn K (.ref (He.fAd K ("NoMoment", some "__init__"))) = some (.type "function")), fun K => PySem.W.keepIn K (.ref (He.fAd K ("Entry", some "__init__"))), fun K => He.Fa.ok K (.mkr "Entry"), fun K => PySem.W.readsIn K (He.ga K "Entry") (.type "type"), fun K => decide (PySem.W.specialIn K (.ref (He.ga K "Entry")) "__getattribute__" = some (some (.builtin "type.__getattribute__"))), fun K => Hk.fcB K (He.ga K "Entry") "__init__" (.ref (He.fAd K ("Entry", some "__init__"))), fun K => PySem.W.keepIn K (.ref (He.fAd K ("Within", some "__init__"))), fun K => He.Fa.ok K (.mkr "Within"), fun K => PySem.W.readsIn K (He.ga K "Within") (.type "type"), fun K => decide (PySem.W.specialIn K (.ref (He.ga K "Within")) "__getattribute__" = some (some (.builtin "type.__getattribute__"))), fun K => Hk.fcB K (He.ga K "Within") "__init__" (.ref (He.fAd K ("Within", some "__init__"))), fun K => PySem.W.keepIn K (.ref (He.fAd K ("At", some "__init__"))), fun K => He.Fa.ok K (.mkr "At"), fun K => PySem.W.keepIn K (.ref (He.fAd K ("Between", some "__init__"))), fun K => He.Fa.ok K (.mkr "Between"), fun K => PySem.W.readsIn K (He.ga K "Between") (.type "type"), fun K => decide (PySem.W.specialIn K (.ref (He.ga K "Between")) "__getattribute__" = some (some (.builtin "type.__getattribute__"))), fun K => Hk.fcB K (He.ga K "Between") "__init__" (.ref (He.fAd K ("Between", some "__init__")))],
  [fun K => PySem.W.keepIn K (.ref (He.fAd K ("Read", some "__init__"))), fun K => He.Fa.ok K (.mkr "Read"), fun K => PySem.W.keepIn K (.ref (He.fAd K ("Entry", some "places"))), fun K => He.Fa.ok K (.meth "Entry" "places"), fun K => PySem.W.keepIn K (.ref (He.fAd K ("Between", some "places"))), fun K => He.Fa.ok K (.meth "Between" "places"), fun K => decide (PySem.W.findIn K (.ref (He.ga K "Entry")) "places" = some (some (.ref (He.fAd K ("Entry", some "places"))))), fun K => PySem.W.isFn K (.ref (He.fAd K ("Entry", some "places"))), fun K => decide (PySem.W.findIn K (.ref (He.ga K "Within")) "places" = some (some (.ref (He.fAd K ("Entry", some "places"))))), fun K => decide (PySem.W.findIn K (.ref (He.ga K "At")) "places" = some (some (.ref (He.fAd K ("Entry", some "places"))))), fun K => decide (PySem.W.findIn K (.ref (He.ga K "Between")) "places" = some (some (.ref (He.fAd K ("Between", some "places"))))), fun K => PySem.W.isFn K (.ref (He.fAd K ("Between", some "places"))), fun K => decide (PySem.W.findIn K (.ref (He.ga K "Read")) "places" = some (some (.ref (He.fAd K ("Between", some "places"))))), fun K => PySem.W.keepIn K (.ref (He.fAd K ("Entry", some "spans"))), fun K => He.Fa.ok K (.meth "Entry" "spans"), fun K => PySem.W.keepIn K (.ref (He.fAd K ("Within", some "spans"))), fun K => He.Fa.ok K (.meth "Within" "spans"), fun K => PySem.W.keepIn K (.ref (He.fAd K ("Between", some "spans"))), fun K => He.Fa.ok K (.meth "Between" "spans"), fun K => decide (PySem.W.findIn K (.ref (He.ga K "Entry")) "spans" = some (some (.ref (He.fAd K ("Entry", some "spans")))))],
  [fun K => PySem.W.isFn K (.ref (He.fAd K ("Entry", some "spans"))), fun K => decide (PySem.W.findIn K (.ref (He.ga K "Within")) "spans" = some (some (.ref (He.fAd K ("Within", some "spans"))))), fun K => PySem.W.isFn K (.ref (He.fAd K ("Within", some "spans"))), fun K => decide (PySem.W.findIn K (.ref (He.ga K "At")) "spans" = some (some (.ref (He.fAd K ("Within", some "spans"))))), fun K => decide (PySem.W.findIn K (.ref (He.ga K "Between")) "spans" = some (some (.ref (He.fAd K ("Between", some "spans"))))), fun K => PySem.W.isFn K (.ref (He.fAd K ("Between", some "spans"))), fun K => decide (PySem.W.findIn K (.ref (He.ga K "Read")) "spans" = some (some (.ref (He.fAd K ("Between", some "spans"))))), fun K => PySem.W.keepIn K (.ref (He.fAd K ("Log", some "__init__"))), fun K => He.Fa.ok K (.mkr "Log"), fun K => PySem.W.keepIn K (.ref (He.fAd K ("Log", some "names"))), fun K => He.Fa.ok K (.meth "Log" "names"), fun K => PySem.W.keepIn K (.ref (He.fAd K ("Log", some "bonds"))), fun K => He.Fa.ok K (.meth "Log" "bonds"), fun K => PySem.W.keepIn K (.ref (He.fAd K ("Log", some "places"))), fun K => He.Fa.ok K (.meth "Log" "places"), fun K => PySem.W.keepIn K (.ref (He.fAd K ("NoEntry", some "__init__"))), fun K => decide (PySem.W.findIn K (.ref (He.ga K "NoEntry")) "__init__" = some (some (.ref (He.fAd K ("NoEntry", some "__init__"))))), fun K => decide (PySem.W.typeIn K (.ref (He.fAd K ("NoEntry", some "__init__"))) = some (.type "function")), fun K => PySem.W.keepIn K (.ref (He.fAd K ("Log", some "entry"))), fun K => He.Fa.ok K (.meth "Log" "entry")],
  [fun K => PySem.W.keepIn K (.ref (He.fAd K ("Log", some "spans"))), fun K => He.Fa.ok K (.meth "Log" "spans"), fun K => PySem.W.keepIn K (.ref (He.fAd K ("Log", some "clock"))), fun K => He.Fa.ok K (.meth "Log" "clock"), fun K => PySem.W.keepIn K (.ref (He.fAd K ("Log", some "put"))), fun K => He.Fa.ok K (.meth "Log" "put"), fun K => PySem.W.keepIn K (.ref (He.fAd K ("Log", some "bind"))), fun K => He.Fa.ok K (.meth "Log" "bind"), fun K => PySem.W.keepIn K (.ref (He.fAd K ("Log", some "unbind"))), fun K => He.Fa.ok K (.meth "Log" "unbind"), fun K => PySem.W.keepIn K (.ref (He.fAd K ("Log", some "drop"))), fun K => He.Fa.ok K (.meth "Log" "drop"), fun K => PySem.W.keepIn K (.ref (He.fAd K ("Log", some "copied"))), fun K => He.Fa.ok K (.meth "Log" "copied"), fun K => PySem.W.keepIn K (.ref (He.fAd K ("_law_cell", none))), fun K => He.Fa.ok K (.glo "_law_cell"), fun K => PySem.W.keepIn K (.ref (He.fAd K ("_law_mix", none))), fun K => He.Fa.ok K (.glo "_law_mix"), fun K => PySem.W.keepIn K (.ref (He.fAd K ("_law_begun", none))), fun K => He.Fa.ok K (.glo "_law_begun")],
  [fun K => PySem.W.keepIn K (.ref (He.fAd K ("_law_pull", none))), fun K => He.Fa.ok K (.glo "_law_pull"), fun K => PySem.W.keepIn K (.ref (He.fAd K ("_law_names", none))), fun K => He.Fa.ok K (.glo "_law_names"), fun K => PySem.W.keepIn K (.ref (He.fAd K ("_law_shift", none))), fun K => He.Fa.ok K (.glo "_law_shift"), fun K => PySem.W.keepIn K (.ref (He.fAd K ("_law_rows", none))), fun K => He.Fa.ok K (.glo "_law_rows"), fun K => PySem.W.keepIn K (.ref (He.fAd K ("_law_pieces", none))), fun K => He.Fa.ok K (.glo "_law_pieces"), fun K => PySem.W.keepIn K (.ref (He.fAd K ("_law_joined", none))), fun K => He.Fa.ok K (.glo "_law_joined"), fun K => PySem.W.keepIn K (.ref (He.fAd K ("_law_shown", none))), fun K => He.Fa.ok K (.glo "_law_shown"), fun K => PySem.W.keepIn K (.ref (He.fAd K ("_law_near", none))), fun K => He.Fa.ok K (.glo "_law_near"), fun K => PySem.W.keepIn K (.ref (He.fAd K ("_law_spec", none))), fun K => He.Fa.ok K (.glo "_law_spec"), fun K => PySem.W.keepIn K (.ref (He.fAd K ("_law_made", none))), fun K => He.Fa.ok K (.glo "_law_made")],
  [fun K => PySem.W.keepIn K (.ref (He.fAd K ("_law_spans", none))), fun K => He.Fa.ok K (.glo "_law_spans"), fun K => PySem.W.keepIn K (.ref (He.fAd K ("_law_same", none))), fun K => He.Fa.ok K (.glo "_law_same"), fun K => PySem.W.keepIn K (.ref (He.fAd K ("_law_gone", none))), fun K => He.Fa.ok K (.glo "_law_gone"), fun K => PySem.W.keepIn K (.ref (He.fAd K ("_law_copy", none))), fun K => He.Fa.ok K (.glo "_law_copy"), fun K => PySem.W.keepIn K (.ref (He.fAd K ("_law_right", none))), fun K => He.Fa.ok K (.glo "_law_right"), fun K => PySem.W.keepIn K (.ref (He.fAd K ("_law_bound", none))), fun K => He.Fa.ok K (.glo "_law_bound"), fun K => PySem.W.keepIn K (.ref (He.fAd K ("_law_dropped", none))), fun K => He.Fa.ok K (.glo "_law_dropped"), fun K => PySem.W.keepIn K (.ref (He.fAd K ("_law_put", none))), fun K => He.Fa.ok K (.glo "_law_put"), fun K => PySem.W.keepIn K (.ref (He.fAd K ("_law_done", none))), fun K => He.Fa.ok K (.glo "_law_done"), fun K => PySem.W.keepIn K (.ref (He.fAd K ("law", none))), fun K => He.Fa.ok K (.glo "law")]]
def Fn : List He.FnD := [⟨("is_whole", none), "is_whole", "is_whole", defArgs s_is_whole, defBody s_is_whole, defScope s_is_whole⟩, ⟨("is_moment", none), "is_moment", "is_moment", defArgs s_is_moment, defBody s_is_moment, defScope s_is_moment⟩, ⟨("is_shift", none), "is_shift", "is_shift", defArgs s_is_shift, defBody s_is_shift, defScope s_is_shift⟩, ⟨("is_row", none), "is_row", "is_row", defArgs s_is_row, defBody s_is_row, defScope s_is_row⟩, ⟨("fault_at", none), "fault_at", "fault_at", defArgs s_fault_at, defBody s_fault_at, defScope s_fault_at⟩, ⟨("is_reading", none), "is_reading", "is_reading", defArgs s_is_reading, defBody s_is_reading, defScope s_is_reading⟩, ⟨("is_minutes", none), "is_minutes", "is_minutes", defArgs s_is_minutes, defBody s_is_minutes, defScope s_is_minutes⟩, ⟨("Table", some "__init__"), "__init__", "Table.__init__", defArgs s_Table_init, defBody s_Table_init, defScope s_Table_init⟩, ⟨("joined", none), "joined", "joined", defArgs s_joined, defBody s_joined, defScope s_joined⟩, ⟨("is_stretch", none), "is_stretch", "is_stretch", defArgs s_is_stretch, defBody s_is_stretch, defScope s_is_stretch⟩, ⟨("NoReading", some "__init__"), "__init__", "NoReading.__init__", defArgs s_NoReading_init, defBody s_NoReading_init, defScope s_NoReading_init⟩, ⟨("Table", some "pieces"), "pieces", "Table.pieces", defArgs s_Table_pieces, defBody s_Table_pieces, defScope s_Table_pieces⟩, ⟨("spans_of", none), "spans_of", "spans_of", defArgs s_spans_of, defBody s_spans_of, defScope s_spans_of⟩, ⟨("Table", some "moments_between"), "moments_between", "Table.moments_between", defArgs s_Table_moments_between, defBody s_Table_moments_between, defScope s_Table_moments_between⟩, ⟨("is_name", none), "is_name", "is_name", defArgs s_is_name, defBody s_is_name, defScope s_is_name⟩, ⟨("NoName", some "__init__"), "__init__", "NoName.__init__", defArgs s_NoName_init, defBody s_NoName_init, defScope s_NoName_init⟩, ⟨("NoPlace", some "__init__"), "__init__", "NoPlace.__init__", defArgs s_NoPlace_init, defBody s_NoPlace_init, defScope s_NoPlace_init⟩, ⟨("NoMoment", some "__init__"), "__init__", "NoMoment.__init__", defArgs s_NoMoment_init, defBody s_NoMoment_init, defScope s_NoMoment_init⟩, ⟨("Entry", some "__init__"), "__init__", "Entry.__init__", defArgs s_Entry_init, defBody s_Entry_init, defScope s_Entry_init⟩, ⟨("Within", some "__init__"), "__init__", "Within.__init__", defArgs s_Within_init, defBody s_Within_init, defScope s_Within_init⟩, ⟨("At", some "__init__"), "__init__", "At.__init__", defArgs s_At_init, defBody s_At_init, defScope s_At_init⟩, ⟨("Between", some "__init__"), "__init__", "Between.__init__", defArgs s_Between_init, defBody s_Between_init, defScope s_Between_init⟩, ⟨("Read", some "__init__"), "__init__", "Read.__init__", defArgs s_Read_init, defBody s_Read_init, defScope s_Read_init⟩, ⟨("Entry", some "places"), "places", "Entry.places", defArgs s_Entry_places, defBody s_Entry_places, defScope s_Entry_places⟩, ⟨("Between", some "places"), "places", "Between.places", defArgs s_Between_places, defBody s_Between_places, defScope s_Between_places⟩, ⟨("Entry", some "spans"), "spans", "Entry.spans", defArgs s_Entry_spans, defBody s_Entry_spans, defScope s_Entry_spans⟩, ⟨("Within", some "spans"), "spans", "Within.spans", defArgs s_Within_spans, defBody s_Within_spans, defScope s_Within_spans⟩, ⟨("Between", some "spans"), "spans", "Between.spans", defArgs s_Between_spans, defBody s_Between_spans, defScope s_Between_spans⟩, ⟨("Log", some "__init__"), "__init__", "Log.__init__", defArgs s_Log_init, defBody s_Log_init, defScope s_Log_init⟩, ⟨("Log", some "names"), "names", "Log.names", defArgs s_Log_names, defBody s_Log_names, defScope s_Log_names⟩, ⟨("Log", some "bonds"), "bonds", "Log.bonds", defArgs s_Log_bonds, defBody s_Log_bonds, defScope s_Log_bonds⟩, ⟨("Log", some "places"), "places", "Log.places", defArgs s_Log_places, defBody s_Log_places, defScope s_Log_places⟩, ⟨("NoEntry", some "__init__"), "__init__", "NoEntry.__init__", defArgs s_NoEntry_init, defBody s_NoEntry_init, defScope s_NoEntry_init⟩, ⟨("Log", some "entry"), "entry", "Log.entry", defArgs s_Log_entry, defBody s_Log_entry, defScope s_Log_entry⟩, ⟨("Log", some "spans"), "spans", "Log.spans", defArgs s_Log_spans, defBody s_Log_spans, defScope s_Log_spans⟩, ⟨("Log", some "clock"), "clock", "Log.clock", defArgs s_Log_clock, defBody s_Log_clock, defScope s_Log_clock⟩, ⟨("Log", some "put"), "put", "Log.put", defArgs s_Log_put, defBody s_Log_put, defScope s_Log_put⟩, ⟨("Log", some "bind"), "bind", "Log.bind", defArgs s_Log_bind, defBody s_Log_bind, defScope s_Log_bind⟩, ⟨("Log", some "unbind"), "unbind", "Log.unbind", defArgs s_Log_unbind, defBody s_Log_unbind, defScope s_Log_unbind⟩, ⟨("Log", some "drop"), "drop", "Log.drop", defArgs s_Log_drop, defBody s_Log_drop, defScope s_Log_drop⟩, ⟨("Log", some "copied"), "copied", "Log.copied", defArgs s_Log_copied, defBody s_Log_copied, defScope s_Log_copied⟩, ⟨("_law_cell", none), "_law_cell", "_law_cell", defArgs s_l_cell, defBody s_l_cell, defScope s_l_cell⟩, ⟨("_law_mix", none), "_law_mix", "_law_mix", defArgs s_l_mix, defBody s_l_mix, defScope s_l_mix⟩, ⟨("_law_begun", none), "_law_begun", "_law_begun", defArgs s_l_begun, defBody s_l_begun, defScope s_l_begun⟩, ⟨("_law_pull", none), "_law_pull", "_law_pull", defArgs s_l_pull, defBody s_l_pull, defScope s_l_pull⟩, ⟨("_law_names", none), "_law_names", "_law_names", defArgs s_l_names, defBody s_l_names, defScope s_l_names⟩, ⟨("_law_shift", none), "_law_shift", "_law_shift", defArgs s_l_shift, defBody s_l_shift, defScope s_l_shift⟩, ⟨("_law_rows", none), "_law_rows", "_law_rows", defArgs s_l_rows, defBody s_l_rows, defScope s_l_rows⟩, ⟨("_law_pieces", none), "_law_pieces", "_law_pieces", defArgs s_l_pieces, defBody s_l_pieces, defScope s_l_pieces⟩, ⟨("_law_joined", none), "_law_joined", "_law_joined", defArgs s_l_joined, defBody s_l_joined, defScope s_l_joined⟩, ⟨("_law_shown", none), "_law_shown", "_law_shown", defArgs s_l_shown, defBody s_l_shown, defScope s_l_shown⟩, ⟨("_law_near", none), "_law_near", "_law_near", defArgs s_l_near, defBody s_l_near, defScope s_l_near⟩, ⟨("_law_spec", none), "_law_spec", "_law_spec", defArgs s_l_spec, defBody s_l_spec, defScope s_l_spec⟩, ⟨("_law_made", none), "_law_made", "_law_made", defArgs s_l_made, defBody s_l_made, defScope s_l_made⟩, ⟨("_law_spans", none), "_law_spans", "_law_spans", defArgs s_l_spans, defBody s_l_spans, defScope s_l_spans⟩, ⟨("_law_same", none), "_law_same", "_law_same", defArgs s_l_same, defBody s_l_same, defScope s_l_same⟩, ⟨("_law_gone", none), "_law_gone", "_law_gone", defArgs s_l_gone, defBody s_l_gone, defScope s_l_gone⟩, ⟨("_law_copy", none), "_law_copy", "_law_copy", defArgs s_l_copy, defBody s_l_copy, defScope s_l_copy⟩, ⟨("_law_right", none), "_law_right", "_law_right", defArgs s_l_right, defBody s_l_right, defScope s_l_right⟩, ⟨("_law_bound", none), "_law_bound", "_law_bound", defArgs s_l_bound, defBody s_l_bound, defScope s_l_bound⟩, ⟨("_law_dropped", none), "_law_dropped", "_law_dropped", defArgs s_l_dropped, defBody s_l_dropped, defScope s_l_dropped⟩, ⟨("_law_put", none), "_law_put", "_law_put", defArgs s_l_put, defBody s_l_put, defScope s_l_put⟩, ⟨("_law_done", none), "_law_done", "_law_done", defArgs s_l_done, defBody s_l_done, defScope s_l_done⟩, ⟨("law", none), "law", "law", defArgs s_law, defBody s_law, defScope s_law⟩]
def nms0 : List Str := ["_wall", "LogError", "NoSpans", "NoTable", "NoMoment", "NoReading", "TooMany", "NoName", "NoPlace", "NoEntry", "Taken", "NoMinutes", "NoBond", "LETTERS", "LONGEST_NAME", "LAST", "FARTHEST_READING", "MOST_SHIFT", "LEAST_MINUTES", "MOST_MINUTES", "is_whole", "is_moment", "is_reading", "is_shift", "is_minutes", "is_name", "is_stretch", "joined", "spans_of", "Entry"]
def nms1 : List Str := ["Within", "At", "Between", "Read", "MOST_PLACES", "MOST_ENTRIES", "MOST_BONDS", "Log", "MOST_ROWS", "is_row", "fault_at", "Table", "_law_cell", "_law_mix", "_law_begun", "_law_pull", "_law_names", "_law_shift", "_law_rows", "_law_pieces", "_law_joined", "_law_shown", "_law_is_number", "_law_same", "_law_near", "_law_spec", "_law_made", "_law_spans", "_law_right", "_law_gone"]
def nms2 : List Str := ["_law_copy", "_law_bound", "_law_dropped", "_law_put", "_law_done"]
def nms : List Str := nms0 ++ nms1 ++ nms2
abbrev HR : PySem.W.OpenRow := PySem.W.OpenLaw.row PySem.Challenge.rw_foldlog_k37_deeds_one_behind_another
abbrev hk : PySem.W.Hook := Hk.hookB 4 Fb Fn
def ob (s : PySem.W.SharedT) : He.Al := Hk.obsBG 4 Fb Fn (HandSHeadRun.getT s)
theorem ob_eq (s : PySem.W.SharedT) : ob s = hk.obs s.abs := Hk.obsBG_eq (HandSHeadRun.getT_eq s)
theorem run (w : World) : HandSHeadRun.RunEq HR (PySem.W.view HR.prog [72]) hk ob 30000 nms w := by
  intro os
  kernel_rfl
end L
set_option Elab.async false
set_option linter.all false
set_option maxRecDepth 100000
set_option maxHeartbeats 4000000
namespace G
open PySem L2
/-- S: what will never change; H: all that stands -/
structure Wd where
  S : Hp
  H : Hp
  ok : Same S H
/-- from w to v: m the cells that were touched -/
structure Ext (m : Addr → Prop) (w v : Wd) : Prop where
  st : Same w.S v.S
  hp : ∀ b o, ¬ m b → w.H b = some o → v.H b = some o
  nw : ∀ b, ¬ m b → w.S b = none → w.H b ≠ none → v.S b = none
  al : ∀ b, w.H b ≠ none → v.H b ≠ none
abbrev Non : Addr → Prop := fun _ => False
abbrev One (l : Addr) : Addr → Prop := fun b => b = l
abbrev Two (l k : Addr) : Addr → Prop := fun b => b = l ∨ b = k
theorem Ext.refl (m : Addr → Prop) (w : Wd) : Ext m w w := ⟨fun _ _ h => h, fun _ _ _ h => h, fun _ _ h _ => h, fun _ h => h⟩
theorem Ext.back {m : Addr → Prop} {w v : Wd} {l : Addr} (e : Ext m w v) (h : v.H l = none) : w.H l = none := by
  cases q : w.H l with
  | none => rfl
  | some o => exact absurd h (e.al l (by rw [q]; exact fun z => by cases z))
theorem Ext.trans {m : Addr → Prop} {u w v : Wd} (a : Ext m u w) (b : Ext m w v) : Ext m u v :=
  ⟨fun c o h => b.st c o (a.st c o h), fun c o n h => b.hp c o n (a.hp c o n h), fun c n h q => b.nw c n (a.nw c n h q) (a.al c q), fun c h => b.al c (a.al c h)⟩
/-- a step that touches cells that u does not know, or may be touched -/
theorem Ext.step {m k : Addr → Prop} {u w v : Wd} (a : Ext m u w) (b : Ext k w v) (h : ∀ l, k l → u.H l = none ∨ m l) : Ext m u v := by
  have key : ∀ c, ¬ m c → u.H c ≠ none → ¬ k c := fun c n q z => (h c z).elim q n
  refine ⟨fun c o x => b.st c o (a.st c o x), fun c o n x => b.hp c o (key c n (by rw [x]; exact fun z => by cases z)) (a.hp c o n x), fun c n x q => b.nw c (key c n q) (a.nw c n x q) (a.al c q), fun c x => b.al c (a.al c x)⟩
theorem Ext.more {m k : Addr → Prop} {w v : Wd} (a : Ext m w v) (h : ∀ l, m l → w.H l = none ∨ k l) : Ext k w v := (Ext.refl k w).step a h
/-- a cell that is one's own -/
structure Own (w : Wd) (l : Addr) (o : HO) : Prop where
  s : w.S l = none
  h : w.H l = some o
theorem Own.ext {m : Addr → Prop} {w v : Wd} {l : Addr} {o : HO} (e : Ext m w v) (n : ¬ m l) (h : Own w l o) : Own v l o :=
  ⟨e.nw l n h.s (by rw [h.h]; exact fun z => by cases z), e.hp l o n h.h⟩
theorem Own.ne {w : Wd} {l p : Addr} {o : HO} (h : Own w l o) (n : w.H p = none) : l ≠ p := ne_of_none h.h n
theorem Own.ne' {w : Wd} {l p : Addr} {o : HO} (h : Own w l o) (n : w.H p = none) : p ≠ l := (ne_of_none h.h n).symm
section
variable {w : Wd} {o u : HO} {l : Addr} {Q : VK} {R : Hp → Prop}
/-- a new stable thing -/
theorem newS (k : ∀ p v, Ext Non w v → w.H p = none → v.S p = some o → Q (.ref p) v.H) : ∀ p, w.H p = none → Q (.ref p) (upd w.H p o) := fun p hp => by
  have sp : w.S p = none := w.ok.free hp
  refine k p ⟨upd w.S p o, upd w.H p o, fun b q h => ?_⟩ ⟨fun b q h => ?_, fun b q _ h => ?_, fun b _ h z => ?_, fun b h => ?_⟩ hp upd_same
  · by_cases e : b = p
    · subst e
      rw [upd_same] at h
      rw [upd_same]
      exact h
    · rw [upd_ne e] at h
      rw [upd_ne e]
      exact w.ok b q h
  · show upd w.S p o b = some q
    rw [upd_ne (ne_of_none h sp)]
    exact h
  · show upd w.H p o b = some q
    rw [upd_ne (ne_of_none h hp)]
    exact h
  · have e : b ≠ p := fun e => by rw [e, hp] at z; exact z rfl
    show upd w.S p o b = none
    rw [upd_ne e]
    exact h
  · have e : b ≠ p := fun e => by rw [e, hp] at h; exact h rfl
    show upd w.H p o b ≠ none
    rw [upd_ne e]
    exact h
/-- a new thing of one's own -/
theorem newO (k : ∀ p v, Ext Non w v → w.H p = none → Own v p o → Q (.ref p) v.H) : ∀ p, w.H p = none → Q (.ref p) (upd w.H p o) := fun p hp => by
  have sp : w.S p = none := w.ok.free hp
  refine k p ⟨w.S, upd w.H p o, fun b q h => ?_⟩ ⟨fun b q h => h, fun b q _ h => ?_, fun b _ h z => h, fun b h => ?_⟩ hp ⟨sp, upd_same⟩
  · rw [upd_ne (ne_of_none h sp)]
    exact w.ok b q h
  · show upd w.H p o b = some q
    rw [upd_ne (ne_of_none h hp)]
    exact h
  · have e : b ≠ p := fun e => by rw [e, hp] at h; exact h rfl
    show upd w.H p o b ≠ none
    rw [upd_ne e]
    exact h
/-- a store into a cell of one's own -/
theorem put (h : Own w l o) (k : ∀ v, Ext (One l) w v → Own v l u → R v.H) : R (upd w.H l u) := by
  refine k ⟨w.S, upd w.H l u, fun b q x => ?_⟩ ⟨fun b q x => x, fun b q n x => ?_, fun b n x z => x, fun b x => ?_⟩ ⟨h.s, upd_same⟩
  · have e : b ≠ l := fun e => by rw [e, h.s] at x; cases x
    rw [upd_ne e]
    exact w.ok b q x
  · show upd w.H l u b = some q
    rw [upd_ne n]
    exact x
  · show upd w.H l u b ≠ none
    by_cases e : b = l
    · rw [e, upd_same]
      exact fun z => by cases z
    · rw [upd_ne e]
      exact x
/-- what one owns is laid among what never changes -/
theorem lay (h : Own w l o) (k : ∀ v, Ext (One l) w v → v.S l = some o → R v.H) : R w.H := by
  refine k ⟨upd w.S l o, w.H, fun b q x => ?_⟩ ⟨fun b q x => ?_, fun b q _ x => x, fun b n x z => ?_, fun b x => x⟩ upd_same
  · by_cases e : b = l
    · subst e
      rw [upd_same] at x
      exact (Option.some.inj x) ▸ h.h
    · rw [upd_ne e] at x
      exact w.ok b q x
  · show upd w.S l o b = some q
    rw [upd_ne (fun e => by rw [e, h.s] at x; cases x)]
    exact x
  · show upd w.S l o b = none
    rw [upd_ne n]
    exact x
end
mutual
inductive Rp (S : Hp) : V → PyData → Prop
  | non : Rp S .non .none
  | bl (b : Bool) : Rp S (.bl b) (.bool b)
  | int (i : Int) : Rp S (.int i) (.int i)
  | str (x : Str) : Rp S (.str x) (.str x)
  | lst {a : Addr} {xs : List V} {ds : List PyData} : S a = some (.lst xs) → RpA S xs ds → Rp S (.ref a) (.list ds)
  | tup {a : Addr} {xs : List V} {ds : List PyData} : S a = some (.tup xs) → RpA S xs ds → Rp S (.ref a) (.tuple ds)
  | dct {a : Addr} {kvs : List (Key × V)} : S a = some (.dK kvs) → Rp S (.ref a) (.dict [])
inductive RpA (S : Hp) : List V → List PyData → Prop
  | nil : RpA S [] []
  | cons {v : V} {vs : List V} {d : PyData} {ds : List PyData} : Rp S v d → RpA S vs ds → RpA S (v :: vs) (d :: ds)
end
mutual
theorem Rp.mono {S T : Hp} (e : Same S T) : ∀ (d : PyData) (v : V), Rp S v d → Rp T v d
  | .none, _, h => by cases h; exact .non
  | .bool b, _, h => by cases h; exact .bl b
  | .int i, _, h => by cases h; exact .int i
  | .str x, _, h => by cases h; exact .str x
  | .list ds, _, h => by
    cases h with
    | lst h1 h2 => exact .lst (e _ _ h1) (RpA.mono e ds _ h2)
  | .tuple ds, _, h => by
    cases h with
    | tup h1 h2 => exact .tup (e _ _ h1) (RpA.mono e ds _ h2)
  | .dict _, _, h => by
    cases h with
    | dct h1 => exact .dct (e _ _ h1)
theorem RpA.mono {S T : Hp} (e : Same S T) : ∀ (ds : List PyData) (vs : List V), RpA S vs ds → RpA T vs ds
  | [], _, h => by cases h; exact .nil
  | d :: ds, _, h => by
    cases h with
    | cons h1 h2 => exact .cons (Rp.mono e d _ h1) (RpA.mono e ds _ h2)
end
theorem Rp.go {m : Addr → Prop} {w v : Wd} {x : V} {d : PyData} (e : Ext m w v) (h : Rp w.S x d) : Rp v.S x d := Rp.mono e.st d x h
theorem RpA.go {m : Addr → Prop} {w v : Wd} {x : List V} {d : List PyData} (e : Ext m w v) (h : RpA w.S x d) : RpA v.S x d := RpA.mono e.st d x h
theorem st_go {m : Addr → Prop} {w v : Wd} {a : Addr} {o : HO} (e : Ext m w v) (h : w.S a = some o) : v.S a = some o := e.st _ _ h
section
variable {S : Hp} {v : V} {vs us : List V} {ds es : List PyData} {d : PyData}
theorem Rp.list_inv (h : Rp S v (.list ds)) : ∃ a vs, v = .ref a ∧ S a = some (.lst vs) ∧ RpA S vs ds := by
  cases h with
  | lst h1 h2 => exact ⟨_, _, rfl, h1, h2⟩
theorem Rp.tuple_inv (h : Rp S v (.tuple ds)) : ∃ a vs, v = .ref a ∧ S a = some (.tup vs) ∧ RpA S vs ds := by
  cases h with
  | tup h1 h2 => exact ⟨_, _, rfl, h1, h2⟩
theorem Rp.int_inv {i : Int} (h : Rp S v (.int i)) : v = .int i := by cases h; rfl
theorem Rp.str_inv {i : Str} (h : Rp S v (.str i)) : v = .str i := by cases h; rfl
theorem RpA.length : ∀ {vs : List V} {ds : List PyData}, RpA S vs ds → vs.length = ds.length
  | _, _, .nil => rfl
  | _, _, .cons _ t => by rw [List.length_cons, List.length_cons, RpA.length t]
theorem RpA.get : ∀ {vs : List V} {ds : List PyData} {i : Nat} {v : V}, RpA S vs ds → vs[i]? = some v → ∃ d, ds[i]? = some d ∧ Rp S v d
  | _, _, i, _, .nil, h => by simp at h
  | _, _, 0, _, .cons r _, h => by simp at h; subst h; exact ⟨_, rfl, r⟩
  | _, _, i + 1, _, .cons _ t, h => by
    obtain ⟨d, h1, h2⟩ := RpA.get (i := i) t (by simpa using h)
    exact ⟨d, by simpa using h1, h2⟩
theorem RpA.get' : ∀ {vs : List V} {ds : List PyData} {i : Nat} {d : PyData}, RpA S vs ds → ds[i]? = some d → ∃ v, vs[i]? = some v ∧ Rp S v d
  | _, _, i, _, .nil, h => by simp at h
  | _, _, 0, _, .cons r _, h => by simp at h; subst h; exact ⟨_, rfl, r⟩
  | _, _, i + 1, _, .cons _ t, h => by
    obtain ⟨d, h1, h2⟩ := RpA.get' (i := i) t (by simpa using h)
    exact ⟨d, by simpa using h1, h2⟩
theorem RpA.append : ∀ {vs us : List V} {ds es : List PyData}, RpA S vs ds → RpA S us es → RpA S (vs ++ us) (ds ++ es)
  | _, _, _, _, .nil, h => h
  | _, _, _, _, .cons r t, h => .cons r (RpA.append t h)
theorem RpA.take : ∀ {vs : List V} {ds : List PyData} (n : Nat), RpA S vs ds → RpA S (vs.take n) (ds.take n)
  | _, _, 0, _ => .nil
  | _, _, _ + 1, .nil => .nil
  | _, _, n + 1, .cons r t => .cons r (RpA.take n t)
theorem RpA.drop : ∀ {vs : List V} {ds : List PyData} (n : Nat), RpA S vs ds → RpA S (vs.drop n) (ds.drop n)
  | _, _, 0, h => h
  | _, _, _ + 1, .nil => .nil
  | _, _, n + 1, .cons _ t => RpA.drop n t
theorem RpA.one (h : Rp S v d) : RpA S [v] [d] := .cons h .nil
theorem RpA.ints_inv : ∀ {vs : List V} {ns : List Int}, RpA S vs (ns.map PyData.int) → vs = ns.map V.int
  | _, [], h => by cases h; rfl
  | _, n :: ns, h => by
    cases h with
    | cons h1 h2 =>
      rw [h1.int_inv, RpA.ints_inv h2]
      rfl
theorem RpA.strs_inv : ∀ {vs : List V} {ns : List Str}, RpA S vs (ns.map PyData.str) → vs = ns.map V.str
  | _, [], h => by cases h; rfl
  | _, n :: ns, h => by
    cases h with
    | cons h1 h2 =>
      rw [h1.str_inv, RpA.strs_inv h2]
      rfl
end
/-- no dict within -/
def nd : PyData → Bool
  | .dict _ => false
  | .list ds => ds.attach.all fun ⟨d, _⟩ => nd d
  | .tuple ds => ds.attach.all fun ⟨d, _⟩ => nd d
  | _ => true
mutual
theorem Rp.dp {K : PySem.W.Frag} {S : Hp} : ∀ (d : PyData) (v : V), Rp S v d → nd d = true → Dp K S v d
  | .none, _, h, _ => by cases h; exact .non
  | .bool b, _, h, _ => by cases h; exact .bl b
  | .int i, _, h, _ => by cases h; exact .int i
  | .str x, _, h, _ => by cases h; exact .str x
  | .list ds, _, h, n => by
    cases h with
    | lst h1 h2 =>
      unfold nd at n
      rw [List.all_eq_true] at n
      exact .lst (SqL.of h1) (RpA.dp ds _ h2 fun d hd => n ⟨d, hd⟩ (List.mem_attach ..))
  | .tuple ds, _, h, n => by
    cases h with
    | tup h1 h2 =>
      unfold nd at n
      rw [List.all_eq_true] at n
      exact .tup (SqT.of h1) (RpA.dp ds _ h2 fun d hd => n ⟨d, hd⟩ (List.mem_attach ..))
  | .dict _, _, h, n => by unfold nd at n; cases n
theorem RpA.dp {K : PySem.W.Frag} {S : Hp} : ∀ (ds : List PyData) (vs : List V), RpA S vs ds → (∀ d ∈ ds, nd d = true) → DpAll K S vs ds
  | [], _, h, _ => by cases h; exact .nil
  | d :: ds, _, h, n => by
    cases h with
    | cons h1 h2 => exact .cons (Rp.dp d _ h1 (n d List.mem_cons_self)) (RpA.dp ds _ h2 fun e he => n e (List.mem_cons_of_mem _ he))
end
mutual
theorem dp_mono {K : PySem.W.Frag} {S T : Hp} (e : Same S T) : ∀ (d : PyData) (v : V), Dp K S v d → Dp K T v d
  | .none, _, h => by cases h; exact .non
  | .bool b, _, h => by cases h; exact .bl b
  | .int i, _, h => by cases h; exact .int i
  | .str x, _, h => by cases h; exact .str x
  | .list ds, _, h => by
    cases h with
    | lst h1 h2 => exact .lst (e.seq h1) (dp_monoA e ds _ h2)
  | .tuple ds, _, h => by
    cases h with
    | tup h1 h2 => exact .tup (h1.elim (fun q => q.elim (fun z => SqT.of (e _ _ z)) fun ⟨o, z⟩ => .inl (.inr ⟨o, e _ _ z⟩)) .inr) (dp_monoA e ds _ h2)
  | .dict _, _, h => by cases h
theorem dp_monoA {K : PySem.W.Frag} {S T : Hp} (e : Same S T) : ∀ (ds : List PyData) (vs : List V), DpAll K S vs ds → DpAll K T vs ds
  | [], _, h => by cases h; exact .nil
  | d :: ds, _, h => by
    cases h with
    | cons h1 h2 => exact .cons (dp_mono e d _ h1) (dp_monoA e ds _ h2)
end
end G
set_option Elab.async false
set_option linter.all false
set_option maxRecDepth 100000
set_option maxHeartbeats 4000000
namespace G
open PySem L2
section
variable {X : Cx}
def gAdd (K : PySem.W.Frag) : R2 := fun x y H Q => match x, y with
  | .int i, .int j => Q (.int (i + j)) H
  | .str i, .str j => i.length + j.length ≤ sizeLine ∧ Q (.str (i ++ j)) H
  | .ref a, .ref b => (∃ xs zs, H a = some (.lst xs) ∧ H b = some (.lst zs) ∧ xs.length + zs.length ≤ sizeLine ∧ ∀ p, H p = none → Q (.ref p) (upd H p (.lst (xs ++ zs)))) ∨ rCatA K (.ref a) (.ref b) H Q
  | _, _ => False
theorem g_add : OpR X (binaryOp .Add) (gAdd X.K) := by
  intro pins s σ H x y v u Q I rx ry h
  cases x <;> cases y <;> first | exact h.elim | skip
  case int.int i j => exact op_add pins s σ H _ _ v u Q I rx ry ⟨i, j, rfl, rfl, h⟩
  case str.str i j => exact op_add_str pins s σ H _ _ v u Q I rx ry ⟨i, j, rfl, rfl, h.1, h.2⟩
  case ref.ref a b =>
    rcases h with ⟨xs, zs, h1, h2, h3, h4⟩ | h
    · exact op_cat pins s σ H _ _ v u Q I rx ry ⟨a, b, xs, zs, rfl, rfl, h1, h2, h3, h4⟩
    · exact op_catA pins s σ H _ _ v u Q I rx ry h
def gMul (K : PySem.W.Frag) : R2 := fun x y H Q => match x, y with
  | .int i, .int j => (CMul i j ∨ CMulW i j) ∧ Q (.int (i * j)) H
  | .ref a, .int k => ∃ xs, H a = some (.lst xs) ∧ -(2 ^ 63) ≤ k ∧ k < 2 ^ 63 ∧ xs.length * k.toNat ≤ sizeLine ∧ ∀ p, H p = none → Q (.ref p) (upd H p (.lst (List.replicate k.toNat xs).flatten))
  | _, _ => False
def gSub : R2 := fun x y H Q => match x, y with
  | .int i, .int j => Q (.int (i - j)) H
  | _, _ => False
theorem g_sub : OpR X (binaryOp .Sub) gSub := by
  intro pins s σ H x y v u Q I rx ry h
  cases x <;> cases y <;> first | exact h.elim | skip
  case int.int i j => exact op_sub pins s σ H _ _ v u Q I rx ry ⟨i, j, rfl, rfl, h⟩
/-- any divisor above nought, of fewer than 9,000 bits -/
def gDiv : R2 := fun x y H Q => match x, y with
  | .int i, .int j => CDivW i j ∧ Q (.int (i / j)) H
  | _, _ => False
theorem g_div : OpR X (binaryOp .FloorDiv) gDiv := by
  intro pins s σ H x y v u Q I rx ry h
  cases x <;> cases y <;> first | exact h.elim | skip
  case int.int i j => exact op_fdivW pins s σ H _ _ v u Q I rx ry ⟨i, j, rfl, rfl, h.1, h.2⟩
def gMod : R2 := fun x y H Q => match x, y with
  | .int i, .int j => 0 < j ∧ Q (.int (i % j)) H
  | _, _ => False
theorem g_mod : OpR X (binaryOp .Mod) gMod := by
  intro pins s σ H x y v u Q I rx ry h
  cases x <;> cases y <;> first | exact h.elim | skip
  case int.int i j => exact op_mod pins s σ H _ _ v u Q I rx ry ⟨i, j, rfl, rfl, h.1, h.2⟩
def gPow : R2 := fun x y H Q => match x, y with
  | .int i, .int j => CPow i j ∧ Q (.int (i ^ j.toNat)) H
  | _, _ => False
theorem g_pow : OpR X (binaryOp .Pow) gPow := by
  intro pins s σ H x y v u Q I rx ry h
  cases x <;> cases y <;> first | exact h.elim | skip
  case int.int i j => exact op_pow pins s σ H _ _ v u Q I rx ry ⟨i, j, rfl, rfl, h.1, h.2⟩
def gLt : R2 := fun x y H Q => match x, y with
  | .int i, .int j => Q (.bl (decide (i < j))) H
  | .str i, .str j => Q (.bl (decide (i.cps.toList < j.cps.toList))) H
  | _, _ => False
theorem g_lt : OpR X (compareOp .Lt) gLt := by
  intro pins s σ H x y v u Q I rx ry h
  cases x <;> cases y <;> first | exact h.elim | skip
  case int.int i j => exact op_lt pins s σ H _ _ v u Q I rx ry ⟨i, j, rfl, rfl, h⟩
  case str.str i j => exact op_lt_str pins s σ H _ _ v u Q I rx ry ⟨i, j, rfl, rfl, h⟩
def gLe : R2 := fun x y H Q => match x, y with
  | .int i, .int j => Q (.bl (decide (i ≤ j))) H
  | .str i, .str j => Q (.bl (!decide (j.cps.toList < i.cps.toList))) H
  | _, _ => False
theorem g_le : OpR X (compareOp .LtE) gLe := by
  intro pins s σ H x y v u Q I rx ry h
  cases x <;> cases y <;> first | exact h.elim | skip
  case int.int i j => exact op_le pins s σ H _ _ v u Q I rx ry ⟨i, j, rfl, rfl, h⟩
  case str.str i j => exact op_le_str pins s σ H _ _ v u Q I rx ry ⟨i, j, rfl, rfl, h⟩
def gGt : R2 := fun x y H Q => match x, y with
  | .int i, .int j => Q (.bl (decide (j < i))) H
  | _, _ => False
theorem g_gt : OpR X (compareOp .Gt) gGt := by
  intro pins s σ H x y v u Q I rx ry h
  cases x <;> cases y <;> first | exact h.elim | skip
  case int.int i j => exact op_gt pins s σ H _ _ v u Q I rx ry ⟨i, j, rfl, rfl, h⟩
def gGe : R2 := fun x y H Q => match x, y with
  | .int i, .int j => Q (.bl (decide (j ≤ i))) H
  | _, _ => False
theorem g_ge : OpR X (compareOp .GtE) gGe := by
  intro pins s σ H x y v u Q I rx ry h
  cases x <;> cases y <;> first | exact h.elim | skip
  case int.int i j => exact op_ge pins s σ H _ _ v u Q I rx ry ⟨i, j, rfl, rfl, h⟩
/-- ==: two plain values, or data -/
def gEq (K : PySem.W.Frag) : R2 := fun x y H Q => rEq x y H Q ∨ rEqD K x y H Q
theorem g_eq (hu : X.A.units + 64 < cLine) : OpR X (compareOp .Eq) (gEq X.K) := op_eq.or (op_eqD hu)
def gNe (K : PySem.W.Frag) : R2 := fun x y H Q => rNe x y H Q ∨ rNeD K x y H Q
theorem g_ne (hu : X.A.units + 64 < cLine) : OpR X (compareOp .NotEq) (gNe X.K) := op_ne.or (op_neD hu)
def gIs : R2 := fun x y H Q => match y with
  | .non => Q (.bl (decide (x = .non))) H
  | .bl b => ∃ a, x = .bl a ∧ Q (.bl (decide (a = b))) H
  | _ => False
theorem g_is : OpR X (compareOp .Is) gIs := by
  intro pins s σ H x y v u Q I rx ry h
  cases y <;> first | exact h.elim | skip
  case non => exact op_isN pins s σ H _ _ v u Q I rx ry ⟨rfl, h⟩
  case bl b =>
    obtain ⟨a, rfl, h⟩ := h
    exact op_isBl pins s σ H _ _ v u Q I rx ry ⟨a, b, rfl, rfl, h⟩
def gIsNot : R2 := fun x y H Q => match y with
  | .non => Q (.bl (!decide (x = .non))) H
  | .bl b => ∃ a, x = .bl a ∧ Q (.bl (!decide (a = b))) H
  | _ => False
theorem g_isnot : OpR X (compareOp .IsNot) gIsNot := by
  intro pins s σ H x y v u Q I rx ry h
  cases y <;> first | exact h.elim | skip
  case non => exact op_notN pins s σ H _ _ v u Q I rx ry ⟨rfl, h⟩
  case bl b =>
    obtain ⟨a, rfl, h⟩ := h
    exact op_notBl pins s σ H _ _ v u Q I rx ry ⟨a, b, rfl, rfl, h⟩
/-- in: a sign in a text; a flat thing in a list or tuple of flat things -/
def gIn (K : PySem.W.Frag) : R2 := fun x y H Q => match x, y with
  | .str a, .str z => ∃ c, a = ⟨#[c]⟩ ∧ Q (.bl (decide (c ∈ z.cps.toList))) H
  | x, y => rIn K false x y H Q
theorem g_in : OpR X (compareOp .In) (gIn X.K) := by
  intro pins s σ H x y v u Q I rx ry h
  have two : (∃ a z, x = .str a ∧ y = .str z) ∨ rIn X.K false x y H Q := by
    cases x <;> cases y <;> first | exact .inl ⟨_, _, rfl, rfl⟩ | exact .inr h
  rcases two with ⟨a, z, rfl, rfl⟩ | h
  · obtain ⟨c, rfl, h⟩ := h
    exact op_in_sign pins s σ H _ _ v u Q I rx ry ⟨c, z, rfl, rfl, h⟩
  · exact op_in_seq pins s σ H _ _ v u Q I rx ry h
def gNotIn (K : PySem.W.Frag) : R2 := fun x y H Q => match x, y with
  | .str a, .str z => ∃ c, a = ⟨#[c]⟩ ∧ Q (.bl (!decide (c ∈ z.cps.toList))) H
  | x, y => rIn K true x y H Q
theorem g_notin : OpR X (compareOp .NotIn) (gNotIn X.K) := by
  intro pins s σ H x y v u Q I rx ry h
  have two : (∃ a z, x = .str a ∧ y = .str z) ∨ rIn X.K true x y H Q := by
    cases x <;> cases y <;> first | exact .inl ⟨_, _, rfl, rfl⟩ | exact .inr h
  rcases two with ⟨a, z, rfl, rfl⟩ | h
  · obtain ⟨c, rfl, h⟩ := h
    exact op_notIn_sign pins s σ H _ _ v u Q I rx ry ⟨c, z, rfl, rfl, h⟩
  · exact op_notIn_seq pins s σ H _ _ v u Q I rx ry h
/-- x[i] of a list, a tuple, a text -/
def gIx (K : PySem.W.Frag) : R2 := fun x y H Q => match x, y with
  | .ref p, .int i => ∃ xs v, (SqL K H p xs ∨ SqT K H p xs) ∧ atI xs i = some v ∧ Q v H
  | .str z, .int i => ∃ c, z.length ≤ sizeLine ∧ atI z.cps.toList i = some c ∧ Q (.str ⟨#[c]⟩) H
  | _, _ => False
theorem g_ix : IxR X (gIx X.K) := by
  intro value slice pins s σ H x y v u Q I rx ry h hs
  cases x <;> cases y <;> first | exact h.elim | skip
  case ref.int p i =>
    obtain ⟨xs, z, h1 | h1, h2, h3⟩ := h
    · exact ix_list value slice pins s σ H _ _ v u Q I rx ry ⟨p, xs, i, z, rfl, rfl, h1, h2, h3⟩ hs
    · exact ix_tup value slice pins s σ H _ _ v u Q I rx ry ⟨p, xs, i, z, rfl, rfl, h1, h2, h3⟩ hs
  case str.int z i =>
    obtain ⟨c, h1, h2, h3⟩ := h
    exact ix_str value slice pins s σ H _ _ v u Q I rx ry ⟨z, i, c, rfl, rfl, h1, h2, h3⟩ hs
/-- x[lo:hi] -/
def gSl (K : PySem.W.Frag) : V → Option Int → Option Int → Hp → VK → Prop := fun x lo hi H Q => match x with
  | .str z => z.length ≤ sizeLine ∧ Q (.str (cutS z lo hi)) H
  | .ref a => (∃ xs, SqL K H a xs ∧ ∀ p, H p = none → Q (.ref p) (upd H p (.lst (cutV xs lo hi)))) ∨ rSlA K (.ref a) lo hi H Q
  | _ => False
theorem g_sl : SlR X (gSl X.K) := by
  intro pins s σ H x v vl vu lo hi sl Q I rx hs pl pu h
  cases x <;> first | exact h.elim | skip
  case str z => exact sl_str pins s σ H _ v vl vu lo hi sl Q I rx hs pl pu ⟨z, rfl, h.1, h.2⟩
  case ref a =>
    rcases h with ⟨xs, h1, h2⟩ | h
    · exact sl_list pins s σ H _ v vl vu lo hi sl Q I rx hs pl pu ⟨a, xs, rfl, h1, h2⟩
    · exact sl_tupA pins s σ H _ v vl vu lo hi sl Q I rx hs pl pu h
/-- len -/
def gLen (K : PySem.W.Frag) : List V → Hp → VK → Prop := fun vs H Q => match vs with
  | [.ref p] => ∃ n : Nat, ((∃ ys, (SqL K H p ys ∨ SqT K H p ys) ∧ n = ys.length) ∨ ∃ kvs, H p = some (.dK kvs) ∧ n = kvs.length) ∧ Q (.int n) H
  | [.str z] => z.length ≤ sizeLine ∧ Q (.int z.length) H
  | _ => False
theorem g_len : CallR X (.builtin "len") (gLen X.K) := by
  intro pins s σ H xs us Q I r h
  match xs, h with
  | [.ref p], h =>
    obtain ⟨n, ⟨ys, h1, rfl⟩ | ⟨kvs, h1, rfl⟩, h2⟩ := h
    · exact call_len_seq pins s σ H _ us Q I r ⟨p, ys, rfl, h1, h2⟩
    · exact call_lenD pins s σ H _ us Q I r ⟨p, kvs, rfl, h1, h2⟩
  | [.str z], h => exact call_len_str pins s σ H _ us Q I r ⟨z, rfl, h.1, h.2⟩
/-- max of two numbers, or of a list of them -/
def gMax (K : PySem.W.Frag) : List V → Hp → VK → Prop := fun vs H Q => match vs with
  | [.int i, .int j] => Q (.int (max i j)) H
  | vs => rMax K vs H Q
theorem max_if (i j : Int) : (if j > i then j else i) = max i j := by omega
theorem min_if (i j : Int) : (if j < i then j else i) = min i j := by omega
theorem g_max (hc : X.calm = true) : CallR X (.builtin "max") (gMax X.K) := by
  intro pins s σ H xs us Q I r h
  have two : (∃ i j, xs = [.int i, .int j]) ∨ rMax X.K xs H Q := by
    unfold gMax at h
    split at h
    · exact .inl ⟨_, _, rfl⟩
    · exact .inr h
  rcases two with ⟨i, j, rfl⟩ | h
  · exact call_max2 hc pins s σ H _ us Q I r ⟨i, j, rfl, by rw [max_if]; exact h⟩
  · exact cr_max hc pins s σ H _ us Q I r h
def gMin (K : PySem.W.Frag) : List V → Hp → VK → Prop := fun vs H Q => match vs with
  | [.int i, .int j] => Q (.int (min i j)) H
  | vs => rMin K vs H Q
theorem g_min (hc : X.calm = true) : CallR X (.builtin "min") (gMin X.K) := by
  intro pins s σ H xs us Q I r h
  have two : (∃ i j, xs = [.int i, .int j]) ∨ rMin X.K xs H Q := by
    unfold gMin at h
    split at h
    · exact .inl ⟨_, _, rfl⟩
    · exact .inr h
  rcases two with ⟨i, j, rfl⟩ | h
  · exact call_min2 hc pins s σ H _ us Q I r ⟨i, j, rfl, by rw [min_if]; exact h⟩
  · exact cr_min hc pins s σ H _ us Q I r h
def gInt : List V → Hp → VK → Prop := fun vs H Q => match vs with
  | [.int i] => Q (.int i) H
  | [.bl b] => Q (.int (if b then 1 else 0)) H
  | [.str a] => ∃ n, PySem.intText? a = some n ∧ a.length ≤ 640 ∧ Q (.int n) H
  | _ => False
theorem g_int : CallR X (.type "int") gInt := by
  intro pins s σ H xs us Q I r h
  match xs, h with
  | [.int i], h => exact call_int1 pins s σ H _ us Q I r (.inl ⟨i, rfl, h⟩)
  | [.bl i], h => exact call_int1 pins s σ H _ us Q I r (.inr ⟨i, rfl, h⟩)
  | [.str a], h =>
    obtain ⟨n, h1, h2, h3⟩ := h
    exact call_int_str pins s σ H _ us Q I r ⟨a, n, rfl, h1, h2, h3⟩
/-- list(x): of a list, a tuple -/
def gList (K : PySem.W.Frag) : List V → Hp → VK → Prop := fun vs H Q => match vs with
  | [.ref p] => ∃ ys, (SqL K H p ys ∨ SqT K H p ys) ∧ ∀ l, H l = none → Q (.ref l) (upd H l (.lst ys))
  | _ => False
theorem g_list : CallR X (.type "list") (gList X.K) := by
  intro pins s σ H xs us Q I r h
  match xs, h with
  | [.ref p], h =>
    obtain ⟨ys, h1, h2⟩ := h
    exact call_list_of pins s σ H _ us Q I r ⟨p, ys, rfl, h1, h2⟩
end
end G
set_option Elab.async false
set_option linter.all false
set_option maxRecDepth 100000
set_option maxHeartbeats 4000000
namespace G
open PySem L2
section
variable {X : Cx} {K : PySem.W.Frag}
theorem g_mul : OpR X (binaryOp .Mult) (gMul X.K) := by
  intro pins s σ H x y v u Q I rx ry h
  cases x <;> cases y <;> first | exact h.elim | skip
  case int.int i j =>
    rcases h with ⟨h | h, q⟩
    · exact op_mul pins s σ H _ _ v u Q I rx ry ⟨i, j, rfl, rfl, h, q⟩
    · exact op_mulW pins s σ H _ _ v u Q I rx ry ⟨i, j, rfl, rfl, h, q⟩
  case ref.int a k =>
    obtain ⟨xs, h1, h2, h3, h4, h5⟩ := h
    exact op_rep pins s σ H _ _ v u Q I rx ry ⟨a, k, xs, rfl, rfl, h1, h2, h3, h4, h5⟩
end
def isInt : PyData → Bool | .int _ => true | .bool _ => true | _ => false
def isBool : PyData → Bool | .bool _ => true | _ => false
def isStr : PyData → Bool | .str _ => true | _ => false
def isList : PyData → Bool | .list _ => true | _ => false
def isTup : PyData → Bool | .tuple _ => true | _ => false
def tyN : PyData → String | .none => "NoneType" | .bool _ => "bool" | .int _ => "int" | .str _ => "str" | .list _ => "list" | .tuple _ => "tuple" | .dict _ => "dict"
theorem Rp.ty {K : PySem.W.Frag} {w : Wd} {x : V} {d : PyData} (h : Rp w.S x d) : TyX K w.H x (.type (tyN d)) := by
  cases h with
  | non => exact .base .non
  | bl b => exact .base (.bl b)
  | int i => exact .base (.int i)
  | str s => exact .base (.str s)
  | lst h1 _ => exact .base (.lst (w.ok _ _ h1))
  | tup h1 _ => exact .base (.tup (w.ok _ _ h1))
  | dct h1 => exact .base (.dK (w.ok _ _ h1))
def isT (T : String) (d : PyData) : Option Bool := kitB (tyN d) T
theorem s_isi {K : PySem.W.Frag} {w : Wd} {x : V} {d : PyData} {T : String} {b : Bool} {Q : VK} (h : Rp w.S x d) (e : isT T d = some b) (k : Q (.bl b) w.H) : rIsi K [x, .ty T] w.H Q :=
  ⟨x, .ty T, _, _, b, rfl, .ty T, h.ty, kit_ty e, k⟩
theorem isT_int : ∀ d : PyData, isT "int" d = some (isInt d)
  | .none => (by decide +kernel : kitB "NoneType" "int" = some false)
  | .bool _ => (by decide +kernel : kitB "bool" "int" = some true)
  | .int _ => (by decide +kernel : kitB "int" "int" = some true)
  | .str _ => (by decide +kernel : kitB "str" "int" = some false)
  | .list _ => (by decide +kernel : kitB "list" "int" = some false)
  | .tuple _ => (by decide +kernel : kitB "tuple" "int" = some false)
  | .dict _ => (by decide +kernel : kitB "dict" "int" = some false)
theorem isT_bool : ∀ d : PyData, isT "bool" d = some (isBool d)
  | .none => (by decide +kernel : kitB "NoneType" "bool" = some false)
  | .bool _ => (by decide +kernel : kitB "bool" "bool" = some true)
  | .int _ => (by decide +kernel : kitB "int" "bool" = some false)
  | .str _ => (by decide +kernel : kitB "str" "bool" = some false)
  | .list _ => (by decide +kernel : kitB "list" "bool" = some false)
  | .tuple _ => (by decide +kernel : kitB "tuple" "bool" = some false)
  | .dict _ => (by decide +kernel : kitB "dict" "bool" = some false)
theorem isT_str : ∀ d : PyData, isT "str" d = some (isStr d)
  | .none => (by decide +kernel : kitB "NoneType" "str" = some false)
  | .bool _ => (by decide +kernel : kitB "bool" "str" = some false)
  | .int _ => (by decide +kernel : kitB "int" "str" = some false)
  | .str _ => (by decide +kernel : kitB "str" "str" = some true)
  | .list _ => (by decide +kernel : kitB "list" "str" = some false)
  | .tuple _ => (by decide +kernel : kitB "tuple" "str" = some false)
  | .dict _ => (by decide +kernel : kitB "dict" "str" = some false)
theorem isT_list : ∀ d : PyData, isT "list" d = some (isList d)
  | .none => (by decide +kernel : kitB "NoneType" "list" = some false)
  | .bool _ => (by decide +kernel : kitB "bool" "list" = some false)
  | .int _ => (by decide +kernel : kitB "int" "list" = some false)
  | .str _ => (by decide +kernel : kitB "str" "list" = some false)
  | .list _ => (by decide +kernel : kitB "list" "list" = some true)
  | .tuple _ => (by decide +kernel : kitB "tuple" "list" = some false)
  | .dict _ => (by decide +kernel : kitB "dict" "list" = some false)
theorem isT_tup : ∀ d : PyData, isT "tuple" d = some (isTup d)
  | .none => (by decide +kernel : kitB "NoneType" "tuple" = some false)
  | .bool _ => (by decide +kernel : kitB "bool" "tuple" = some false)
  | .int _ => (by decide +kernel : kitB "int" "tuple" = some false)
  | .str _ => (by decide +kernel : kitB "str" "tuple" = some false)
  | .list _ => (by decide +kernel : kitB "list" "tuple" = some false)
  | .tuple _ => (by decide +kernel : kitB "tuple" "tuple" = some true)
  | .dict _ => (by decide +kernel : kitB "dict" "tuple" = some false)
section
variable {X : Cx} {K : PySem.W.Frag} {σ σ' : L2.St} {H : Hp} {Q : VK} {v x y : V} {i n : Nat} {ta tb tc te : TE} {t u : TT} {r r' : R2} {D : Ends} {A : TA} {w : Wd} {vs : List V}
theorem s_seq {t u : TS} (k : t { D with nx := u D } σ H) : tSeq t u D σ H := k
theorem s_next (k : D.nx σ H) : tNext D σ H := k
theorem s_asg {g : TG} (k : te σ H fun x H1 => g x σ H1 D.nx) : tAsg te g D σ H := k
theorem s_gname {R : L2.St → Hp → Prop} (e : σ.set i (some v) = σ') (k : R σ' H) : gName i v σ H R := by subst e; exact k
theorem s_drop (k : te σ H fun _ H1 => D.nx σ H1) : tDrop te D σ H := k
theorem s_ret (k : te σ H D.rt) : tRet te D σ H := k
theorem s_retN (k : D.rt .non H) : tRetN D σ H := k
theorem s_ifS {c : TT} {t u : TS} (k : c σ H fun b H1 => if b = true then t D σ H1 else u D σ H1) : tIfS c t u D σ H := k
theorem s_var (e : σ[i]? = some (some v)) (k : Q v H) : tVar i σ H Q := ⟨v, e, k⟩
theorem s_c (k : Q v H) : tC v σ H Q := k
theorem s_op (k : ta σ H fun x H1 => tb σ H1 fun y H2 => r x y H2 Q) : tOp r ta tb σ H Q := k
theorem s_un {r : V → Hp → VK → Prop} (k : ta σ H fun x H1 => r x H1 Q) : tUn r ta σ H Q := k
theorem s_neg {j : Int} (k : Q (.int (-j)) H) : (rU fun i => .int (-i)) (.int j) H Q := ⟨j, rfl, k⟩
theorem s_test {R : Bool → Hp → Prop} (k : te σ H fun x H' => ∃ k, x = .bl k ∧ R k H') : tTest te σ H R := k
theorem s_B {R : Bool → Hp → Prop} (k : te σ H fun x H1 => ∃ c, x = .bl c ∧ R c H1) : tB te σ H R := k
theorem s_bl {b : Bool} {P : Bool → Prop} (k : P b) : ∃ c, V.bl b = V.bl c ∧ P c := ⟨b, rfl, k⟩
theorem s_and {R : Bool → Hp → Prop} (k : t σ H fun c H1 => if c = true then u σ H1 R else R false H1) : tAnd t u σ H R := k
theorem s_or {R : Bool → Hp → Prop} (k : t σ H fun c H1 => if c = true then R true H1 else u σ H1 R) : tOr t u σ H R := k
theorem s_not {R : Bool → Hp → Prop} (k : t σ H fun c H1 => R (!c) H1) : tNot t σ H R := k
theorem s_andV (k : ta σ H fun x H1 => ∃ c, x = .bl c ∧ if c = true then tb σ H1 Q else Q (.bl false) H1) : tAndV ta tb σ H Q := k
theorem s_notV (k : ta σ H fun x H1 => ∃ c, x = .bl c ∧ Q (.bl (!c)) H1) : tNotV ta σ H Q := k
theorem s_chain (k : ta σ H fun x H1 => tb σ H1 fun y H2 => r x y H2 fun z H3 => ∃ k, z = .bl k ∧ (if k = true then tc σ H3 fun w' H4 => r' y w' H4 Q else Q (.bl false) H3)) : tChain r r' ta tb tc σ H Q := k
theorem s_nil {R : List V → Hp → Prop} (k : R [] H) : tNil σ H R := k
theorem s_cons {tr : TA} {R : List V → Hp → Prop} (k : ta σ H fun x H1 => tr σ H1 fun xs H2 => R (x :: xs) H2) : tCons ta tr σ H R := k
theorem s_CB {r : List V → Hp → VK → Prop} (k : A σ H fun vs H1 => r vs H1 Q) : tCB r A σ H Q := k
theorem s_call {sp : L2.Sp} {dvs : List V} {E : XK} (k : A σ H fun vs H1 => sp (vs ++ dvs) H1 Q E) : tCall sp dvs E A σ H Q := k
theorem s_BM {T : String} {r : V → List V → Hp → VK → Prop} {to : TE} (k : to σ H fun x H1 => tyV K T x H1 ∧ A σ H1 fun xs H2 => r x xs H2 Q) : tBM K T r to A σ H Q := k
theorem s_sl {r : V → Option Int → Option Int → Hp → VK → Prop} {tl th : TO} (k : te σ H fun x H1 => tl σ H1 fun l H2 => th σ H2 fun u H3 => r x l u H3 Q) : tSl r te tl th σ H Q := k
theorem s_nopart {R : Option Int → Hp → Prop} (k : R none H) : tNoPart σ H R := k
theorem s_part {R : Option Int → Hp → Prop} (k : te σ H fun x H1 => ∃ i, x = .int i ∧ R (some i) H1) : tPart te σ H R := k
theorem s_int {j : Int} {P : Int → Prop} (k : P j) : ∃ i, V.int j = V.int i ∧ P i := ⟨j, rfl, k⟩
theorem s_add {a b : Int} (k : Q (.int (a + b)) H) : gAdd K (.int a) (.int b) H Q := k
theorem s_sub {a b : Int} (k : Q (.int (a - b)) H) : gSub (.int a) (.int b) H Q := k
theorem s_mul {a b : Int} (h : CMul a b ∨ CMulW a b) (k : Q (.int (a * b)) H) : gMul K (.int a) (.int b) H Q := ⟨h, k⟩
theorem s_div {a b : Int} (h : CDivW a b) (k : Q (.int (a / b)) H) : gDiv (.int a) (.int b) H Q := ⟨h, k⟩
theorem s_mod {a b : Int} (h : 0 < b) (k : Q (.int (a % b)) H) : gMod (.int a) (.int b) H Q := ⟨h, k⟩
theorem s_lt {a b : Int} (k : Q (.bl (decide (a < b))) H) : gLt (.int a) (.int b) H Q := k
theorem s_le {a b : Int} (k : Q (.bl (decide (a ≤ b))) H) : gLe (.int a) (.int b) H Q := k
theorem s_gt {a b : Int} (k : Q (.bl (decide (b < a))) H) : gGt (.int a) (.int b) H Q := k
theorem s_ge {a b : Int} (k : Q (.bl (decide (b ≤ a))) H) : gGe (.int a) (.int b) H Q := k
theorem s_eqI {a b : Int} (k : Q (.bl (decide (a = b))) H) : gEq K (.int a) (.int b) H Q := .inl ⟨rfl, by
  have e : decide (V.int a = V.int b) = decide (a = b) := by by_cases h : a = b <;> simp [h]
  rw [e]; exact k⟩
theorem s_eqS {a b : Str} (k : Q (.bl (decide (a = b))) H) : gEq K (.str a) (.str b) H Q := .inl ⟨rfl, by
  have e : decide (V.str a = V.str b) = decide (a = b) := by by_cases h : a = b <;> simp [h]
  rw [e]; exact k⟩
theorem s_neI {a b : Int} (k : Q (.bl (decide (a ≠ b))) H) : gNe K (.int a) (.int b) H Q := .inl ⟨rfl, by
  have e : (!decide (V.int a = V.int b)) = decide (a ≠ b) := by by_cases h : a = b <;> simp [h]
  rw [e]; exact k⟩
theorem s_isN (k : Q (.bl (decide (x = .non))) H) : gIs x .non H Q := k
theorem s_notN (k : Q (.bl (!decide (x = .non))) H) : gIsNot x .non H Q := k
theorem s_max {a b : Int} (k : Q (.int (max a b)) H) : gMax K [.int a, .int b] H Q := k
theorem s_min {a b : Int} (k : Q (.int (min a b)) H) : gMin K [.int a, .int b] H Q := k
theorem s_intb {a : Bool} (k : Q (.int (if a then 1 else 0)) H) : gInt [.bl a] H Q := k
theorem s_ixT {p : Addr} {j : Int} (h : w.S p = some (.tup vs)) (e : atI vs j = some v) (k : Q v w.H) : gIx K (.ref p) (.int j) w.H Q := ⟨vs, v, .inr (SqT.of (w.ok _ _ h)), e, k⟩
theorem s_ixL {p : Addr} {j : Int} (h : w.S p = some (.lst vs)) (e : atI vs j = some v) (k : Q v w.H) : gIx K (.ref p) (.int j) w.H Q := ⟨vs, v, .inl (SqL.of (w.ok _ _ h)), e, k⟩
theorem s_ixO {p : Addr} {j : Int} (h : Own w p (.lst vs)) (e : atI vs j = some v) (k : Q v w.H) : gIx K (.ref p) (.int j) w.H Q := ⟨vs, v, .inl (SqL.of h.h), e, k⟩
theorem s_lenT {p : Addr} (h : w.S p = some (.tup vs)) (k : Q (.int vs.length) w.H) : gLen K [.ref p] w.H Q := ⟨_, .inl ⟨vs, .inr (SqT.of (w.ok _ _ h)), rfl⟩, k⟩
theorem s_lenL {p : Addr} (h : w.S p = some (.lst vs)) (k : Q (.int vs.length) w.H) : gLen K [.ref p] w.H Q := ⟨_, .inl ⟨vs, .inl (SqL.of (w.ok _ _ h)), rfl⟩, k⟩
theorem s_lenO {p : Addr} (h : Own w p (.lst vs)) (k : Q (.int vs.length) w.H) : gLen K [.ref p] w.H Q := ⟨_, .inl ⟨vs, .inl (SqL.of h.h), rfl⟩, k⟩
theorem s_lenK {p : Addr} (h : SqL K w.H p vs) (k : Q (.int vs.length) w.H) : gLen K [.ref p] w.H Q := ⟨_, .inl ⟨vs, .inl h, rfl⟩, k⟩
theorem s_setL {l : Addr} {j : Int} {m : Nat} {R : Hp → Prop} (h : Own w l (.lst vs)) (e : ixN vs.length j = some m) (k : ∀ u, Ext (One l) w u → Own u l (.lst (vs.set m v)) → R u.H) : rSetL (.ref l) (.int j) v w.H R :=
  ⟨l, vs, j, m, rfl, rfl, h.h, e, put (R := R) h k⟩
theorem ty_own {l : Addr} (h : Own w l (.lst vs)) : tyV K "list" (.ref l) w.H := .inl ⟨rfl, vs, SqL.of h.h⟩
theorem s_dget {td ty : TE} (k : td σ H fun x H1 => ty σ H1 fun y H2 => ∃ a v, x = .ref a ∧ DGet H2 a y (some v) ∧ Q v H2) : tDGet td ty σ H Q := k
theorem s_dput {td ty tv : TE} (k : tv σ H fun v H1 => td σ H1 fun x H2 => ty σ H2 fun y H3 => ∃ a H4, x = .ref a ∧ DPut H3 a y v H4 ∧ D.nx σ H4) : sDPut td ty tv D σ H := k
theorem ite_b {A B : Prop} {c : Bool} (k1 : c = true → A) (k2 : c = false → B) : if c = true then A else B := by
  cases c with
  | true => exact k1 rfl
  | false => exact k2 rfl
theorem ite_d {A B p : Prop} [Decidable p] (k1 : p → A) (k2 : ¬ p → B) : if decide p = true then A else B := by
  by_cases h : p
  · rw [decide_eq_true h]; exact k1 h
  · rw [decide_eq_false h]; exact k2 h
theorem ite_nd {A B p : Prop} [Decidable p] (k1 : ¬ p → A) (k2 : p → B) : if (!decide p) = true then A else B := by
  by_cases h : p
  · rw [decide_eq_true h]; exact k2 h
  · rw [decide_eq_false h]; exact k1 h
theorem ite_n {A B : Prop} {c : Bool} (k1 : c = false → A) (k2 : c = true → B) : if (!c) = true then A else B := by
  cases c with
  | true => exact k2 rfl
  | false => exact k1 rfl
end
/-- an iterator by worlds -/
structure WWalk (J : It) (n : Nat) (G : Wd → Prop) (Y : Nat → Wd → V → Wd → Prop) : Prop where
  goes : ∀ i w, i < n → G w → J.go i w.H
  stops : ∀ w, G w → J.stop n w.H
  yields : ∀ i w x H', i < n → G w → J.yld i w.H x H' → ∃ v : Wd, v.H = H' ∧ Y i w x v
def wds (P : L2.St → Wd → Prop) : L2.St → Hp → Prop := fun σ H => ∃ u : Wd, u.H = H ∧ P σ u
theorem wds_i {P : L2.St → Wd → Prop} {σ : L2.St} {w : Wd} (h : P σ w) : wds P σ w.H := ⟨w, rfl, h⟩
section
variable {J : It} {n : Nat} {G : Wd → Prop} {Y : Nat → Wd → V → Wd → Prop} {K : PySem.W.Frag}
theorem forW (k : WWalk J n G Y) {g : TG} {tb : TS} {D : Ends} {σ : L2.St} {w : Wd} (Pv : Nat → L2.St → Wd → Prop) (h0 : Pv 0 σ w) (hG : ∀ i σ w, i ≤ n → Pv i σ w → G w)
    (hs : ∀ i x σ w v, i < n → Pv i σ w → Y i w x v → g x σ v.H fun σ2 H2 => tb { D with nx := wds (Pv (i + 1)), ct := wds (Pv (i + 1)), bk := D.nx } σ2 H2) (hd : ∀ σ w, Pv n σ w → D.nx σ w.H) :
    ∃ W : Nat → Nat → L2.St → Hp → Prop, (∃ m, W 0 m σ w.H) ∧ ∀ i m σ H, W i m σ H →
      (J.stop i H ∧ D.nx σ H) ∨ (J.go i H ∧ ∃ N : L2.St → Hp → Prop, (∀ σ' H', N σ' H' → ∃ m', m' < m ∧ W (i + 1) m' σ' H') ∧ ∀ x H', J.yld i H x H' → g x σ H' fun σ2 H2 => tb { D with nx := N, ct := N, bk := D.nx } σ2 H2) := by
  refine ⟨fun i m σ H => m = n - i ∧ i ≤ n ∧ wds (Pv i) σ H, ⟨n, by simp, Nat.zero_le _, w, rfl, h0⟩, ?_⟩
  rintro i m σ H ⟨rfl, hi, u, rfl, p⟩
  have q := hG i σ u hi p
  by_cases hlt : i < n
  · refine .inr ⟨k.goes i u hlt q, wds (Pv (i + 1)), fun σ' H' p' => ⟨n - (i + 1), by omega, rfl, hlt, p'⟩, fun x H' y => ?_⟩
    obtain ⟨v, rfl, yv⟩ := k.yields i u x H' hlt q y
    exact hs i x σ u v hlt p yv
  · have e : i = n := by omega
    subst e
    exact .inl ⟨k.stops u q, hd σ u p⟩
/-- a comprehension: the new list at D holds acc -/
def lcN (D : Addr) (P : Wd → List V → Prop) : Hp → Prop := fun H => ∃ (u : Wd) (acc : List V), u.H = H ∧ Own u D (.lst acc) ∧ P u acc
theorem lcN_i {D : Addr} {P : Wd → List V → Prop} {u : Wd} {acc : List V} (o : Own u D (.lst acc)) (h : P u acc) : lcN D P u.H := ⟨u, acc, rfl, o, h⟩
theorem lc_put {D : Addr} {P : Wd → List V → Prop} {u : Wd} {acc : List V} {y : V} (o : Own u D (.lst acc)) (z : acc.length < sizeLine) (k : ∀ v, Ext (One D) u v → Own v D (.lst (acc ++ [y])) → P v (acc ++ [y])) :
    ∃ acc, u.H D = some (.lst acc) ∧ acc.length < sizeLine ∧ lcN D P (upd u.H D (.lst (acc ++ [y]))) :=
  ⟨acc, o.h, z, put (R := lcN D P) o fun v e ov => ⟨v, _, rfl, ov, k v e ov⟩⟩
theorem lcW (k : WWalk J n G Y) {g : TG} {tt : TT} {te : TE} {vs : List Nat} {σ : L2.St} {w : Wd} {D : Addr} {Qd : Hp → Prop} (Pv : Nat → Wd → List V → Prop) (hD : w.H D = none)
    (h0 : ∀ u, Ext Non w u → Own u D (.lst []) → Pv 0 u []) (hG : ∀ i u acc, i ≤ n → Pv i u acc → G u)
    (hs : ∀ i x u v acc, i < n → Own u D (.lst acc) → Pv i u acc → Y i u x v → g x (wipe σ vs) v.H fun σ2 H2 => wipe σ2 vs = wipe σ vs ∧ tt σ2 H2 fun b H3 =>
      if b = true then te σ2 H3 fun y H4 => ∃ acc, H4 D = some (.lst acc) ∧ acc.length < sizeLine ∧ lcN D (Pv (i + 1)) (upd H4 D (.lst (acc ++ [y]))) else lcN D (Pv (i + 1)) H3)
    (hd : ∀ u acc, Pv n u acc → Own u D (.lst acc) → Qd u.H) :
    ∃ W : Nat → Nat → Hp → Prop, (∃ m, W 0 m (upd w.H D (.lst []))) ∧ ∀ i m H, W i m H →
      (J.stop i H ∧ Qd H) ∨ (J.go i H ∧ ∃ Nx : Hp → Prop, (∀ H', Nx H' → ∃ m', m' < m ∧ W (i + 1) m' H') ∧ ∀ x H', J.yld i H x H' → g x (wipe σ vs) H' fun σ2 H2 => wipe σ2 vs = wipe σ vs ∧ tt σ2 H2 fun b H3 =>
        if b = true then te σ2 H3 fun y H4 => ∃ acc, H4 D = some (.lst acc) ∧ acc.length < sizeLine ∧ Nx (upd H4 D (.lst (acc ++ [y]))) else Nx H3) := by
  refine ⟨fun i m H => m = n - i ∧ i ≤ n ∧ lcN D (Pv i) H, ⟨n, by simp, Nat.zero_le _, ?_⟩, ?_⟩
  · have z := newO (w := w) (o := .lst []) (Q := fun _ H => H = upd w.H D (.lst []) → lcN D (Pv 0) (upd w.H D (.lst []))) (fun p v e hp o hq => ?_) D hD rfl
    · exact z
    · have ep : p = D := by
        by_cases ep : p = D
        · exact ep
        · have h1 : v.H p = some (.lst []) := o.h
          rw [hq, upd_ne ep, hp] at h1
          cases h1
      subst ep
      exact ⟨v, [], hq, o, h0 v e o⟩
  rintro i m H ⟨rfl, hi, u, acc, rfl, o, p⟩
  have q := hG i u acc hi p
  by_cases hlt : i < n
  · refine .inr ⟨k.goes i u hlt q, lcN D (Pv (i + 1)), fun H' p' => ⟨n - (i + 1), by omega, rfl, hlt, p'⟩, fun x H' y => ?_⟩
    obtain ⟨v, rfl, yv⟩ := k.yields i u x H' hlt q y
    exact hs i x u v acc hlt o p yv
  · have e : i = n := by omega
    subst e
    exact .inl ⟨k.stops u q, hd u acc p o⟩
theorem s_Lc {wi : TI} {g : TG} {tt : TT} {te : TE} {vs : List Nat} {σ : L2.St} {H : Hp} {Q : VK} (k : wi σ H fun J H1 => ∀ D, H1 D = none → ∃ W : Nat → Nat → Hp → Prop, (∃ m, W 0 m (upd H1 D (.lst []))) ∧ ∀ i m H, W i m H →
  (J.stop i H ∧ Q (.ref D) H) ∨ (J.go i H ∧ ∃ Nx : Hp → Prop, (∀ H', Nx H' → ∃ m', m' < m ∧ W (i + 1) m' H') ∧ ∀ x H', J.yld i H x H' → g x (wipe σ vs) H' fun σ2 H2 => wipe σ2 vs = wipe σ vs ∧ tt σ2 H2 fun b H3 =>
    if b = true then te σ2 H3 fun y H4 => ∃ acc, H4 D = some (.lst acc) ∧ acc.length < sizeLine ∧ Nx (upd H4 D (.lst (acc ++ [y]))) else Nx H3)) : tLc wi g tt te vs σ H Q := k
def YI (xs : List V) : Nat → Wd → V → Wd → Prop := fun i w x v => v = w ∧ xs[i]? = some x
theorem ww_list {a : Addr} {xs : List V} : WWalk (Itl K a) xs.length (fun w => SqL K w.H a xs) (YI xs) :=
  ⟨fun i w h q => (walk_list (K := K)).goes i w.H h q, fun w q => (walk_list (K := K)).stops w.H q, fun i w x H' h q y => by
    obtain ⟨e, h2⟩ := (walk_list (K := K)).yields i w.H x H' h q y
    exact ⟨w, e.symm, rfl, h2⟩⟩
theorem ww_tup {a : Addr} {xs : List V} : WWalk (Itt K a) xs.length (fun w => SqT K w.H a xs) (YI xs) :=
  ⟨fun i w h q => (walk_tup (K := K)).goes i w.H h q, fun w q => (walk_tup (K := K)).stops w.H q, fun i w x H' h q y => by
    obtain ⟨e, h2⟩ := (walk_tup (K := K)).yields i w.H x H' h q y
    exact ⟨w, e.symm, rfl, h2⟩⟩
theorem ww_range {lo : Int} {m : Nat} : WWalk (Itr lo m) m (fun _ => True) (fun i w x v => v = w ∧ x = .int (lo + i)) :=
  ⟨fun i w h q => walk_range.goes i w.H h q, fun w q => walk_range.stops w.H q, fun i w x H' h q y => by
    obtain ⟨e, h2⟩ := walk_range.yields i w.H x H' h q y
    exact ⟨w, e.symm, rfl, h2⟩⟩
theorem ww_str {z : Str} : WWalk (Its z) z.cps.size (fun _ => True) (fun i w x v => v = w ∧ ∃ c, z.cps[i]? = some c ∧ x = .str ⟨#[c]⟩) :=
  ⟨fun i w h q => walk_str.goes i w.H h q, fun w q => walk_str.stops w.H q, fun i w x H' h q y => by
    obtain ⟨e, h2⟩ := walk_str.yields i w.H x H' h q y
    exact ⟨w, e.symm, rfl, h2⟩⟩
theorem s_for {wi : TI} {g : TG} {tb : TS} {D : Ends} {σ : L2.St} {H : Hp} (k : wi σ H fun J H1 => ∃ W : Nat → Nat → L2.St → Hp → Prop, (∃ m, W 0 m σ H1) ∧ ∀ i m σ H, W i m σ H →
  (J.stop i H ∧ D.nx σ H) ∨ (J.go i H ∧ ∃ N : L2.St → Hp → Prop, (∀ σ' H', N σ' H' → ∃ m', m' < m ∧ W (i + 1) m' σ' H') ∧ ∀ x H', J.yld i H x H' → g x σ H' fun σ2 H2 => tb { D with nx := N, ct := N, bk := D.nx } σ2 H2)) : tFor wi g tb D σ H := k
theorem s_iList {te : TE} {σ : L2.St} {H : Hp} {R : It → Hp → Prop} (k : te σ H fun x H1 => ∃ a, x = .ref a ∧ (∃ xs, SqL K H1 a xs) ∧ R (Itl K a) H1) : iList K te σ H R := k
theorem s_iTup {te : TE} {σ : L2.St} {H : Hp} {R : It → Hp → Prop} (k : te σ H fun x H1 => ∃ a, x = .ref a ∧ (∃ xs, SqT K H1 a xs) ∧ R (Itt K a) H1) : iTup K te σ H R := k
theorem s_iRng1 {ta : TA} {σ : L2.St} {H : Hp} {R : It → Hp → Prop} (k : ta σ H fun vs H1 => ∃ j : Int, vs = [.int j] ∧ -(2 ^ 62) ≤ j ∧ j < 2 ^ 62 ∧ R (Itr 0 j.toNat) H1) : iRng1 ta σ H R := k
theorem s_iStr {te : TE} {σ : L2.St} {H : Hp} {R : It → Hp → Prop} (k : te σ H fun v H1 => ∃ x, v = .str x ∧ R (Its x) H1) : iStr te σ H R := k
end
end G
namespace G
open PySem L2
theorem nm_one {l k : Addr} (h : l ≠ k) : ¬ One k l := h
theorem own_ne {w : Wd} {l k : Addr} {o u : HO} (h : Own w l o) (h' : Own w k u) (d : o ≠ u) : l ≠ k := ne_of h.h h'.h d
theorem sq_go {K : PySem.W.Frag} {w v : Wd} {a : Addr} {xs : List V} {m : Addr → Prop} (e : Ext m w v) (h : SqL K w.S a xs) : SqL K v.S a xs := e.st.seq h
theorem tch_one {u : Wd} {m : Addr → Prop} {k : Addr} (h : u.H k = none ∨ m k) : ∀ l, One k l → u.H l = none ∨ m l := fun l e => by
  have e : l = k := e
  rw [e]; exact h
theorem ite_tt {A B : Prop} (k : A) : if true = true then A else B := by rw [if_pos rfl]; exact k
theorem ite_ff {A B : Prop} (k : B) : if false = true then A else B := by rw [if_neg (by decide)]; exact k
def pr1 (P : Wd → V → VK → XK → Prop) : L2.Sp := fun vs H Q E => ∃ (w : Wd) (a : V), w.H = H ∧ vs = [a] ∧ P w a Q E
def pr2 (P : Wd → V → V → VK → XK → Prop) : L2.Sp := fun vs H Q E => ∃ (w : Wd) (a b : V), w.H = H ∧ vs = [a, b] ∧ P w a b Q E
def pr3 (P : Wd → V → V → V → VK → XK → Prop) : L2.Sp := fun vs H Q E => ∃ (w : Wd) (a b c : V), w.H = H ∧ vs = [a, b, c] ∧ P w a b c Q E
def pr4 (P : Wd → V → V → V → V → VK → XK → Prop) : L2.Sp := fun vs H Q E => ∃ (w : Wd) (a b c d : V), w.H = H ∧ vs = [a, b, c, d] ∧ P w a b c d Q E
section
variable {vs : List V} {H : Hp} {Q : VK} {E : XK} {w : Wd} {a b c d : V}
theorem len1 {P} (h : pr1 P vs H Q E) : vs.length = 1 := by obtain ⟨_, _, _, rfl, _⟩ := h; rfl
theorem len2 {P} (h : pr2 P vs H Q E) : vs.length = 2 := by obtain ⟨_, _, _, _, rfl, _⟩ := h; rfl
theorem len3 {P} (h : pr3 P vs H Q E) : vs.length = 3 := by obtain ⟨_, _, _, _, _, rfl, _⟩ := h; rfl
theorem len4 {P} (h : pr4 P vs H Q E) : vs.length = 4 := by obtain ⟨_, _, _, _, _, _, rfl, _⟩ := h; rfl
theorem s_pr1 {P} (h : P w a Q E) : pr1 P ([a] ++ []) w.H Q E := ⟨w, a, rfl, rfl, h⟩
theorem s_pr2 {P} (h : P w a b Q E) : pr2 P ([a, b] ++ []) w.H Q E := ⟨w, a, b, rfl, rfl, h⟩
theorem s_pr3 {P} (h : P w a b c Q E) : pr3 P ([a, b, c] ++ []) w.H Q E := ⟨w, a, b, c, rfl, rfl, h⟩
theorem s_pr4 {P} (h : P w a b c d Q E) : pr4 P ([a, b, c, d] ++ []) w.H Q E := ⟨w, a, b, c, d, rfl, rfl, h⟩
end
structure Fnc (P : Program) (w : World) (K : PySem.W.Frag) (mg : Str → Option Value) (base : Heap) (CX : CXT) (k : Nat) (x : Str) (sp : L2.Sp) : Prop where
  ex : ∃ (f : Addr) (fd : FuncData) (ps : List Str), FnOk P w K mg base CX k f fd ps sp ∧ mg x = some (.ref f) ∧ PySem.W.keepIn K (.ref f) = true ∧ Binds K fd ps []
section
variable {X : Cx} {k j : Nat} {x : Str} {sp : L2.Sp} {p pos : Pos} {e : Expr} {es : List Expr} {t : TA} {CX : CXT} {E : XK}
theorem pe_fn (c : Fnc X.prog X.w X.K X.mg X.base CX k x sp) (hr : Room j X.A) (hk : k ≤ j) (hx : Passes CX X E) (ha : PA X (e :: es) t) (hg : Gl X x := by rfl)
    (he : starEach (e :: es) X.env = (false, eval e X.env) :: starEach es X.env := by rfl) (hpl : (backTo pos (starEach es X.env)).any (·.1) = false := by rfl) (hd : (x == ("__debug__" : Str)) = false := by decide) :
    PE X (.Call (.Name x p) (e :: es) [] pos) (tCall sp [] E t) := by
  obtain ⟨f, fd, ps, F, hm, hkp, hb⟩ := c.ex
  exact pe_call F (hr.mono hk) hg hm hkp hb .nil hx ha hd he hpl
end
end G
namespace G
open PySem L2
section
variable {X : Cx}
theorem kAdd (K : PySem.W.Frag) (e : X.K = K := by rfl) : OpR X (binaryOp .Add) (gAdd K) := e ▸ g_add
theorem kMul (K : PySem.W.Frag) (e : X.K = K := by rfl) : OpR X (binaryOp .Mult) (gMul K) := e ▸ g_mul
theorem kEq (K : PySem.W.Frag) (hu : X.A.units + 64 < cLine) (e : X.K = K := by rfl) : OpR X (compareOp .Eq) (gEq K) := e ▸ g_eq hu
theorem kNe (K : PySem.W.Frag) (hu : X.A.units + 64 < cLine) (e : X.K = K := by rfl) : OpR X (compareOp .NotEq) (gNe K) := e ▸ g_ne hu
theorem kIn (K : PySem.W.Frag) (e : X.K = K := by rfl) : OpR X (compareOp .In) (gIn K) := e ▸ g_in
theorem kNotIn (K : PySem.W.Frag) (e : X.K = K := by rfl) : OpR X (compareOp .NotIn) (gNotIn K) := e ▸ g_notin
theorem kIx (K : PySem.W.Frag) (e : X.K = K := by rfl) : IxR X (gIx K) := e ▸ g_ix
theorem kSl (K : PySem.W.Frag) (e : X.K = K := by rfl) : SlR X (gSl K) := e ▸ g_sl
theorem kLen (K : PySem.W.Frag) (e : X.K = K := by rfl) : CallR X (.builtin "len") (gLen K) := e ▸ g_len
theorem kMax (K : PySem.W.Frag) (hc : X.calm = true) (e : X.K = K := by rfl) : CallR X (.builtin "max") (gMax K) := e ▸ g_max hc
theorem kMin (K : PySem.W.Frag) (hc : X.calm = true) (e : X.K = K := by rfl) : CallR X (.builtin "min") (gMin K) := e ▸ g_min hc
theorem kAll (K : PySem.W.Frag) (hc : X.calm = true) (e : X.K = K := by rfl) : CallR X (.builtin "all") (rAll K) := e ▸ cr_all hc
theorem kSortedP (K : PySem.W.Frag) (e : X.K = K := by rfl) : CallR X (.builtin "sorted") (rSortedPO K) := e ▸ cr_sortedPO
theorem kList (K : PySem.W.Frag) (e : X.K = K := by rfl) : CallR X (.type "list") (gList K) := e ▸ g_list
theorem kIsi (K : PySem.W.Frag) (e : X.K = K := by rfl) : CallR X (.builtin "isinstance") (rIsi K) := e ▸ call_isi
theorem kpList (K : PySem.W.Frag) {tg l : Expr} {tl : TE} (hl : PE X l tl) (e : X.K = K := by rfl) : PI X tg l (iList K tl) := e ▸ pi_list hl
theorem kpTup (K : PySem.W.Frag) {tg l : Expr} {tl : TE} (hl : PE X l tl) (e : X.K = K := by rfl) : PI X tg l (iTup K tl) := e ▸ pi_tup hl
theorem kgTup (K : PySem.W.Frag) {es : List Expr} {k : Nat} {t : TGs} {n : Nat} {pos : Pos} (hc : X.calm = true) (h : PGs X es t) (e : X.K = K := by rfl) (hn : (assignEach es X.env).length = n := by rfl)
    (hst : (assignEach es X.env).findIdx? (·.1) = none := by rfl) : PG X (.Tuple es k pos) (gTup K n t) := e ▸ pg_tup hc h hn hst
end
end G
set_option Elab.async false
set_option linter.all false
set_option maxRecDepth 100000
set_option maxHeartbeats 4000000
namespace G
open PySem L2
theorem kb_NoneType_int : kitB "NoneType" "int" = some false := by decide +kernel
theorem kb_bool_int : kitB "bool" "int" = some true := by decide +kernel
section
variable {K : PySem.W.Frag} {w : Wd} {H : Hp} {Q : VK} {T : String} {b : Bool} {x : V} {d : PyData}
theorem si_int {z : Int} (e : kitB "int" T = some b) (k : Q (.bl b) H) : rIsi K [.int z, .ty T] H Q := ⟨(.int z), .ty T, _, _, b, rfl, .ty T, .base (.int _), kit_ty e, k⟩
theorem si_str {z : Str} (e : kitB "str" T = some b) (k : Q (.bl b) H) : rIsi K [.str z, .ty T] H Q := ⟨(.str z), .ty T, _, _, b, rfl, .ty T, .base (.str _), kit_ty e, k⟩
theorem sd_int (h : Rp w.S x d) (k : Q (.bl (isInt d)) w.H) : rIsi K [x, .ty "int"] w.H Q := s_isi h (isT_int d) k
theorem sd_bool (h : Rp w.S x d) (k : Q (.bl (isBool d)) w.H) : rIsi K [x, .ty "bool"] w.H Q := s_isi h (isT_bool d) k
theorem sd_str (h : Rp w.S x d) (k : Q (.bl (isStr d)) w.H) : rIsi K [x, .ty "str"] w.H Q := s_isi h (isT_str d) k
theorem sd_list (h : Rp w.S x d) (k : Q (.bl (isList d)) w.H) : rIsi K [x, .ty "list"] w.H Q := s_isi h (isT_list d) k
theorem sd_tuple (h : Rp w.S x d) (k : Q (.bl (isTup d)) w.H) : rIsi K [x, .ty "tuple"] w.H Q := s_isi h (isT_tup d) k
end
theorem isTup_inv {d : PyData} (h : isTup d = true) : ∃ ds, d = .tuple ds := by cases d <;> first | exact ⟨_, rfl⟩ | cases h
theorem isList_inv {d : PyData} (h : isList d = true) : ∃ ds, d = .list ds := by cases d <;> first | exact ⟨_, rfl⟩ | cases h
theorem isStr_inv {d : PyData} (h : isStr d = true) : ∃ ds, d = .str ds := by cases d <;> first | exact ⟨_, rfl⟩ | cases h
def isNum (d : PyData) : Bool := isInt d && !isBool d
theorem isNum_inv {d : PyData} (h : isNum d = true) : ∃ i, d = .int i := by cases d <;> first | exact ⟨_, rfl⟩ | cases h
theorem sqt_of {K : PySem.W.Frag} {w : Wd} {p : Addr} {vs : List V} (h : w.S p = some (.tup vs)) : SqT K w.H p vs := SqT.of (w.ok _ _ h)
theorem sql_of {K : PySem.W.Frag} {w : Wd} {p : Addr} {vs : List V} (h : w.S p = some (.lst vs)) : SqL K w.H p vs := SqL.of (w.ok _ _ h)
theorem sqt_ext {K : PySem.W.Frag} {w v : Wd} {p : Addr} {vs : List V} {m : Addr → Prop} (e : Ext m w v) (h : w.S p = some (.tup vs)) : SqT K v.H p vs := SqT.of (v.ok _ _ (e.st _ _ h))
theorem s_yes {σ : L2.St} {H : Hp} {R : Bool → Hp → Prop} (k : R true H) : tYes σ H R := k
/-- each item's plain value is told: ys -/
theorem lc_pure {J : It} {n : Nat} {G : Wd → Prop} {xs : List V} (k : WWalk J n G (YI xs)) {te : TE} {j : Nat} {σ : L2.St} {w : Wd} {D : Addr} {Qd : Hp → Prop} (ys : List V) (hD : w.H D = none) (hG : ∀ u, Ext (One D) w u → G u) (hn : ys.length = n) (hz : n < sizeLine)
    (hw : ∀ x, wipe ((wipe σ [j]).set j (some x)) [j] = wipe σ [j])
    (hs : ∀ i x y u, i < n → xs[i]? = some x → ys[i]? = some y → Ext (One D) w u → ∀ R : VK, (∀ v, Ext Non u v → R y v.H) → te ((wipe σ [j]).set j (some x)) u.H R)
    (hd : ∀ u, Ext Non w u → w.H D = none → Own u D (.lst ys) → Qd u.H) :
    ∃ W : Nat → Nat → Hp → Prop, (∃ m, W 0 m (upd w.H D (.lst []))) ∧ ∀ i m H, W i m H →
      (J.stop i H ∧ Qd H) ∨ (J.go i H ∧ ∃ Nx : Hp → Prop, (∀ H', Nx H' → ∃ m', m' < m ∧ W (i + 1) m' H') ∧ ∀ x H', J.yld i H x H' → gName j x (wipe σ [j]) H' fun σ2 H2 => wipe σ2 [j] = wipe σ [j] ∧ tYes σ2 H2 fun b H3 =>
        if b = true then te σ2 H3 fun y H4 => ∃ acc, H4 D = some (.lst acc) ∧ acc.length < sizeLine ∧ Nx (upd H4 D (.lst (acc ++ [y]))) else Nx H3) := by
  refine lcW k (fun i u acc => Ext (One D) w u ∧ acc = ys.take i) hD (fun u e o => ⟨e.more fun _ z => z.elim, by simp⟩) (fun i u acc _ p => hG u p.1) ?_ ?_
  · rintro i x u v acc hi o ⟨e, ha⟩ ⟨rfl, hx⟩
    refine ⟨hw x, s_yes (ite_tt ?_)⟩
    have hy : i < ys.length := by omega
    refine hs i x ys[i] v hi hx (by simp [hy]) e _ fun t et => ?_
    have ha2 : acc.length < sizeLine := by rw [ha, List.length_take]; omega
    refine lc_put (o.ext et fun z => z) ha2 fun z ez oz => ⟨(e.step et fun _ z => z.elim).step ez fun l hl => .inr hl, ?_⟩
    rw [ha, List.take_succ]
    simp [hy]
  · rintro u acc ⟨e, ha⟩ o
    refine hd u (e.more fun l hl => .inl (by rw [show l = D from hl]; exact hD)) hD ?_
    rw [ha, ← hn, List.take_length] at o
    exact o
end G
set_option Elab.async false
set_option linter.all false
set_option maxRecDepth 100000
set_option maxHeartbeats 4000000
namespace G
open PySem L2
section
variable {K : PySem.W.Frag} {w : Wd} {H : Hp} {Q : VK} {σ : L2.St} {v x y : V} {vs : List V} {D : Ends}
theorem s_allO {p : Addr} {bs : List Bool} (h : Own w p (.lst (bs.map V.bl))) (k : Q (.bl (bs.all id)) w.H) : rAll K [.ref p] w.H Q := ⟨p, bs, rfl, SqL.of h.h, k⟩
theorem dgetS {p : Addr} {kvs : List (Key × V)} {z : Str} (h : Own w p (.dK kvs)) (e : valV kvs (.inr z) = some v) : DGet w.H p (.str z) (some v) := by rw [← e]; exact DGet.k (k := .inr z) h.h
theorem s_dputS {p : Addr} {kvs kvs' : List (Key × V)} {z : Str} {R : Hp → Prop} (h : Own w p (.dK kvs)) (e : putK kvs (.inr z) v = kvs') (hz : kvs.length < sizeLine) (q : ∀ u, Ext (One p) w u → Own u p (.dK kvs') → R u.H) :
    ∃ b H4, V.ref p = V.ref b ∧ DPut w.H b (.str z) v H4 ∧ R H4 := by
  subst e
  exact ⟨p, _, rfl, DPut.k (k := .inr z) h.h hz, put (R := R) h q⟩
theorem s_disp {trs : List (TE × TE)} (k : ∀ p u, Ext Non w u → w.H p = none → Own u p (.dK []) → tPairs trs σ u.H fun ps H2 => H2 p = some (.dK []) ∧ ∃ kvs : List (Key × V), ps = kvs.map (fun kv => (kV kv.1, kv.2)) ∧ kvs.length ≤ 15 ∧ Q (.ref p) (upd H2 p (.dK (mergeK [] kvs)))) : tDisp trs σ w.H Q :=
  fun p hp => newO (Q := fun r H => ∀ p', r = .ref p' → tPairs trs σ H fun ps H2 => H2 p' = some (.dK []) ∧ ∃ kvs : List (Key × V), ps = kvs.map (fun kv => (kV kv.1, kv.2)) ∧ kvs.length ≤ 15 ∧ Q (.ref p') (upd H2 p' (.dK (mergeK [] kvs)))) (fun p v e n o p' hp' => by cases hp'; exact k p v e n o) p hp p rfl
theorem s_pnil {R : List (V × V) → Hp → Prop} (k : R [] H) : tPairs [] σ H R := k
theorem s_pcons {tk tv : TE} {r : List (TE × TE)} {R : List (V × V) → Hp → Prop} (k : tk σ H fun x H1 => tv σ H1 fun y H2 => tPairs r σ H2 fun ps H3 => R ((x, y) :: ps) H3) : tPairs ((tk, tv) :: r) σ H R := k
theorem s_dispE {p : Addr} {ps : List (V × V)} (o : Own w p (.dK [])) (kvs kvs' : List (Key × V)) (e : ps = kvs.map (fun kv => (kV kv.1, kv.2))) (e2 : mergeK [] kvs = kvs') (hz : kvs.length ≤ 15) (k : ∀ u, Ext (One p) w u → Own u p (.dK kvs') → Q (.ref p) u.H) :
    w.H p = some (.dK []) ∧ ∃ kvs : List (Key × V), ps = kvs.map (fun kv => (kV kv.1, kv.2)) ∧ kvs.length ≤ 15 ∧ Q (.ref p) (upd w.H p (.dK (mergeK [] kvs))) := by
  subst e2
  exact ⟨o.h, kvs, e, hz, put (R := Q (.ref p)) o k⟩
theorem s_dnew (k : ∀ p u, Ext Non w u → w.H p = none → Own u p (.dK []) → Q (.ref p) u.H) : tDNewK σ w.H Q := newO k
end
/-- of numbers below 2 ^ 200 -/
theorem divW {i j : Int} (h : 0 < j) (h2 : j < 2 ^ 200) : CDivW i j := ⟨h, by
  have : j.natAbs < 2 ^ 200 := by omega
  exact Nat.lt_of_lt_of_le (PySem.Flt.log2_lt_of (by decide) this) (by decide)⟩
section
variable {a b : Str} {u v : V} {r r' : List (Key × V)}
theorem valS_pos : valV ((.inr a, u) :: r) (.inr a) = some u := valV_pos rfl
theorem valS_neg {o : Option V} (h : decide (a = b) = false) (t : valV r (.inr b) = o) : valV ((.inr a, u) :: r) (.inr b) = o := by
  rw [valV_neg (fun z => of_decide_eq_false h (Sum.inr.inj z))]
  exact t
theorem valS_nil : valV ([] : List (Key × V)) (.inr b) = none := rfl
theorem map_same {k : Key} (h : valV r k = none) : r.map (fun kv => if kv.1 = k then (kv.1, v) else kv) = r := by
  induction r with
  | nil => rfl
  | cons p r ih =>
    by_cases e : p.1 = k
    · rw [valV_pos e] at h; cases h
    · rw [valV_neg e] at h
      rw [List.map_cons, if_neg e, ih h]
theorem any_none {k : Key} (h : valV r k = none) : (r.any fun kv => decide (kv.1 = k)) = false := by rw [valV_any, h]; rfl
theorem putS_pos (h : valV r (.inr a) = none) : putK ((.inr a, u) :: r) (.inr a) v = (.inr a, v) :: r := by
  unfold putK
  rw [if_pos (by simp), List.map_cons, if_pos rfl, map_same h]
theorem putS_neg (h : decide (a = b) = false) (t : putK r (.inr b) v = r') : putK ((.inr a, u) :: r) (.inr b) v = (.inr a, u) :: r' := by
  have hn : ¬ (Sum.inr a : Key) = Sum.inr b := fun z => of_decide_eq_false h (Sum.inr.inj z)
  subst t
  unfold putK
  rw [List.any_cons, decide_eq_false hn, Bool.false_or, List.map_cons, if_neg hn]
  split <;> rfl
theorem merge_go : ∀ (r acc : List (Key × V)), ((acc ++ r).map (·.1)).Nodup → mergeK acc r = acc ++ r
  | [], acc, _ => by simp [mergeK]
  | p :: r, acc, h => by
    have hn : valV acc p.1 = none := by
      cases e : valV acc p.1 with
      | none => rfl
      | some z =>
        exfalso
        have h1 : (acc.any fun kv => decide (kv.1 = p.1)) = true := by rw [valV_any, e]; rfl
        rw [List.any_eq_true] at h1
        obtain ⟨q, hq, hqe⟩ := h1
        rw [List.map_append, List.nodup_append] at h
        exact h.2.2 q.1 (List.mem_map_of_mem hq) p.1 (by simp) (of_decide_eq_true hqe)
    have e1 : putK acc p.1 p.2 = acc ++ [p] := by
      unfold putK
      rw [if_neg (by rw [any_none hn]; decide)]
    show List.foldl _ (putK acc p.1 p.2) r = _
    rw [e1]
    have ih := merge_go r (acc ++ [p]) (by simpa using h)
    unfold mergeK at ih
    rw [ih]
    simp
theorem mergeK_nd {r : List (Key × V)} (h : (r.map (·.1)).Nodup) : mergeK [] r = r := merge_go r [] h
end
theorem atI_nn {α : Type} {xs : List α} {i : Int} (h : 0 ≤ i) (h2 : i < xs.length) : atI xs i = xs[i.toNat]? := by
  unfold atI ixN
  rw [if_pos h, if_pos h2]
  rfl
theorem atI_of {α : Type} {xs : List α} {i : Int} {v : α} (h : 0 ≤ i) (h2 : xs[i.toNat]? = some v) : atI xs i = some v := by
  have h3 := (List.getElem?_eq_some_iff.mp h2).1
  rw [atI_nn h (by omega), h2]
theorem atI_back {α : Type} {xs : List α} {v : α} (h : xs.getLast? = some v) : atI xs (-1) = some v := by
  have hne : xs ≠ [] := by intro z; rw [z] at h; cases h
  have hl : 0 < xs.length := List.length_pos_iff.mpr hne
  unfold atI ixN
  rw [if_neg (by decide), if_pos (by omega)]
  show xs[((-1 : Int) + xs.length).toNat]? = _
  rw [List.getLast?_eq_getElem?] at h
  rw [← h]
  congr 1
  omega
/-- a pair of numbers -/
abbrev prD (p : Int × Int) : PyData := .tuple [.int p.1, .int p.2]
abbrev spD (xs : List (Int × Int)) : PyData := .list (xs.map prD)
theorem pr_inv {S : Hp} {v : V} {a b : Int} (h : Rp S v (.tuple [.int a, .int b])) : ∃ t, v = .ref t ∧ S t = some (.tup [.int a, .int b]) := by
  obtain ⟨t, vs, rfl, h1, h2⟩ := h.tuple_inv
  cases h2 with
  | cons a1 a2 => cases a2 with
    | cons b1 b2 =>
      cases b2
      rw [a1.int_inv, b1.int_inv] at h1
      exact ⟨t, rfl, h1⟩
theorem pr_rp {S : Hp} {t : Addr} {a b : Int} (h : S t = some (.tup [.int a, .int b])) : Rp S (.ref t) (.tuple [.int a, .int b]) := .tup h (.cons (.int a) (.cons (.int b) .nil))
end G
set_option Elab.async false
set_option linter.all false
set_option maxRecDepth 100000
set_option maxHeartbeats 4000000
namespace G
open PySem L2
section
variable {K : PySem.W.Frag} {w : Wd} {H : Hp} {Q : VK} {σ : L2.St} {v x y : V} {d1 d2 : PyData} {vs xs ys : List V} {a b : Addr} {lo hi : Option Int}
theorem s_catS (h1 : w.H a = some (.lst xs)) (h2 : w.H b = some (.lst ys)) (z : xs.length + ys.length ≤ sizeLine) (k : ∀ p v, Ext Non w v → w.H p = none → v.S p = some (.lst (xs ++ ys)) → Q (.ref p) v.H) : gAdd K (.ref a) (.ref b) w.H Q :=
  .inl ⟨xs, ys, h1, h2, z, newS k⟩
theorem s_slS (h : SqL K w.H a xs) (k : ∀ p v, Ext Non w v → w.H p = none → v.S p = some (.lst (cutV xs lo hi)) → Q (.ref p) v.H) : gSl K (.ref a) lo hi w.H Q := .inl ⟨xs, h, newS k⟩
theorem s_listS (h : SqL K w.H a xs ∨ SqT K w.H a xs) (k : ∀ p v, Ext Non w v → w.H p = none → v.S p = some (.lst xs) → Q (.ref p) v.H) : gList K [.ref a] w.H Q := ⟨xs, h, newS k⟩
theorem s_listO (h : SqL K w.H a xs ∨ SqT K w.H a xs) (k : ∀ p v, Ext Non w v → w.H p = none → Own v p (.lst xs) → Q (.ref p) v.H) : gList K [.ref a] w.H Q := ⟨xs, h, newO k⟩
theorem s_eqD (h1 : Dp K w.H x d1) (h2 : Dp K w.H y d2) (s1 : SeqAt.shaped d1 = true) (s2 : SeqAt.shaped d2 = true) (k : Q (.bl (PyData.eqv d1 d2)) w.H) : gEq K x y w.H Q := .inr ⟨d1, d2, h1, h2, s1, s2, k⟩
theorem s_neD (h1 : Dp K w.H x d1) (h2 : Dp K w.H y d2) (s1 : SeqAt.shaped d1 = true) (s2 : SeqAt.shaped d2 = true) (k : Q (.bl (!PyData.eqv d1 d2)) w.H) : gNe K x y w.H Q := .inr ⟨d1, d2, h1, h2, s1, s2, k⟩
/-- a tuple as a target -/
theorem s_gtup {n : Nat} {t : TGs} {R : L2.St → Hp → Prop} (h : w.S a = some (.tup vs)) (e : vs.length = n) (k : t vs σ w.H R) : gTup K n t (.ref a) σ w.H R := ⟨a, vs, rfl, sqt_of h, e, k⟩
theorem s_gcons {t : TG} {u : TGs} {R : L2.St → Hp → Prop} (k : t v σ H fun σ' H' => u vs σ' H' R) : gCons t u (v :: vs) σ H R := ⟨v, vs, rfl, k⟩
theorem s_gnil {R : L2.St → Hp → Prop} (k : R σ H) : gNil [] σ H R := ⟨rfl, k⟩
theorem s_gsub {to ti : TE} {t : TSet} {R : L2.St → Hp → Prop} (k : to σ H fun o H1 => ti σ H1 fun i H2 => t o i v H2 fun H3 => R σ H3) : L2.gSub to ti t v σ H R := k
end
theorem rpa_pr {S : Hp} {vs : List V} {ps : List (Int × Int)} {i : Nat} {v : V} (h : RpA S vs (ps.map prD)) (e : vs[i]? = some v) : ∃ p t, ps[i]? = some p ∧ v = .ref t ∧ S t = some (.tup [.int p.1, .int p.2]) := by
  obtain ⟨d, h1, h2⟩ := h.get e
  rw [List.getElem?_map] at h1
  cases hp : ps[i]? with
  | none => rw [hp] at h1; cases h1
  | some p =>
    rw [hp] at h1
    obtain rfl := Option.some.inj h1
    obtain ⟨t, rfl, h3⟩ := pr_inv h2
    exact ⟨p, t, rfl, rfl, h3⟩
section
variable {K : PySem.W.Frag} {w : Wd} {H : Hp} {Q : VK} {σ : L2.St} {v x y : V} {vs xs ys : List V} {l : Addr} {P : Prop}
theorem s_ty (h : Own w l (.lst vs)) (k : P) : tyV K "list" (.ref l) w.H ∧ P := ⟨ty_own h, k⟩
theorem s_app (h : Own w l (.lst vs)) (z : vs.length < sizeLine) (k : ∀ v, Ext (One l) w v → Own v l (.lst (vs ++ [y])) → Q .non v.H) : rAppend (.ref l) [y] w.H Q := ⟨l, vs, y, rfl, rfl, h.h, z, put (R := Q .non) h k⟩
theorem s_m1 {r : V → List V → Hp → VK → Prop} {to te : TE} (k : to σ H fun x H1 => (∃ a, x = .str a) ∧ te σ H1 fun y H2 => r x [y] H2 Q) : tM1 r to te σ H Q := k
theorem s_isS {z : Str} (k : P) : (∃ a, V.str z = .str a) ∧ P := ⟨⟨z, rfl⟩, k⟩
end
section
variable {K : PySem.W.Frag} {w : Wd} {H : Hp} {Q : VK} {vs : List V} {p : Addr} {a b c j : Int}
theorem s_powN (h : CPow a b) (e : a ^ b.toNat = c) (k : Q (.int c) H) : gPow (.int a) (.int b) H Q := ⟨h, by rw [e]; exact k⟩
theorem at_mem {α : Type} {xs : List α} (h0 : 0 ≤ j) (h1 : j < xs.length) : ∃ v, xs[j.toNat]? = some v ∧ atI xs j = some v ∧ v ∈ xs := by
  have hd : xs[j.toNat]? = some xs[j.toNat] := List.getElem?_eq_getElem (by omega)
  exact ⟨_, hd, atI_of h0 hd, List.getElem_mem _⟩
theorem s_ixOm (h : Own w p (.lst vs)) (h0 : 0 ≤ j) (h1 : j < vs.length) (k : ∀ v, vs[j.toNat]? = some v → v ∈ vs → Q v w.H) : gIx K (.ref p) (.int j) w.H Q := by
  obtain ⟨v, h2, h3, h4⟩ := at_mem h0 h1
  exact s_ixO h h3 (k v h2 h4)
theorem s_ixSm (h : w.S p = some (.lst vs)) (h0 : 0 ≤ j) (h1 : j < vs.length) (k : ∀ v, vs[j.toNat]? = some v → v ∈ vs → Q v w.H) : gIx K (.ref p) (.int j) w.H Q := by
  obtain ⟨v, h2, h3, h4⟩ := at_mem h0 h1
  exact s_ixL h h3 (k v h2 h4)
end
theorem p10_6 : (10 : Int) ^ (6 : Int).toNat = 1000000 := by decide
theorem p10_7 : (10 : Int) ^ (7 : Int).toNat = 10000000 := by decide
theorem p10_8 : (10 : Int) ^ (8 : Int).toNat = 100000000 := by decide
theorem p10_9 : (10 : Int) ^ (9 : Int).toNat = 1000000000 := by decide
theorem p10_10 : (10 : Int) ^ (10 : Int).toNat = 10000000000 := by decide
theorem p10_18 : (10 : Int) ^ (18 : Int).toNat = 1000000000000000000 := by decide
section
variable {K : PySem.W.Frag} {w : Wd} {H : Hp} {Q : VK} {vs xs : List V} {p a : Addr} {σ : L2.St} {A : TA}
/-- a new tuple, a new list: what is wanted of it -/
def mkT (Q : VK) (xs : List V) (H : Hp) : Prop := xs.length ≤ sizeLine ∧ ∀ p, H p = none → Q (.ref p) (upd H p (.tup xs))
def mkL (Q : VK) (xs : List V) (H : Hp) : Prop := xs.length ≤ sizeLine ∧ ∀ p, H p = none → Q (.ref p) (upd H p (.lst xs))
def mkD (Q : VK) (p : Addr) (ps : List (V × V)) (H2 : Hp) : Prop := H2 p = some (.dK []) ∧ ∃ kvs : List (Key × V), ps = kvs.map (fun kv => (kV kv.1, kv.2)) ∧ kvs.length ≤ 15 ∧ Q (.ref p) (upd H2 p (.dK (mergeK [] kvs)))
theorem t_tup (k : A σ H (mkT Q)) : tTup A σ H Q := k
theorem t_lst (k : A σ H (mkL Q)) : tLst A σ H Q := k
theorem t_newT (h : vs.length ≤ sizeLine) (k : ∀ p v, Ext Non w v → w.H p = none → v.S p = some (.tup vs) → Q (.ref p) v.H) : mkT Q vs w.H := ⟨h, newS k⟩
theorem t_newL (h : vs.length ≤ sizeLine) (k : ∀ p v, Ext Non w v → w.H p = none → Own v p (.lst vs) → Q (.ref p) v.H) : mkL Q vs w.H := ⟨h, newO k⟩
theorem t_newLS (h : vs.length ≤ sizeLine) (k : ∀ p v, Ext Non w v → w.H p = none → v.S p = some (.lst vs) → Q (.ref p) v.H) : mkL Q vs w.H := ⟨h, newS k⟩
theorem t_disp {trs : List (TE × TE)} (k : ∀ p u, Ext Non w u → w.H p = none → Own u p (.dK []) → tPairs trs σ u.H (mkD Q p)) : tDisp trs σ w.H Q := s_disp k
theorem t_dispE {ps : List (V × V)} (o : Own w p (.dK [])) (kvs kvs' : List (Key × V)) (e : ps = kvs.map (fun kv => (kV kv.1, kv.2))) (e2 : mergeK [] kvs = kvs') (hz : kvs.length ≤ 15) (k : ∀ u, Ext (One p) w u → Own u p (.dK kvs') → Q (.ref p) u.H) : mkD Q p ps w.H :=
  s_dispE o kvs kvs' e e2 hz k
end
end G
namespace G
open PySem L2
mutual
theorem nd_can : ∀ d : PyData, d.canLay0 = true → nd d = true
  | .none, _ => by unfold nd; rfl
  | .bool _, _ => by unfold nd; rfl
  | .int _, _ => by unfold nd; rfl
  | .str _, _ => by unfold nd; rfl
  | .list ds, h => by
    unfold nd
    rw [List.all_eq_true]
    rintro ⟨d, hd⟩ _
    exact nd_canA ds (by simpa [PyData.canLay0] using h) d hd
  | .tuple ds, h => by
    unfold nd
    rw [List.all_eq_true]
    rintro ⟨d, hd⟩ _
    exact nd_canA ds (by simpa [PyData.canLay0] using h) d hd
  | .dict _, h => by simp [PyData.canLay0] at h
theorem nd_canA : ∀ ds : List PyData, PyData.canLayAll0 ds = true → ∀ d ∈ ds, nd d = true
  | [], _, d, h => by cases h
  | x :: xs, h, d, hd => by
    have h' : x.canLay0 = true ∧ PyData.canLayAll0 xs = true := by simpa [PyData.canLayAll0] using h
    cases hd with
    | head => exact nd_can x h'.1
    | tail _ hd => exact nd_canA xs h'.2 d hd
end
theorem can_prs : ∀ rows : List (Int × Int), PyData.canLayAll0 (rows.map prD) = true
  | [] => by simp [PyData.canLayAll0]
  | q :: r => by simp [PyData.canLayAll0, PyData.canLay0, can_prs r]
theorem dep_prs : ∀ rows : List (Int × Int), PyData.depthAll (rows.map prD) ≤ 2
  | [] => by simp [PyData.depthAll]
  | q :: r => by
    have := dep_prs r
    simp only [List.map_cons, PyData.depthAll, PyData.depth]
    omega
theorem shaped_spD (rows : List (Int × Int)) : SeqAt.shaped (spD rows) = true := by
  have h1 := dep_prs rows
  have h2 : PyData.depth (spD rows) ≤ 64 := by simp only [PyData.depth]; omega
  show (PyData.canLay0 (spD rows) && decide (PyData.depth (spD rows) ≤ 64)) = true
  rw [Bool.and_eq_true]
  exact ⟨by simp only [PyData.canLay0]; exact can_prs rows, decide_eq_true h2⟩
theorem s_dnewS {w : Wd} {Q : VK} {σ : L2.St} (k : ∀ p v, Ext Non w v → w.H p = none → v.S p = some (.dK []) → Q (.ref p) v.H) : tDNewK σ w.H Q := newS k
theorem ite_nt {A B : Prop} (k : B) : if (!true) = true then A else B := k
theorem ite_nf {A B : Prop} (k : A) : if (!false) = true then A else B := k
theorem nd_shaped {d : PyData} (h : SeqAt.shaped d = true) : nd d = true := nd_can d (SeqAt.canLay_of_shaped h)
section
variable {K : PySem.W.Frag} {w : Wd} {x y : V} {d1 d2 : PyData} {Q : VK}
theorem eqv_self {d : PyData} (h : SeqAt.shaped d = true) : PyData.eqv d d = true := SeqAt.eqv_refl d (SeqAt.canLay_of_shaped h)
end
end G
namespace G
open PySem L2
section
variable {K : PySem.W.Frag} {w u v : Wd} {a p : Addr} {o : HO} {m : Addr → Prop} {vs : List V} {Q : VK} {x y : V}
/-- what stands at a, for good or owned: may be read -/
def Rd (w : Wd) (a : Addr) (o : HO) : Prop := w.S a = some o ∨ Own w a o
theorem Rd.h (r : Rd w a o) : w.H a = some o := r.elim (fun s => w.ok _ _ s) Own.h
theorem Rd.go (e : Ext m w v) (n : ¬ m a) (r : Rd w a o) : Rd v a o := r.elim (fun s => .inl (st_go e s)) fun s => .inr (s.ext e n)
theorem Rd.ne (r : Rd w a o) (n : w.H p = none) : a ≠ p := ne_of_none r.h n
theorem nil_or_snoc {α : Type} (l : List α) : l = [] ∨ ∃ r x, l = r ++ [x] := by
  by_cases h : l = []
  · exact .inl h
  · exact .inr ⟨l.dropLast, l.getLast h, (List.dropLast_concat_getLast h).symm⟩
theorem atI_snoc {α : Type} {xs : List α} {v : α} : atI (xs ++ [v]) (-1) = some v := atI_back (by simp)
theorem rd_dp {ds : List PyData} (r : Rd w a (.lst vs)) (h : RpA w.S vs ds) (n : nd (.list ds) = true) : Dp K w.H (.ref a) (.list ds) := by
  unfold nd at n
  rw [List.all_eq_true] at n
  exact .lst (SqL.of r.h) (dp_monoA w.ok ds vs (RpA.dp ds vs h fun d hd => n ⟨d, hd⟩ (List.mem_attach ..)))
/-- == and != of two lists that may be read -/
theorem s_eqL {b : Addr} {us : List V} {ds es : List PyData} (r1 : Rd w a (.lst vs)) (h1 : RpA w.S vs ds) (r2 : Rd w b (.lst us)) (h2 : RpA w.S us es) (s1 : SeqAt.shaped (.list ds) = true) (s2 : SeqAt.shaped (.list es) = true)
    (k : Q (.bl (PyData.eqv (.list ds) (.list es))) w.H) : gEq K (.ref a) (.ref b) w.H Q := s_eqD (rd_dp r1 h1 (nd_shaped s1)) (rd_dp r2 h2 (nd_shaped s2)) s1 s2 k
theorem s_neL {b : Addr} {us : List V} {ds es : List PyData} (r1 : Rd w a (.lst vs)) (h1 : RpA w.S vs ds) (r2 : Rd w b (.lst us)) (h2 : RpA w.S us es) (s1 : SeqAt.shaped (.list ds) = true) (s2 : SeqAt.shaped (.list es) = true)
    (k : Q (.bl (!PyData.eqv (.list ds) (.list es))) w.H) : gNe K (.ref a) (.ref b) w.H Q := s_neD (rd_dp r1 h1 (nd_shaped s1)) (rd_dp r2 h2 (nd_shaped s2)) s1 s2 k
theorem si_rd {T : String} {b : Bool} (h : Rd w a (.lst vs)) (e : kitB "list" T = some b) (k : Q (.bl b) w.H) : rIsi K [.ref a, .ty T] w.H Q := ⟨_, .ty T, _, _, b, rfl, .ty T, .base (.lst h.h), kit_ty e, k⟩
theorem filter_all {α : Type} (l : List α) : l.filter (fun _ => true) = l := by
  induction l with
  | nil => rfl
  | cons x r ih => rw [List.filter_cons_of_pos rfl, ih]
theorem eqv_nil (ds : List PyData) : PyData.eqv (.list ds) (.list []) = ds.isEmpty := by
  cases ds <;> simp [PyData.eqv, PyData.eqvAll]
theorem shaped_nil : SeqAt.shaped (.list []) = true := shaped_spD []
/-- xs != [] -/
theorem s_neN {b : Addr} {rows : List (Int × Int)} (r : Rd w a (.lst vs)) (h : RpA w.S vs (rows.map prD)) (s : w.S b = some (.lst [])) (k : Q (.bl (!rows.isEmpty)) w.H) : gNe K (.ref a) (.ref b) w.H Q :=
  s_neL r h (.inl s) .nil (shaped_spD rows) shaped_nil (by rw [eqv_nil, List.isEmpty_map]; exact k)
theorem s_setB {R : Hp → Prop} (h : Own w a (.lst (vs ++ [y]))) (k : ∀ u, Ext (One a) w u → Own u a (.lst (vs ++ [x])) → R u.H) : rSetL (.ref a) (.int (-1)) x w.H R :=
  s_setL h (m := vs.length) (by simp [ixN]; omega) fun u e o => k u e (by
    have := o
    rw [List.set_append] at this
    simpa using this)
end
section
variable {K : PySem.W.Frag} {w : Wd} {a : Addr} {vs : List V} {Q : VK} {rows : List (Int × Int)}
theorem RpA.snoc_inv {S : Hp} {d : PyData} : ∀ {ds : List PyData} {vs : List V}, RpA S vs (ds ++ [d]) → ∃ us y, vs = us ++ [y] ∧ RpA S us ds ∧ Rp S y d
  | [], _, h => by
    cases h with
    | cons h1 h2 =>
      cases h2
      exact ⟨[], _, rfl, .nil, h1⟩
  | e :: ds, _, h => by
    cases h with
    | cons h1 h2 =>
      obtain ⟨us, y, rfl, h3, h4⟩ := RpA.snoc_inv h2
      exact ⟨_ :: us, y, rfl, .cons h1 h3, h4⟩
/-- a pair at an address -/
def kP (S : Hp) : V → Int × Int
  | .ref t => match S t with
    | some (.tup [.int a, .int b]) => (a, b)
    | _ => (0, 0)
  | _ => (0, 0)
theorem kP_of {S : Hp} {x : V} {q : Int × Int} (h : Rp S x (prD q)) : kP S x = q ∧ ∃ t, x = .ref t ∧ S t = some (.tup [.int q.1, .int q.2]) := by
  obtain ⟨t, rfl, ht⟩ := pr_inv h
  exact ⟨by simp [kP, ht], t, rfl, ht⟩
theorem kP_map {S : Hp} : ∀ {vs : List V} {rows : List (Int × Int)}, RpA S vs (rows.map prD) → vs.map (kP S) = rows
  | _, [], h => by cases h; rfl
  | _, q :: r, h => by
    cases h with
    | cons h1 h2 => rw [List.map_cons, (kP_of h1).1, kP_map h2]
theorem kP_back {S : Hp} : ∀ {ys : List V}, (∀ x ∈ ys, Rp S x (prD (kP S x))) → RpA S ys ((ys.map (kP S)).map prD)
  | [], _ => .nil
  | y :: ys, h => .cons (h y List.mem_cons_self) (kP_back fun x hx => h x (List.mem_cons_of_mem _ hx))
theorem kP_all {S : Hp} : ∀ {vs : List V} {rows : List (Int × Int)}, RpA S vs (rows.map prD) → ∀ x ∈ vs, Rp S x (prD (kP S x))
  | _, [], h, x, hx => by cases h; cases hx
  | _, q :: r, h, x, hx => by
    cases h with
    | cons h1 h2 =>
      cases hx with
      | head => rw [(kP_of h1).1]; exact h1
      | tail _ hx => exact kP_all h2 x hx
def leP (p q : Int × Int) : Prop := p.1 < q.1 ∨ (p.1 = q.1 ∧ p.2 ≤ q.2)
/-- sorted of pairs -/
theorem s_sortP (h : SqL K w.H a vs) (r : RpA w.S vs (rows.map prD)) (k : ∀ p v (rows' : List (Int × Int)) vs', Ext Non w v → w.H p = none → v.S p = some (.lst vs') → RpA v.S vs' (rows'.map prD) → rows'.Perm rows → rows'.Pairwise leP → Q (.ref p) v.H) :
    rSortedPO K [.ref a] w.H Q := by
  refine ⟨a, vs, kP w.S, rfl, h, fun x hx => ?_, fun ys p hs hp hn => ?_⟩
  · obtain ⟨t, e, ht⟩ := (kP_of (kP_all r x hx)).2
    exact ⟨t, e, w.ok _ _ ht⟩
  · refine newS (Q := Q) (fun p v e n s => ?_) p hn
    have hall : ∀ x ∈ ys, Rp w.S x (prD (kP w.S x)) := fun x hx => kP_all r x (hp.perm.mem_iff.mp hx)
    refine k p v (ys.map (kP w.S)) ys e n s ((kP_back hall).go e) ?_ ?_
    · rw [← kP_map r]
      exact hp.perm.map _
    · rw [List.pairwise_map]
      refine List.Pairwise.imp (fun {x y} hxy => ?_) hs
      have := SrtO.lexB_no.mp hxy
      unfold leP
      omega
/-- a comprehension over items told by rows -/
theorem lc_gen {α : Type} {rows : List α} {J : It} {n : Nat} {G : Wd → Prop} {xs : List V} (k : WWalk J n G (YI xs)) {g : TG} {tt : TT} {te : TE} {js : List Nat} {σ : L2.St} {D : Addr} {Qd : Hp → Prop} (f : α → Bool) (gd : α → PyData) (hD : w.H D = none)
    (hlen : rows.length = n) (hz : n < sizeLine) (hG : ∀ u, Ext (One D) w u → G u)
    (hs : ∀ i x q u, i < n → xs[i]? = some x → rows[i]? = some q → Ext (One D) w u → ∀ (R : VK) (Z : Hp → Prop), (∀ v y, Ext Non u v → f q = true → Rp v.S y (gd q) → R y v.H) → (∀ v, Ext Non u v → f q = false → Z v.H) →
      g x (wipe σ js) u.H fun σ2 H2 => wipe σ2 js = wipe σ js ∧ tt σ2 H2 fun b H3 => if b = true then te σ2 H3 R else Z H3)
    (hd : ∀ u acc, Ext Non w u → w.H D = none → Own u D (.lst acc) → RpA u.S acc ((rows.filter f).map gd) → Qd u.H) :
    ∃ W : Nat → Nat → Hp → Prop, (∃ m, W 0 m (upd w.H D (.lst []))) ∧ ∀ i m H, W i m H →
      (J.stop i H ∧ Qd H) ∨ (J.go i H ∧ ∃ Nx : Hp → Prop, (∀ H', Nx H' → ∃ m', m' < m ∧ W (i + 1) m' H') ∧ ∀ x H', J.yld i H x H' → g x (wipe σ js) H' fun σ2 H2 => wipe σ2 js = wipe σ js ∧ tt σ2 H2 fun b H3 =>
        if b = true then te σ2 H3 fun y H4 => ∃ acc, H4 D = some (.lst acc) ∧ acc.length < sizeLine ∧ Nx (upd H4 D (.lst (acc ++ [y]))) else Nx H3) := by
  refine lcW k (fun i u acc => Ext (One D) w u ∧ RpA u.S acc (((rows.take i).filter f).map gd)) hD (fun u e o => ⟨e.more fun _ z => z.elim, .nil⟩) (fun i u acc _ p => hG u p.1) ?_ ?_
  · rintro i x u0 u acc hi o ⟨e, ha2⟩ ⟨rfl, hx⟩
    have hi' : i < rows.length := by omega
    have ht : rows.take (i + 1) = rows.take i ++ [rows[i]] := by rw [List.take_add_one, List.getElem?_eq_getElem hi']; rfl
    have hal : acc.length < sizeLine := by
      have h1 := ha2.length
      rw [List.length_map] at h1
      have h2 := List.length_filter_le f (rows.take i)
      rw [List.length_take] at h2
      omega
    refine hs i x rows[i] u hi hx (List.getElem?_eq_getElem hi') e _ _ (fun t y et hf hy => ?_) (fun t et hf => ?_)
    · refine lc_put (o.ext et fun z => z) hal fun z ez oz => ⟨(e.step et fun _ z => z.elim).step ez fun l hl => .inr hl, ?_⟩
      rw [ht, List.filter_append, List.filter_cons_of_pos hf, List.filter_nil, List.map_append]
      exact RpA.append ((ha2.go et).go ez) (.one (hy.go ez))
    · refine lcN_i (o.ext et fun z => z) ⟨e.step et fun _ z => z.elim, ?_⟩
      rw [ht, List.filter_append, List.filter_cons_of_neg (by rw [hf]; decide), List.filter_nil, List.append_nil]
      exact ha2.go et
  · rintro u acc ⟨e, ha2⟩ o
    refine hd u acc (e.more fun l hl => .inl (by rw [show l = D from hl]; exact hD)) hD o ?_
    rw [← hlen, List.take_length] at ha2
    exact ha2
/-- a comprehension over pairs -/
theorem lc_rows {J : It} {n : Nat} {G : Wd → Prop} {xs : List V} (k : WWalk J n G (YI xs)) {g : TG} {tt : TT} {te : TE} {js : List Nat} {σ : L2.St} {D : Addr} {Qd : Hp → Prop} (f : Int × Int → Bool) (gd : Int × Int → PyData) (hD : w.H D = none)
    (ha : RpA w.S xs (rows.map prD)) (hn : xs.length = n) (hz : n < sizeLine) (hG : ∀ u, Ext (One D) w u → G u)
    (hs : ∀ i x q u, i < n → xs[i]? = some x → rows[i]? = some q → Rp u.S x (prD q) → Ext (One D) w u → ∀ (R : VK) (Z : Hp → Prop), (∀ v y, Ext Non u v → f q = true → Rp v.S y (gd q) → R y v.H) → (∀ v, Ext Non u v → f q = false → Z v.H) →
      g x (wipe σ js) u.H fun σ2 H2 => wipe σ2 js = wipe σ js ∧ tt σ2 H2 fun b H3 => if b = true then te σ2 H3 R else Z H3)
    (hd : ∀ u acc, Ext Non w u → w.H D = none → Own u D (.lst acc) → RpA u.S acc ((rows.filter f).map gd) → Qd u.H) :
    ∃ W : Nat → Nat → Hp → Prop, (∃ m, W 0 m (upd w.H D (.lst []))) ∧ ∀ i m H, W i m H →
      (J.stop i H ∧ Qd H) ∨ (J.go i H ∧ ∃ Nx : Hp → Prop, (∀ H', Nx H' → ∃ m', m' < m ∧ W (i + 1) m' H') ∧ ∀ x H', J.yld i H x H' → g x (wipe σ js) H' fun σ2 H2 => wipe σ2 js = wipe σ js ∧ tt σ2 H2 fun b H3 =>
        if b = true then te σ2 H3 fun y H4 => ∃ acc, H4 D = some (.lst acc) ∧ acc.length < sizeLine ∧ Nx (upd H4 D (.lst (acc ++ [y]))) else Nx H3) := by
  have hlen : rows.length = n := by have := ha.length; rw [List.length_map] at this; omega
  refine lc_gen k f gd hD hlen hz hG (fun i x q u hi hx hq e R Z h1 h2 => ?_) hd
  obtain ⟨d, h3, h4⟩ := ha.get hx
  have h3' : d = prD q := by rw [List.getElem?_map, hq] at h3; exact (Option.some.inj h3).symm
  subst h3'
  exact hs i x q u hi hx hq (h4.go e) e R Z h1 h2
end
end G
namespace G
open PySem L2
theorem cut_to {xs : List V} {d : Int} (h : 0 ≤ d) : cutV xs none (some d) = xs.take d.toNat := by
  have e : HT.sIx xs.length 0 none = 0 := rfl
  unfold cutV
  rw [e, List.drop_zero, Nat.sub_zero]
  by_cases hd : d ≤ xs.length
  · have e2 : HT.sIx xs.length xs.length (some d) = d.toNat := by
      show (if d < 0 then _ else min d.toNat _) = _
      rw [if_neg (by omega)]
      omega
    rw [e2]
  · have e2 : HT.sIx xs.length xs.length (some d) = xs.length := by
      show (if d < 0 then _ else min d.toNat _) = _
      rw [if_neg (by omega)]
      omega
    rw [e2, List.take_length, List.take_of_length_le (by omega)]
theorem cut_from {xs : List V} {d : Int} (h : 0 ≤ d) : cutV xs (some d) none = xs.drop d.toNat := by
  have e : HT.sIx xs.length xs.length none = xs.length := rfl
  unfold cutV
  rw [e]
  by_cases hd : d ≤ xs.length
  · have e2 : HT.sIx xs.length 0 (some d) = d.toNat := by
      show (if d < 0 then _ else min d.toNat _) = _
      rw [if_neg (by omega)]
      omega
    rw [e2]
    exact List.take_of_length_le (by rw [List.length_drop]; omega)
  · have e2 : HT.sIx xs.length 0 (some d) = xs.length := by
      show (if d < 0 then _ else min d.toNat _) = _
      rw [if_neg (by omega)]
      omega
    rw [e2, List.drop_eq_nil_of_le (Nat.le_refl _), List.drop_eq_nil_of_le (by omega), List.take_nil]
end G
namespace G
open PySem L2
end G
namespace G
open PySem L2
section
variable {K : PySem.W.Frag} {w : Wd} {a b : Addr} {vs us : List V} {Q : VK} {x y : V} {d : PyData} {ds : List PyData}
theorem s_neLs (s : SeqAt.shaped (.list ds) = true) (r1 : Rd w a (.lst vs)) (h1 : RpA w.S vs ds) (r2 : Rd w b (.lst us)) (h2 : RpA w.S us ds) (k : Q (.bl false) w.H) : gNe K (.ref a) (.ref b) w.H Q := s_neL r1 h1 r2 h2 s s (by rw [eqv_self s]; exact k)
end
end G
namespace G
open PySem L2 PyProof.Rows RZ
section
variable {X : Cx}
theorem kpZip (K : PySem.W.Frag) {e e2 : Expr} {ta : TA} {p pos tpos : Pos} {elts : List Expr} {kk : Nat} (hg : Gl X "zip") (hm : X.mg "zip" = none) (ha : PA X [e, e2] ta) (eK : X.K = K := by rfl)
    (hs : starEach [e, e2] X.env = (false, eval e X.env) :: starEach [e2] X.env := by rfl) (hpl : (backTo pos (starEach [e2] X.env)).any (·.1) = false := by rfl) :
    PI X (.Tuple elts kk tpos) (.Call (.Name "zip" p) [e, e2] [] pos) (iZipA K ta) := eK ▸ pi_zipA hg hm ha hs hpl
end
section
variable {K : PySem.W.Frag} {w : Wd} {a : Addr} {vs : List V} {Q : VK} {σ : L2.St} {H : Hp} {y : V}
theorem s_intt (k : Q (.int 1) H) : gInt [.bl true] H Q := s_intb (show Q (.int (if true = true then 1 else 0)) H from k)
end
end G
namespace G
open PySem L2 PyProof.Rows
structure Mth (P : Program) (w : World) (K : PySem.W.Frag) (mg : Str → Option Value) (base : Heap) (CX : CXT) (C : Addr) (k : Nat) (m : Str) (sp : L2.Sp) : Prop where
  ex : ∃ (f : Addr) (fd : FuncData) (ps : List Str), FnOk P w K mg base CX k f fd ps sp ∧ Meth K C m f ∧ Binds K fd ps []
structure Mkr (P : Program) (w : World) (K : PySem.W.Frag) (mg : Str → Option Value) (base : Heap) (CX : CXT) (C : Addr) (k : Nat) (sp : L2.Sp) : Prop where
  ex : ∃ (f : Addr) (fd : FuncData) (ps : List Str), FnOk P w K mg base CX k f fd ps sp ∧ Mk K C f ∧ Binds K fd ps []
section
variable {X : Cx} {k j : Nat} {x m : Str} {C : Addr} {sp : L2.Sp} {p pos apos : Pos} {o e : Expr} {es : List Expr} {to : TE} {t : TA} {CX : CXT} {E : XK}
theorem pe_mth {pl : Sem Bool} (c : Mth X.prog X.w X.K X.mg X.base CX C k m sp) (cl : Cls X.K C) (hr : Room j X.A) (hk : k ≤ j) (hx : Passes CX X E) (he : PE X o to) (ha : PA X (e :: es) t)
    (hst : starEach (e :: es) X.env = (false, eval e X.env) :: starEach es X.env := by rfl) (hpl : (backTo pos (starEach es X.env)).any (·.1) = false := by rfl)
    (ht : eval (.Call (.Attribute o m apos) (e :: es) [] pos) X.env = (do
      let ov ← eval o X.env
      standAt apos.atName
      let (f, first) ← holding [ov] (getMethod ov m pl)
      callWith pos f first (backTo pos (starEach (e :: es) X.env)) (backToKw pos (keywordEach [] X.env))) := by rfl) :
    PE X (.Call (.Attribute o m apos) (e :: es) [] pos) (tMeth C m sp [] E to t) := by
  obtain ⟨f, fd, ps, F, hm, hb⟩ := c.ex
  exact pe_meth (pl := pl) he cl hm F (hr.mono hk) hb .nil hx ha hst hpl ht
theorem pe_mth0 {pl : Sem Bool} (c : Mth X.prog X.w X.K X.mg X.base CX C k m sp) (cl : Cls X.K C) (hr : Room j X.A) (hk : k ≤ j) (hx : Passes CX X E) (he : PE X o to)
    (ht : eval (.Call (.Attribute o m apos) [] [] pos) X.env = (do
      let ov ← eval o X.env
      standAt apos.atName
      let (f, first) ← holding [ov] (getMethod ov m pl)
      callWith pos f first (backTo pos (starEach [] X.env)) (backToKw pos (keywordEach [] X.env))) := by rfl) :
    PE X (.Call (.Attribute o m apos) [] [] pos) (tMeth C m sp [] E to tNil) := by
  obtain ⟨f, fd, ps, F, hm, hb⟩ := c.ex
  exact pe_meth0 (pl := pl) he cl hm F (hr.mono hk) hb .nil hx ht
theorem pe_mk (c : Mkr X.prog X.w X.K X.mg X.base CX C k sp) (hr : Room j X.A) (hk : k + 1 ≤ j) (hm : X.mg x = some (.ref C)) (hx : Passes CX X E) (ha : PA X (e :: es) t) (hg : Gl X x := by rfl)
    (hdb : (x == ("__debug__" : Str)) = false := by decide) (he : starEach (e :: es) X.env = (false, eval e X.env) :: starEach es X.env := by rfl) (hpl : (backTo pos (starEach es X.env)).any (·.1) = false := by rfl) :
    PE X (.Call (.Name x p) (e :: es) [] pos) (tMake C sp [] E t) := by
  obtain ⟨f, fd, ps, F, M, hb⟩ := c.ex
  exact pe_make M F (hr.mono hk) hg hm hb .nil hx ha hdb he hpl
end
section
variable {K : PySem.W.Frag} {w : Wd} {a C dx : Addr} {fs gs : List (Str × V)} {f m : Str} {y v : V} {vs : List V} {Q : VK} {E : XK} {σ : L2.St} {H : Hp} {to te : TE} {t : TA} {D : Ends} {sp : L2.Sp}
def rFld (K : PySem.W.Frag) (f : Str) (x : V) (H1 : Hp) (Q : VK) : Prop := ∃ a C dx fs v, x = .ref a ∧ H1 a = some (.ins C dx fs) ∧ Cls K C ∧ NoAttr K C f ∧ fs.lookup f = some v ∧ Q v H1
theorem s_fld (k : te σ H fun x H1 => rFld K f x H1 Q) : tFld K te f σ H Q := k
theorem s_rfld (h : w.H a = some (.ins C dx fs)) (c : Cls K C) (n : NoAttr K C f) (l : fs.lookup f = some v) (k : Q v w.H) : rFld K f (.ref a) w.H Q := ⟨a, C, dx, fs, v, rfl, h, c, n, l, k⟩
def rSfl (K : PySem.W.Frag) (f : Str) (y : V) (D : Ends) (σ : L2.St) (x : V) (H2 : Hp) : Prop := ∃ a C dx fs, x = .ref a ∧ H2 a = some (.ins C dx fs) ∧ Cls K C ∧ NoAttr K C f ∧ fs.length < 1000 ∧ D.nx σ (upd H2 a (.ins C dx (putF f y fs)))
theorem s_sfld (k : te σ H fun y H1 => to σ H1 fun x H2 => rSfl K f y D σ x H2) : sFld K to te f D σ H := k
theorem s_rsfl (h : Own w a (.ins C dx fs)) (c : Cls K C) (n : NoAttr K C f) (z : fs.length < 1000) (e : putF f y fs = gs) (k : ∀ v, Ext (One a) w v → Own v a (.ins C dx gs) → D.nx σ v.H) : rSfl K f y D σ (.ref a) w.H := by
  subst e
  exact ⟨a, C, dx, fs, rfl, h.h, c, n, z, put (R := D.nx σ) h k⟩
def rMeth (C : Addr) (m : Str) (t : TA) (sp : L2.Sp) (E : XK) (Q : VK) (σ : L2.St) (x : V) (H1 : Hp) : Prop := ∃ a dx fs, x = .ref a ∧ H1 a = some (.ins C dx fs) ∧ fs.lookup m = none ∧ t σ H1 fun vs H2 => sp (x :: (vs ++ [])) H2 Q E
theorem s_meth (k : to σ H fun x H1 => rMeth C m t sp E Q σ x H1) : tMeth C m sp [] E to t σ H Q := k
theorem s_rmeth (h : w.H a = some (.ins C dx fs)) (l : fs.lookup m = none) (k : t σ w.H fun vs H2 => sp (.ref a :: (vs ++ [])) H2 Q E) : rMeth C m t sp E Q σ (.ref a) w.H := ⟨a, dx, fs, rfl, h, l, k⟩
def rMake (C : Addr) (sp : L2.Sp) (E : XK) (Q : VK) (vs : List V) (H1 : Hp) : Prop := ∀ x dx, H1 x = none → H1 dx = none → dx ≠ x → sp (.ref x :: (vs ++ [])) (upd (upd H1 dx (.own x)) x (.ins C dx [])) (fun v H2 => v = .non ∧ Q (.ref x) H2) E
theorem s_make (k : t σ H fun vs H1 => rMake C sp E Q vs H1) : tMake C sp [] E t σ H Q := k
theorem s_rmake (k : ∀ x dx v, Ext Non w v → w.H x = none → Own v x (.ins C dx []) → sp (.ref x :: (vs ++ [])) v.H (fun r H2 => r = .non ∧ Q (.ref x) H2) E) : rMake C sp E Q vs w.H := fun x dx hx hdx hne => by
  refine newO (w := w) (o := .own x) (Q := fun r H1 => ∀ y, r = .ref y → H1 x = none → sp (.ref x :: (vs ++ [])) (upd H1 x (.ins C y [])) (fun v H2 => v = .non ∧ Q (.ref x) H2) E) (fun p v e n o y hy hxv => ?_) dx hdx dx rfl (by rw [upd_ne (Ne.symm hne)]; exact hx)
  cases hy
  refine newO (w := v) (o := .ins C p []) (Q := fun r H1 => r = .ref x → sp (.ref x :: (vs ++ [])) H1 (fun v H2 => v = .non ∧ Q (.ref x) H2) E) (fun q u e2 n2 o2 hq => ?_) x hxv rfl
  cases hq
  exact k x p u (e.step e2 fun _ z => z.elim) hx o2
theorem s_pm1 {P : Wd → V → VK → XK → Prop} (h : P w y Q E) : pr1 P (y :: ([] ++ [])) w.H Q E := ⟨w, y, rfl, rfl, h⟩
theorem s_pm2 {b : V} {P : Wd → V → V → VK → XK → Prop} (h : P w y b Q E) : pr2 P (y :: ([b] ++ [])) w.H Q E := ⟨w, y, b, rfl, rfl, h⟩
theorem s_pm3 {b c : V} {P : Wd → V → V → V → VK → XK → Prop} (h : P w y b c Q E) : pr3 P (y :: ([b, c] ++ [])) w.H Q E := ⟨w, y, b, c, rfl, rfl, h⟩
theorem lk_hd {r : List (Str × V)} : List.lookup f ((f, v) :: r) = some v := by simp [List.lookup]
theorem lk_tl {g : Str} {r : List (Str × V)} {o : Option V} (h : (f == g) = false) (t : r.lookup f = o) : List.lookup f ((g, v) :: r) = o := by
  rw [List.lookup_cons, h]
  exact t
theorem lk_nil : List.lookup f ([] : List (Str × V)) = none := rfl
theorem pf_nil : putF f y [] = [(f, y)] := rfl
theorem pf_tl {g : Str} {r r' : List (Str × V)} (h : ¬ g = f) (t : putF f y r = r') : putF f y ((g, v) :: r) = (g, v) :: r' := by
  show (if g = f then _ else _) = _
  rw [if_neg h, t]
end
section
variable {K : PySem.W.Frag} {a b : Addr} {xs ys : List V}
def YZ (xs ys : List V) : Nat → Wd → V → Wd → Prop := fun i w x v => ∃ T x1 y1, x = .ref T ∧ Ext Non w v ∧ w.H T = none ∧ v.S T = some (.tup [x1, y1]) ∧ xs[i]? = some x1 ∧ ys[i]? = some y1
theorem yz_of {w : Wd} {T : Addr} {x1 y1 : V} {i : Nat} (hT : w.H T = none) (h1 : xs[i]? = some x1) (h2 : ys[i]? = some y1) : ∃ v : Wd, v.H = upd w.H T (.tup [x1, y1]) ∧ YZ xs ys i w (.ref T) v := by
  refine newS (w := w) (o := .tup [x1, y1]) (Q := fun r H' => r = .ref T → ∃ v : Wd, v.H = H' ∧ YZ xs ys i w (.ref T) v) (fun p v e n s hq => ?_) T hT rfl
  cases hq
  exact ⟨v, rfl, T, x1, y1, rfl, e, n, s, h1, h2⟩
theorem s_iZip {ta : TA} {σ : L2.St} {H : Hp} {R : It → Hp → Prop} (k : ta σ H fun vs H1 => ∃ a b xs ys, vs = [.ref a, .ref b] ∧ ((SqL K H1 a xs ∧ SqL K H1 b ys ∧ R (Itz K a b) H1) ∨ (SqT K H1 a xs ∧ SqT K H1 b ys ∧ R (RZ.ItzT K a b) H1))) : RZ.iZipA K ta σ H R := k
theorem ww_zipL (hn : xs.length = ys.length) : WWalk (Itz K a b) xs.length (fun w => SqL K w.H a xs ∧ SqL K w.H b ys) (YZ xs ys) :=
  ⟨fun i w h q => ⟨xs, ys, xs[i], ys[i], q.1, q.2, List.getElem?_eq_getElem h, List.getElem?_eq_getElem (by omega)⟩, fun w q => ⟨xs, ys, q.1, q.2, .inl (Nat.le_refl _)⟩, fun i w x H' h q y => by
    obtain ⟨T, x1, y1, rfl, hT, rfl, h1, h2⟩ := y
    exact yz_of hT (h1 xs q.1) (h2 ys q.2)⟩
end
end G
namespace G
open PySem L2
end G
namespace G
open PySem L2
end G
namespace G
open PySem L2
end G
namespace G
open PySem L2
end G
namespace G
open PySem L2
/-- an if without an else, told by what holds behind it -/
theorem s_ifJ {c : TT} {t : TS} {D : Ends} {σ : L2.St} {w : Wd} (R : L2.St → Wd → Prop) (h : ∀ Z : L2.St → Hp → Prop, (∀ σ u, R σ u → Z σ u.H) → tIfS c t tNext { D with nx := Z } σ w.H) (hd : ∀ σ u, R σ u → D.nx σ u.H) : tIfS c t tNext D σ w.H := h D.nx hd
end G
namespace G
open PySem L2
theorem pe_gco {X : Cx} {x : Str} {v : V} {pos : Pos} (hg : Gl X x) (c : ∃ u, X.mg x = some u ∧ RelV v u) (hd : (x == ("__debug__" : Str)) = false := by decide) : PE X (.Name x pos) (tC v) := by
  obtain ⟨u, hm, r⟩ := c
  exact pe_glob hg hm r hd
/-- at most n signs, all of the first 128 -/
def Tx (n : Nat) (z : Str) : Prop := z.length ≤ n ∧ ∀ c ∈ z.cps.toList, c < 128
section
variable {a b z : Str} {n m : Nat}
theorem Tx.mono (h : Tx n z) (k : n ≤ m) : Tx m z := ⟨Nat.le_trans h.1 k, h.2⟩
theorem Tx.app (h1 : Tx n a) (h2 : Tx m b) : Tx (n + m) (a ++ b) := by
  have e : (a ++ b).cps.toList = a.cps.toList ++ b.cps.toList := Array.toList_append
  refine ⟨?_, fun c hc => ?_⟩
  · have h3 : (a ++ b).length = a.length + b.length := by
      show (a ++ b).cps.size = a.cps.size + b.cps.size
      rw [← Array.length_toList, e, List.length_append, Array.length_toList, Array.length_toList]
    have := h1.1
    have := h2.1
    omega
  · rw [e] at hc
    rcases List.mem_append.mp hc with h | h
    · exact h1.2 c h
    · exact h2.2 c h
theorem Tx.one {c : Nat} (h : c < 128) : Tx 1 ⟨#[c]⟩ := ⟨Nat.le_refl _, fun d hd => by
  have : d = c := by simpa using hd
  rw [this]; exact h⟩
theorem Tx.ok (h : Tx n z) : PyData.strOk z = true := by
  unfold PyData.strOk
  rw [Array.all_eq_true_iff_forall_mem]
  intro c hc
  have := h.2 c (by simpa using hc)
  exact decide_eq_true (by omega)
end
section
variable {K : PySem.W.Frag} {H : Hp} {Q : VK} {a b z : Str}
theorem s_lenZ (h : z.length ≤ sizeLine) (k : Q (.int z.length) H) : gLen K [.str z] H Q := ⟨h, k⟩
theorem s_addZ (h : a.length + b.length ≤ sizeLine) (k : Q (.str (a ++ b)) H) : gAdd K (.str a) (.str b) H Q := ⟨h, k⟩
theorem s_inZ {c : Nat} (k : Q (.bl (decide (c ∈ z.cps.toList))) H) : gIn K (.str ⟨#[c]⟩) (.str z) H Q := ⟨c, rfl, k⟩
def zV (z : Str) : List V := z.cps.toList.map fun c => .str ⟨#[c]⟩
theorem ww_strI : WWalk (Its z) z.cps.size (fun _ => True) (YI (zV z)) :=
  ⟨fun i w h q => ww_str.goes i w h q, fun w q => ww_str.stops w q, fun i w x H' h q y => by
    obtain ⟨v, e, e1, c, e2, rfl⟩ := ww_str.yields i w x H' h q y
    refine ⟨v, e, e1, ?_⟩
    unfold zV
    rw [List.getElem?_map, Array.getElem?_toList, e2]
    rfl⟩
end
end G
namespace G
open PySem L2
theorem Tx.sz {n : Nat} {z : Str} (h : Tx n z) (k : n ≤ 16777216) : z.length ≤ sizeLine := by
  rw [sizeLine_eq]
  exact Nat.le_trans h.1 k
theorem Tx.sum {n m : Nat} {a b : Str} (h1 : Tx n a) (h2 : Tx m b) (k : n + m ≤ 16777216) : a.length + b.length ≤ sizeLine := by
  rw [sizeLine_eq]
  have := h1.1
  have := h2.1
  omega
theorem can_strs : ∀ zs : List Str, (∀ z ∈ zs, PyData.strOk z = true) → PyData.canLayAll0 (zs.map PyData.str) = true
  | [], _ => by simp [PyData.canLayAll0]
  | z :: r, h => by
    simp [PyData.canLayAll0, PyData.canLay0, can_strs r fun x hx => h x (List.mem_cons_of_mem _ hx), h z List.mem_cons_self]
theorem dep_strs : ∀ zs : List Str, PyData.depthAll (zs.map PyData.str) ≤ 1
  | [] => by simp [PyData.depthAll]
  | z :: r => by
    have := dep_strs r
    simp only [List.map_cons, PyData.depthAll, PyData.depth]
    omega
theorem shaped_strs {zs : List Str} (h : ∀ z ∈ zs, PyData.strOk z = true) : SeqAt.shaped (.list (zs.map PyData.str)) = true := by
  have h1 := dep_strs zs
  have h2 : PyData.depth (.list (zs.map PyData.str)) ≤ 64 := by simp only [PyData.depth]; omega
  show (PyData.canLay0 (.list (zs.map PyData.str)) && decide (PyData.depth (.list (zs.map PyData.str)) ≤ 64)) = true
  rw [Bool.and_eq_true]
  exact ⟨by simp only [PyData.canLay0]; exact can_strs zs h, decide_eq_true h2⟩
end G
namespace G
open PySem L2
section
variable {w : Wd}
/-- a comprehension over a range whose items touch m, I holding all along -/
theorem lc_rngI {α : Type} {P : α → Prop} {gd : α → PyData} (m : Addr → Prop) (I : Wd → Prop) {n : Nat} {lo : Int} {g : TG} {te : TE} {js : List Nat} {σ : L2.St} {D : Addr} {Qd : Hp → Prop} (hD : w.H D = none) (hmD : ¬ m D) (hz : n < sizeLine) (hI0 : ∀ u, Ext Non w u → I u) (hI : ∀ u v, I u → Ext (One D) u v → I v)
    (hs : ∀ i u, i < n → Ext (fun l => m l ∨ l = D) w u → I u → ∀ (R : VK) (Z : Hp → Prop), (∀ v y d, Ext m u v → I v → P d → Rp v.S y (gd d) → R y v.H) →
      g (.int (lo + i)) (wipe σ js) u.H fun σ2 H2 => wipe σ2 js = wipe σ js ∧ tYes σ2 H2 fun b H3 => if b = true then te σ2 H3 R else Z H3)
    (hd : ∀ u acc (ds : List α), Ext m w u → I u → w.H D = none → Own u D (.lst acc) → RpA u.S acc (ds.map gd) → ds.length = n → (∀ d ∈ ds, P d) → Qd u.H) :
    ∃ W : Nat → Nat → Hp → Prop, (∃ m, W 0 m (upd w.H D (.lst []))) ∧ ∀ i m H, W i m H →
      ((Itr lo n).stop i H ∧ Qd H) ∨ ((Itr lo n).go i H ∧ ∃ Nx : Hp → Prop, (∀ H', Nx H' → ∃ m', m' < m ∧ W (i + 1) m' H') ∧ ∀ x H', (Itr lo n).yld i H x H' → g x (wipe σ js) H' fun σ2 H2 => wipe σ2 js = wipe σ js ∧ tYes σ2 H2 fun b H3 =>
        if b = true then te σ2 H3 fun y H4 => ∃ acc, H4 D = some (.lst acc) ∧ acc.length < sizeLine ∧ Nx (upd H4 D (.lst (acc ++ [y]))) else Nx H3) := by
  refine lcW (ww_range (lo := lo) (m := n)) (fun i u acc => Ext (fun l => m l ∨ l = D) w u ∧ I u ∧ ∃ ds : List α, RpA u.S acc (ds.map gd) ∧ ds.length = i ∧ ∀ d ∈ ds, P d) hD (fun u e o => ⟨e.more fun _ z => z.elim, hI0 u e, [], .nil, rfl, fun d h => by cases h⟩) (fun _ _ _ _ _ => trivial) ?_ ?_
  · rintro i x u0 u acc hi o ⟨e, iu, ds, hr, hl, hp⟩ ⟨rfl, rfl⟩
    have hal : acc.length < sizeLine := by
      have h1 := hr.length
      rw [List.length_map] at h1
      omega
    refine hs i u hi e iu _ _ fun v y d ev iv hd hy => ?_
    refine lc_put (o.ext ev hmD) hal fun t et ot => ⟨(e.step ev fun l hl => .inr (.inl hl)).step et fun l hl => .inr (.inr hl), hI v t iv et, ds ++ [d], ?_, by simp [hl], fun d' hd' => ?_⟩
    · rw [List.map_append]
      exact RpA.append ((hr.go ev).go et) (.one (hy.go et))
    · rcases List.mem_append.mp hd' with h | h
      · exact hp d' h
      · rw [List.mem_singleton.mp h]; exact hd
  · rintro u acc ⟨e, iu, ds, hr, hl, hp⟩ o
    exact hd u acc ds (e.more fun l hl => hl.elim .inr fun h => .inl (by rw [h]; exact hD)) iu hD o hr hl hp
end
end G
namespace G
open PySem L2
theorem tx_sum : ∀ {zs : List Str}, (∀ z ∈ zs, Tx 1 z) → (zs.map (·.length)).sum ≤ zs.length
  | [], _ => by simp
  | z :: r, h => by
    have h1 := tx_sum (zs := r) fun y hy => h y (List.mem_cons_of_mem _ hy)
    have h2 := (h z List.mem_cons_self).1
    simp only [List.map_cons, List.sum_cons, List.length_cons]
    omega
end G
namespace G
open PySem L2
end G
namespace G
open PySem L2
end G
namespace G
open PySem L2
end G
set_option linter.all false
set_option maxRecDepth 100000
namespace G
open PySem L2 TL
theorem tl_one {c : Nat} : tl ⟨#[c]⟩ = [c] := rfl
section
variable {K : PySem.W.Frag} {w : Wd} {H : Hp} {Q : VK} {σ : L2.St} {a b z : Str}
theorem s_ixZe {j : Int} (hz : z.length ≤ sizeLine) (h0 : 0 ≤ j) (h1 : j < z.length) (k : ∀ c, (tl z)[j.toNat]? = some c → Q (.str ⟨#[c]⟩) H) : gIx K (.str z) (.int j) H Q := by
  have hl : j.toNat < (tl z).length := by
    have := len_tl z
    omega
  refine ⟨(tl z)[j.toNat], hz, ?_, k _ (List.getElem?_eq_getElem hl)⟩
  have hl' : j.toNat < z.cps.toList.length := hl
  rw [atI_nn h0 (by omega)]
  exact List.getElem?_eq_getElem hl'
theorem s_ninS2 {p : Addr} (h : w.S p = some (.tup [.str a, .str b])) (k : Q (.bl (!(decide (z = a) || decide (z = b)))) w.H) : gNotIn K (.str z) (.ref p) w.H Q := by
  refine ⟨p, _, rfl, .inr (sqt_of h), rfl, rfl, ?_⟩
  have e : inV (.str z) [.str a, .str b] = (decide (z = a) || decide (z = b)) := by
    show (a == z || (b == z || false)) = _
    rw [Bool.or_false, Bool.eq_iff_iff]
    simp only [Bool.or_eq_true, beq_iff_eq, decide_eq_true_eq]
    exact ⟨fun h => h.imp Eq.symm Eq.symm, fun h => h.imp Eq.symm Eq.symm⟩
  show Q (.bl (!inV (.str z) [.str a, .str b])) w.H
  rw [e]
  exact k
theorem s_isNN (k : Q (.bl true) H) : gIs .non .non H Q := s_isN (by rw [decide_eq_true rfl]; exact k)
theorem s_isIN {n : Int} (k : Q (.bl false) H) : gIs (.int n) .non H Q := s_isN (by rw [decide_eq_false (fun z => by cases z)]; exact k)
theorem s_notNN (k : Q (.bl false) H) : gIsNot .non .non H Q := s_notN (by rw [decide_eq_true rfl]; exact k)
theorem s_notIN {n : Int} (k : Q (.bl true) H) : gIsNot (.int n) .non H Q := s_notN (by rw [decide_eq_false (fun z => by cases z)]; exact k)
/-- a text in a written tuple of texts -/
theorem s_inT {p : Addr} {vs : List V} (h : w.S p = some (.tup vs)) (f : vs.all flatV = true) (k : Q (.bl (inV (.str z) vs)) w.H) : gIn K (.str z) (.ref p) w.H Q := ⟨p, vs, rfl, .inr (sqt_of h), rfl, f, k⟩
end
end G
set_option linter.all false
set_option maxRecDepth 100000
namespace G
open PySem L2 TL
def tNo : TS := fun _ _ _ => False
theorem ps_no {X : Cx} {st : Stmt} : PS X st tNo := ⟨fun _ _ _ _ _ _ h => h.elim⟩
theorem kpEnum {X : Cx} (K : PySem.W.Frag) {e : Expr} {ta : TA} {p pos tpos : Pos} {elts : List Expr} {kk : Nat} (hg : Gl X "enumerate") (hm : X.mg "enumerate" = none) (ha : PA X [e] ta) (eK : X.K = K := by rfl) (hs : starEach [e] X.env = [(false, eval e X.env)] := by rfl) :
    PI X (.Tuple elts kk tpos) (.Call (.Name "enumerate" p) [e] [] pos) (iEnum K ta) := eK ▸ pi_enum hg hm ha hs
section
variable {K : PySem.W.Frag} {w : Wd} {a C dx : Addr} {xs : List V} {Q : VK}
theorem s_iEnum {ta : TA} {σ : L2.St} {H : Hp} {R : It → Hp → Prop} (k : ta σ H fun vs H1 => ∃ a xs, vs = [.ref a] ∧ SqL K H1 a xs ∧ R (Ite K a) H1) : iEnum K ta σ H R := k
def YE (xs : List V) : Nat → Wd → V → Wd → Prop := fun i w x v => ∃ T x1, x = .ref T ∧ Ext Non w v ∧ w.H T = none ∧ v.S T = some (.tup [.int (i : Nat), x1]) ∧ xs[i]? = some x1
theorem ye_of {w : Wd} {T : Addr} {x1 : V} {i : Nat} (hT : w.H T = none) (h1 : xs[i]? = some x1) : ∃ v : Wd, v.H = upd w.H T (.tup [.int (i : Nat), x1]) ∧ YE xs i w (.ref T) v := by
  refine newS (w := w) (o := .tup [.int (i : Nat), x1]) (Q := fun r H' => r = .ref T → ∃ v : Wd, v.H = H' ∧ YE xs i w (.ref T) v) (fun p v e n s hq => ?_) T hT rfl
  cases hq
  exact ⟨v, rfl, T, x1, rfl, e, n, s, h1⟩
theorem ww_enum : WWalk (Ite K a) xs.length (fun w => SqL K w.H a xs) (YE xs) :=
  ⟨fun i w h q => ⟨xs, xs[i], q, List.getElem?_eq_getElem h⟩, fun w q => ⟨xs, q, Nat.le_refl _⟩, fun i w x H' h q y => by
    obtain ⟨T, x1, rfl, hT, rfl, h1⟩ := y
    exact ye_of hT (h1 xs q)⟩
structure ClsI (K : PySem.W.Frag) (C : Addr) : Prop where
  ha : PySem.W.findIn K (.ref C) "__class__" = some (some (.builtin "object.__class__"))
  hn : PySem.W.specialIn K (.builtin "object.__class__") "__get__" = some (some (.builtin "getset_descriptor.__get__"))
  ht : PySem.W.takesIn K (.builtin "object.__class__") = some true
  hm : PySem.W.mroIn K C (.type "object") = some true
end
end G
set_option linter.all false
set_option maxRecDepth 100000
set_option maxHeartbeats 1000000
namespace G
open PySem L2 PyProof.Rows
section
variable {X : Cx} {o e : Expr} {es : List Expr} {to te : TE} {ta : TA} {p p' p1 p2 pos : Pos}
/-- B.__init__(self, ..), B an own class that has its __init__ of ValueError -/
theorem pe_xinit {pl : Sem Bool} {C0 : Addr} {mc : Value} (he0 : PE X o (tC (.ref C0))) (rd : PySem.W.readsIn X.K C0 mc = true) (ga : PySem.W.specialIn X.K (.ref C0) "__getattribute__" = some (some (.builtin "type.__getattribute__")))
    (vV : PySem.W.findCls X.K (.ref C0) mc "__init__" = some (.val (.builtin "ValueError.__init__"))) (ha : PA X (e :: es) ta)
    (hc : eval (.Call (.Attribute o "__init__" p2) (e :: es) [] pos) X.env = (do
      let ov ← eval o X.env
      standAt p2.atName
      let (f, first) ← holding [ov] (getMethod ov "__init__" pl)
      callWith pos f first (backTo pos (starEach (e :: es) X.env)) (backToKw pos (keywordEach [] X.env))) := by rfl)
    (he : starEach (e :: es) X.env = (false, eval e X.env) :: starEach es X.env := by rfl) (hpl : (backTo pos (starEach es X.env)).any (·.1) = false := by rfl) :
    PE X (.Call (.Attribute o "__init__" p2) (e :: es) [] pos) (tVeI X.K ta) := by
  refine ⟨fun pins s σ H Q I h => ?_⟩
  refine PySem.W.methodCall_KW (pl := pl) (thn (he0.run pins s σ H (fun x H1 => x = .ref C0 ∧ tVeI X.K ta σ H1 Q) I ⟨rfl, h⟩) fun u s1 ⟨x, H1, I1, rx, ex, q0⟩ => ?_) hc
  subst ex
  obtain rfl : u = Value.ref C0 := rx
  refine PySem.W.method_cls I1.kIn ga (PySem.W.cls_value I1.kIn rd vV (by rfl) ?_)
  show wpAny _ _ (callWith pos (Value.builtin "ValueError.__init__") [] (backTo pos (starEach (e :: es) X.env)) []) _ _ _
  refine PyProof.Rows.callWith_method1 (thn (ha.run pos pins _ σ H1 _ (I1.tok _) q0) fun us s2 ⟨vs, H2, I2, r1, a, C, ws, ev, hl, T, ea, q⟩ => ?_) he hpl
  subst ev
  cases r1 with
  | @cons _ u0 _ ur ra rw' =>
    obtain rfl : u0 = Value.ref a := ra
    have hlen : ur.length ≤ sizeLine := by
      rw [← Paired.length rw', sizeLine_eq]
      omega
    exact oinit_ok T I2 ea hlen fun s' J => ⟨.non, H2, J, rfl, q⟩
end
/-- an exception class: what raise C(e) needs -/
structure Mxr (P : Program) (w : World) (K : PySem.W.Frag) (mg : Str → Option Value) (base : Heap) (C : Addr) (k : Nat) (sp : L2.Sp) : Prop where
  ex : ∃ (f : Addr) (fd : FuncData) (ps : List Str), FnOk P w K mg base CX0 k f fd ps sp ∧ OexC K C ∧ PySem.W.findIn K (.ref C) "__init__" = some (some (.ref f)) ∧ PySem.W.typeIn K (.ref f) = some (.type "function") ∧ Binds K fd ps []
def tRaiseX (C : Addr) (sp : L2.Sp) (W : WX) (ta : TA) : TS := fun _ σ H => tMkO C sp [] ta σ H fun cls d H' => W cls d σ H'
theorem ps_raiseX {X : Cx} {W : WX} {x : Str} {C : Addr} {k j : Nat} {sp : L2.Sp} {e : Expr} {ta : TA} {p pos pos2 : Pos} (hc : X.calm = true) (tk : Takes X W) (c : Mxr X.prog X.w X.K X.mg X.base C k sp) (hr : Room j X.A) (hk : k + 1 ≤ j) (hm : X.mg x = some (.ref C)) (ha : PA X [e] ta) (hg : Gl X x := by rfl)
    (hdb : (x == ("__debug__" : Str)) = false := by decide) (he : starEach [e] X.env = (false, eval e X.env) :: starEach [] X.env := by rfl) (hpl : (backTo pos (starEach [] X.env)).any (·.1) = false := by rfl) :
    PS X (.Raise (some (.Call (.Name x p) [e] [] pos)) none pos2) (tRaiseX C sp W ta) := by
  obtain ⟨f, fd, ps, F, T, iC, tI, hb⟩ := c.ex
  exact ps_raise hc tk (pmk_oex T iC tI F (hr.mono hk) hb .nil pass0 hg hm ha hdb he hpl)
/-- an __init__'s promise: it keeps its argument in the field f, nothing else -/
def initX (f : Str) (C : Addr) (w : Wd) (a b : V) (Q : VK) (_ : XK) : Prop := ∃ x, a = .ref x ∧ w.H x = some (exo x C none) ∧ ∀ dx, w.H dx = none → dx ≠ x → Q .non (upd (upd w.H dx (exd dx [(f, b)])) x (exo x C (some dx)))
section
variable {w : Wd} {K : PySem.W.Frag} {C : Addr} {f : Str} {y : V} {Q : VK} {σ : L2.St} {W : WX} {D : Ends}
theorem s_raiseX {ta : TA} {P : Wd → V → V → VK → XK → Prop} (hP : P = initX f C) (k : ta σ w.H fun vs H1 => vs.length ≤ 1000 ∧ ∀ a, H1 a = none → pr2 P (.ref a :: (vs ++ [])) (upd H1 a (exo a C none))
    (fun v H2 => v = .non ∧ ∃ (d : Addr) (fs : List (Str × V)), H2 a = some (exo a C (some d)) ∧ H2 d = some (exd d fs) ∧ H1 d = none ∧ W (.ref C) (some d) σ (upd (del H2 a) d (.xd fs))) (fun _ _ _ => False)) : tRaiseX C (pr2 P) W ta D σ w.H := k
/-- the raise itself: told by what holds where it is caught -/
theorem s_raised (k : ∀ d v, Ext Non w v → w.H d = none → Own v d (.xd [(f, y)]) → W (.ref C) (some d) σ v.H) : [y].length ≤ 1000 ∧ ∀ a, w.H a = none → pr2 (initX f C) (.ref a :: ([y] ++ [])) (upd w.H a (exo a C none))
    (fun v H2 => v = .non ∧ ∃ (d : Addr) (fs : List (Str × V)), H2 a = some (exo a C (some d)) ∧ H2 d = some (exd d fs) ∧ w.H d = none ∧ W (.ref C) (some d) σ (upd (del H2 a) d (.xd fs))) (fun _ _ _ => False) := by
  refine ⟨by simp, fun a ha => ?_⟩
  refine ⟨⟨w.S, upd w.H a (exo a C none), fun b q x => ?_⟩, .ref a, y, rfl, rfl, a, rfl, upd_same, fun dx hdx hne => ⟨rfl, dx, [(f, y)], upd_same, ?_, ?_, ?_⟩⟩
  · have hb : b ≠ a := fun e => by
      have := w.ok b q x
      rw [e, ha] at this
      cases this
    rw [upd_ne hb]
    exact w.ok b q x
  · rw [upd_ne hne, upd_same]
  · have : upd w.H a (exo a C none) dx = none := hdx
    rw [upd_ne hne] at this
    exact this
  · have hdn : w.H dx = none := by
      have : upd w.H a (exo a C none) dx = none := hdx
      rw [upd_ne hne] at this
      exact this
    have e : upd (del (upd (upd (upd w.H a (exo a C none)) dx (exd dx [(f, y)])) a (exo a C (some dx))) a) dx (.xd [(f, y)]) = upd w.H dx (.xd [(f, y)]) := by
      funext b
      by_cases hb : b = dx
      · subst hb
        rw [upd_same, upd_same]
      · rw [upd_ne hb, upd_ne hb]
        by_cases hb2 : b = a
        · subst hb2
          rw [del_same, ha]
        · rw [del_ne hb2, upd_ne hb2, upd_ne hb, upd_ne hb2]
    show W (.ref C) (some dx) σ (upd (del (upd (upd (upd w.H a (exo a C none)) dx (exd dx [(f, y)])) a (exo a C (some dx))) a) dx (.xd [(f, y)]))
    rw [e]
    refine newO (w := w) (o := .xd [(f, y)]) (Q := fun r H' => ∀ d, r = .ref d → W (.ref C) (some d) σ H') (fun p v e n o d hd => ?_) dx hdn dx rfl
    cases hd
    exact k p v e n o
end
/-- e.f in an except suite, whatever the class -/
def tXg (K : PySem.W.Frag) (a : Addr) (cls : Value) (d : Option Addr) (f : Str) (te : TE) : TE := fun σ H Q => te σ H fun x H1 => ∃ C : Addr, x = .ref a ∧ cls = .ref C ∧ XfC K C ∧ PySem.W.findIn K (.ref C) f = some none ∧ ∃ (dd : Addr) (fs : List (Str × V)) (v : V), d = some dd ∧ H1 dd = some (.xd fs) ∧ fs.lookup f = some v ∧ Q v H1
theorem pe_xg {X : Cx} {K : PySem.W.Frag} (eK : X.K = K) {a : Addr} {oe : Obj} {cls : Value} {d : Option Addr} {pn : List (Addr × Obj)} {e : Expr} {te : TE} {pos : Pos} {n : Str}
    (hz : Zc cls d oe) (hf : ∃ vs, oe.data = .fields vs) (he : PE (X.suite a ((a, oe) :: pn)) e te) (hb : attributeBase e n X.env (eval e X.env) = eval e X.env := by rfl) :
    PE (X.suite a ((a, oe) :: pn)) (.Attribute e n pos) (tXg K a cls d n te) := by
  subst eK
  refine ⟨fun pins s σ H Q I h => ?_⟩
  refine attr_of hb (thn (he.run pins s σ H _ I h) fun u s1 hh => ?_)
  obtain ⟨x, H1, I1, rx, C, ex, ec, T, hno, dd, fs, v, ed, ea, l, q⟩ := hh
  subst ex
  obtain rfl : u = Value.ref a := rx
  subst ec
  subst ed
  obtain ⟨ha, _⟩ := I1.pin (a, oe) (List.mem_append_left _ List.mem_cons_self)
  obtain ⟨vs, hd⟩ := hf
  have hx : ObjOk X.prog X.w H1 s1.heap dd (.xd fs) := I1.hok dd _ ea
  obtain ⟨mA, hns, hr⟩ := hx
  obtain ⟨od, ho, hl⟩ := lookIn_ns hns
  obtain ⟨u, hu, ru⟩ := RelO.some_of (v := v) (o := mA n) (by rw [← l]; exact hr n)
  have J : PySem.W.InstAt s1.heap a oe C (some od) := ⟨ha, hz.1, by unfold PySem.W.notCls; rw [hd] <;> rfl, by rw [hz.2]; exact ho⟩
  exact HandSPX.exc_get I1.kIn J T.ga T.gg T.exC (PySem.W.findObj_own T.hdC hno rfl (by rw [hl, hu])) (handed_of ru) ⟨v, H1, I1.tok _, ru, q⟩
section
variable {X : Cx} {k j : Nat} {x m : Str} {C : Addr} {sp : L2.Sp} {p pos apos : Pos} {o e : Expr} {es : List Expr} {to : TE} {t : TA} {W : WX}
/-- a call that may raise -/
def tMethX (C : Addr) (m : Str) (sp : L2.Sp) (W : WX) (to : TE) (t : TA) : TE := fun σ H Q => to σ H fun x H1 => rMeth C m t sp (fun cls d H' => W cls d σ H') Q σ x H1
theorem pe_mthX {pl : Sem Bool} (tk : Takes X W) (c : Mth X.prog X.w X.K X.mg X.base (L2.CX X.prog X.w) C k m sp) (cl : Cls X.K C) (hr : Room j X.A) (hk : k ≤ j) (he : PE X o to) (ha : PA X (e :: es) t)
    (hst : starEach (e :: es) X.env = (false, eval e X.env) :: starEach es X.env := by rfl) (hpl : (backTo pos (starEach es X.env)).any (·.1) = false := by rfl)
    (ht : eval (.Call (.Attribute o m apos) (e :: es) [] pos) X.env = (do
      let ov ← eval o X.env
      standAt apos.atName
      let (f, first) ← holding [ov] (getMethod ov m pl)
      callWith pos f first (backTo pos (starEach (e :: es) X.env)) (backToKw pos (keywordEach [] X.env))) := by rfl) :
    PE X (.Call (.Attribute o m apos) (e :: es) [] pos) (tMethX C m sp W to t) := by
  obtain ⟨f, fd, ps, F, hm, hb⟩ := c.ex
  refine ⟨fun pins s σ H Q I h => ?_⟩
  refine PySem.W.methodCall_KW (pl := pl) (thn (he.run pins s σ H _ I h) fun u s1 ⟨x, H1, I1, rx, a, dx, fs, ex, ea, l, q⟩ => ?_) ht
  subst ex
  obtain rfl : u = Value.ref a := rx
  refine getmeth_ok I1 ea cl hm l ?_
  refine PySem.W.callWith_K (first := [.ref a]) (h₀ := X.base) I.ok.mod.kin hm.kp (thn (ha.run pos pins s1 σ H1 _ I1 q) fun us s2 ⟨vs, H2, I2, r, q2⟩ => ⟨I2.kIn, ?_⟩) hst hpl
  have q3 : sp (.ref a :: vs) H2 Q (fun cls d H' => W cls d σ H') := by
    have q4 : sp (.ref a :: (vs ++ [])) H2 Q (fun cls d H' => W cls d σ H') := q2
    rw [List.append_nil] at q4
    exact q4
  exact run_fnS (E := fun σ cls d H => W cls d σ H) (us := .ref a :: us) (vs := .ref a :: vs) F (hr.mono hk) hb (passAt tk σ) I2 (.cons rfl r) q3
def tCallX (sp : L2.Sp) (W : WX) (t : TA) : TE := fun σ H Q => t σ H fun vs H1 => sp (vs ++ []) H1 Q (fun cls d H' => W cls d σ H')
end
section
variable {K : PySem.W.Frag} {w : Wd} {H : Hp} {Q : VK} {σ : L2.St} {sp : L2.Sp} {W : WX} {to te : TE} {t : TA} {C a dd : Addr} {m f : Str} {cls : Value} {d : Option Addr} {D : Ends}
theorem s_methX (k : to σ H fun x H1 => rMeth C m t sp (fun cls d H' => W cls d σ H') Q σ x H1) : tMethX C m sp W to t σ H Q := k
theorem s_callX (k : t σ H fun vs H1 => sp (vs ++ []) H1 Q (fun cls d H' => W cls d σ H')) : tCallX sp W t σ H Q := k
/-- caught -/
theorem s_wAs {c : Value} {i : Nat} {ts : Addr → Value → Option Addr → TS} {Wout : WX} (e : PySem.W.exmOne K cls c = some true) (k : ∀ a, H a = none → ts a cls d { nx := fun σ' H' => D.nx (σ'.set i none) H', rt := D.rt, bk := fun σ' H' => D.bk (σ'.set i none) H', ct := fun σ' H' => D.ct (σ'.set i none) H' } (σ.set i (some (.ref a))) H) :
    wAs K c i ts Wout D cls d σ H := ⟨true, e, fun _ a ha => k a ha, fun z => by cases z⟩
def gXg (K : PySem.W.Frag) (a : Addr) (cls : Value) (d : Option Addr) (f : Str) (x : V) (H1 : Hp) (Q : VK) : Prop := ∃ C : Addr, x = .ref a ∧ cls = .ref C ∧ XfC K C ∧ PySem.W.findIn K (.ref C) f = some none ∧ ∃ (dd : Addr) (fs : List (Str × V)) (v : V), d = some dd ∧ H1 dd = some (.xd fs) ∧ fs.lookup f = some v ∧ Q v H1
theorem s_xg (k : te σ H fun x H1 => gXg K a cls d f x H1 Q) : tXg K a cls d f te σ H Q := k
theorem s_xgv {v : V} {C : Addr} (h : w.H dd = some (.xd [(f, v)])) (x : XfC K C) (n : PySem.W.findIn K (.ref C) f = some none) (k : Q v w.H) : gXg K a (.ref C) (some dd) f (.ref a) w.H Q :=
  ⟨C, rfl, rfl, x, n, dd, _, v, rfl, h, by simp [List.lookup], k⟩
theorem s_ost (k : te σ H fun y H1 => to σ H1 fun x H2 => ∃ a C : Addr, x = .ref a ∧ OexC K C ∧ PySem.W.findIn K (.ref C) f = some none ∧
  ((H2 a = some (exo a C none) ∧ ∀ dx, H2 dx = none → dx ≠ a → D.nx σ (upd (upd H2 dx (exd dx [(f, y)])) a (exo a C (some dx)))) ∨
    ∃ (dx : Addr) (fs : List (Str × V)), H2 a = some (exo a C (some dx)) ∧ H2 dx = some (exd dx fs) ∧ fs.length ≤ 900 ∧ D.nx σ (upd H2 dx (exd dx ((f, y) :: fs))))) : tOst K f to te D σ H := k
/-- the __init__ of an exception class -/
theorem s_veI {ta : TA} (k : ta σ H fun vs H1 => ∃ (a C : Addr) (ws : List V), vs = .ref a :: ws ∧ ws.length ≤ 1000 ∧ OexC K C ∧ H1 a = some (exo a C none) ∧ Q .non H1) : tVeI K ta σ H Q := k
end
/-- ==, of dicts too -/
def gEqU (K : PySem.W.Frag) : R2 := fun x y H Q => gEq K x y H Q ∨ rEqDA x y H Q
theorem kEqU {X : Cx} (K : PySem.W.Frag) (hu : X.A.units + 64 < cLine) (eK : X.K = K := by rfl) : OpR X (compareOp .Eq) (gEqU K) := eK ▸ (g_eq hu).or (op_eq_dictA (by omega))
theorem kit_self {K : PySem.W.Frag} {A : Addr} : PySem.W.kitOne K (.ref A) (.ref A) = some true := by unfold PySem.W.kitOne; simp
end G
set_option linter.all false
set_option maxRecDepth 100000
namespace G
open PySem L2 TL NumText
def oV : Option Int → V
  | some n => .int n
  | none => .non
theorem ov_at {a b : Option Int} {Q : VK} {H : Hp} (e : a = b) (k : Q (oV a) H) : Q (oV b) H := e ▸ k
def TxD (d : PyData) : Prop := ∀ z, d = .str z → Tx 1000 z
end G
namespace G
open PySem L2
theorem drop_at {α : Type} {xs : List α} {i : Nat} {x : α} (h : xs[i]? = some x) : xs.drop i = x :: xs.drop (i + 1) := by
  obtain ⟨h1, rfl⟩ := List.getElem?_eq_some_iff.mp h
  exact List.drop_eq_getElem_cons h1
def lastHi (l : Option Int) : List (Int × Int) → Option Int
  | [] => l
  | p :: r => lastHi (some p.2) r
def Sp : Option Int → List (Int × Int) → Prop
  | _, [] => True
  | l, q :: r => q.1 ≤ q.2 ∧ (∀ h, l = some h → h + 2 ≤ q.1) ∧ Sp (some q.2) r
def ins (rows : List (Int × Int)) (n : Int) : Prop := ∃ q ∈ rows, q.1 ≤ n ∧ n ≤ q.2
section
variable {A B fs : List (Int × Int)} {n : Int} {l : Option Int} {q s : Int × Int} {i : Nat}
theorem ins_nil : ¬ ins [] n := fun ⟨_, h, _⟩ => by cases h
theorem ins_cons : ins (q :: A) n ↔ (q.1 ≤ n ∧ n ≤ q.2) ∨ ins A n := by simp [ins]
theorem ins_app : ins (A ++ B) n ↔ ins A n ∨ ins B n := by
  simp only [ins, List.mem_append, or_and_right, exists_or]
theorem ins_one : ins [q] n ↔ q.1 ≤ n ∧ n ≤ q.2 := by simp [ins]
theorem ins_take (h : A[i]? = some q) : ins (A.take (i + 1)) n ↔ ins (A.take i) n ∨ (q.1 ≤ n ∧ n ≤ q.2) := by
  rw [List.take_add_one, h, ins_app]
  exact or_congr Iff.rfl ins_one
theorem ins_perm (p : A.Perm B) : ins A n ↔ ins B n := by
  simp only [ins, p.mem_iff]
theorem Sp.wf : ∀ {A : List (Int × Int)} {l : Option Int}, Sp l A → ∀ q ∈ A, q.1 ≤ q.2
  | [], _, _, q, h => by cases h
  | p :: r, _, h, q, hq => by
    cases hq with
    | head => exact h.1
    | tail _ hq => exact Sp.wf h.2.2 q hq
theorem Sp.low : ∀ {A : List (Int × Int)} {h : Int}, Sp (some h) A → ∀ q ∈ A, h + 2 ≤ q.1
  | [], _, _, q, hq => by cases hq
  | p :: r, h, hs, q, hq => by
    have h1 := hs.2.1 h rfl
    cases hq with
    | head => exact h1
    | tail _ hq =>
      have := Sp.low hs.2.2 q hq
      have := hs.1
      omega
theorem Sp.low_ins {h : Int} (hs : Sp (some h) A) (hn : ins A n) : h + 2 ≤ n := by
  obtain ⟨q, hq, h1, h2⟩ := hn
  have := hs.low q hq
  omega
theorem Sp.snoc {a b : Int} : ∀ {l : Option Int} {A : List (Int × Int)}, Sp l A → a ≤ b → (∀ h, lastHi l A = some h → h + 2 ≤ a) → Sp l (A ++ [(a, b)])
  | l, [], _, h1, h2 => ⟨h1, h2, trivial⟩
  | _, p :: r, h, h1, h2 => ⟨h.1, h.2.1, Sp.snoc h.2.2 h1 h2⟩
theorem lastHi_snoc {a b : Int} : ∀ {l : Option Int} {A : List (Int × Int)}, lastHi l (A ++ [(a, b)]) = some b
  | _, [] => rfl
  | _, _ :: r => lastHi_snoc (A := r)
theorem Sp.last {a b c : Int} : ∀ {l : Option Int} {A : List (Int × Int)}, Sp l (A ++ [(a, b)]) → b ≤ c → Sp l (A ++ [(a, c)])
  | l, [], h, k => ⟨by have := h.1; simp at this ⊢; omega, h.2.1, trivial⟩
  | _, p :: r, h, k => ⟨h.1, h.2.1, Sp.last (A := r) h.2.2 k⟩
theorem canon : ∀ {A B : List (Int × Int)} {l k : Option Int}, Sp l A → Sp k B → (∀ n, ins A n ↔ ins B n) → A = B
  | [], [], _, _, _, _, _ => rfl
  | [], q :: r, _, _, _, hb, e => by
    have := (e q.1).mpr (ins_cons.mpr (.inl ⟨Int.le_refl _, hb.1⟩))
    exact absurd this ins_nil
  | q :: r, [], _, _, ha, _, e => by
    have := (e q.1).mp (ins_cons.mpr (.inl ⟨Int.le_refl _, ha.1⟩))
    exact absurd this ins_nil
  | (a, b) :: A, (c, d) :: B, _, _, ha, hb, e => by
    have hab : a ≤ b := ha.1
    have hcd : c ≤ d := hb.1
    have la : ∀ n, ins A n → b + 2 ≤ n := fun n => ha.2.2.low_ins
    have lb : ∀ n, ins B n → d + 2 ≤ n := fun n => hb.2.2.low_ins
    have e' : ∀ n, ((a ≤ n ∧ n ≤ b) ∨ ins A n) ↔ ((c ≤ n ∧ n ≤ d) ∨ ins B n) := fun n => by
      have := e n
      rw [ins_cons, ins_cons] at this
      exact this
    have h1 : a = c := by
      have x1 := (e' a).mp (.inl ⟨Int.le_refl _, hab⟩)
      have x2 := (e' c).mpr (.inl ⟨Int.le_refl _, hcd⟩)
      have y1 : c ≤ a := by
        rcases x1 with x | x
        · exact x.1
        · have := lb a x; omega
      have y2 : a ≤ c := by
        rcases x2 with x | x
        · exact x.1
        · have := la c x; omega
      omega
    subst h1
    have h2 : b = d := by
      by_cases hlt : b < d
      · have x := (e' (b + 1)).mpr (.inl ⟨by omega, by omega⟩)
        rcases x with x | x
        · omega
        · have := la _ x; omega
      · by_cases hgt : d < b
        · have x := (e' (d + 1)).mp (.inl ⟨by omega, by omega⟩)
          rcases x with x | x
          · omega
          · have := lb _ x; omega
        · omega
    subst h2
    rw [canon ha.2.2 hb.2.2 fun n => ?_]
    constructor
    · intro x
      have := la n x
      rcases (e' n).mp (.inr x) with y | y
      · omega
      · exact y
    · intro x
      have := lb n x
      rcases (e' n).mpr (.inr x) with y | y
      · omega
      · exact y
structure JInv (S : List (Int × Int)) (i : Nat) (fs : List (Int × Int)) : Prop where
  sp : Sp none fs
  len : fs.length ≤ i
  mem : ∀ n, ins fs n ↔ ins (S.take i) n
  low : ∀ f ∈ fs, ∀ j q, i ≤ j → S[j]? = some q → f.1 ≤ q.1
theorem JInv.nil {S : List (Int × Int)} : JInv S 0 [] := ⟨trivial, Nat.le_refl _, fun n => by simp [ins], fun f h => by cases h⟩
theorem lows {S : List (Int × Int)} (h : S.Pairwise leP) (hi : S[i]? = some q) {j : Nat} (hij : i ≤ j) (hj : S[j]? = some s) : q.1 ≤ s.1 := by
  obtain ⟨h1, rfl⟩ := List.getElem?_eq_some_iff.mp hi
  obtain ⟨h2, rfl⟩ := List.getElem?_eq_some_iff.mp hj
  by_cases e : i = j
  · subst e; exact Int.le_refl _
  · have := List.pairwise_iff_getElem.mp h i j h1 h2 (by omega)
    unfold leP at this
    omega
theorem JInv.app {S : List (Int × Int)} (h : JInv S i fs) (hs : S.Pairwise leP) (hi : S[i]? = some q) (hw : q.1 ≤ q.2) (hl : ∀ x, lastHi none fs = some x → x + 2 ≤ q.1) : JInv S (i + 1) (fs ++ [q]) := by
  refine ⟨h.sp.snoc hw hl, by simp; exact h.len, fun n => ?_, fun f hf j s hj hjs => ?_⟩
  · rw [ins_app, ins_take hi, h.mem, ins_one]
  · rcases List.mem_append.mp hf with hf | hf
    · exact h.low f hf j s (by omega) hjs
    · rw [List.mem_singleton.mp hf]
      exact lows hs hi (by omega) hjs
theorem JInv.mrg {S : List (Int × Int)} {a b : Int} (h : JInv S i (fs ++ [(a, b)])) (hi : S[i]? = some q) (hw : q.1 ≤ q.2) (hl : q.1 ≤ b + 1) : JInv S (i + 1) (fs ++ [(a, max b q.2)]) := by
  have hlo : a ≤ q.1 := h.low (a, b) (by simp) i q (Nat.le_refl _) hi
  have hab : a ≤ b := h.sp.wf (a, b) (by simp)
  refine ⟨h.sp.last (by omega), by have := h.len; simp at this ⊢; omega, fun n => ?_, fun f hf j s hj hjs => ?_⟩
  · have h1 := h.mem n
    rw [ins_app, ins_one] at h1
    rw [ins_app, ins_one, ins_take hi, ← h1]
    have : (a ≤ n ∧ n ≤ max b q.2) ↔ (a ≤ n ∧ n ≤ b) ∨ (q.1 ≤ n ∧ n ≤ q.2) := by omega
    show ins fs n ∨ (a ≤ n ∧ n ≤ max b q.2) ↔ (ins fs n ∨ (a ≤ n ∧ n ≤ b)) ∨ (q.1 ≤ n ∧ n ≤ q.2)
    rw [this, or_assoc]
  · rcases List.mem_append.mp hf with hf | hf
    · exact h.low f (List.mem_append.mpr (.inl hf)) j s (by omega) hjs
    · obtain rfl := List.mem_singleton.mp hf
      exact h.low (a, b) (by simp) j s (by omega) hjs
end
end G
namespace G
open PySem L2
theorem RpA.bools_inv {S : Hp} {α : Type} {f : α → Bool} : ∀ {vs : List V} {ns : List α}, RpA S vs (ns.map fun q => .bool (f q)) → vs = (ns.map f).map V.bl
  | _, [], h => by cases h; rfl
  | _, n :: ns, h => by
    cases h with
    | cons h1 h2 =>
      cases h1
      rw [RpA.bools_inv h2]
      rfl
end G
set_option linter.all false
set_option maxRecDepth 100000
namespace G
open PySem L2 TL NumText
end G
set_option linter.all false
set_option maxRecDepth 100000
namespace G
open PySem L2 TL NumText
end G
set_option linter.all false
set_option maxRecDepth 100000
namespace G
open PySem L2 TL NumText
end G
set_option linter.all false
set_option maxRecDepth 100000
namespace G
open PySem L2 TL
def wholeB (d : PyData) (lo hi : Int) : Bool := match d with
  | .int n => decide (lo ≤ n) && decide (n ≤ hi)
  | _ => false
theorem whole_no {d : PyData} {lo hi : Int} (h : isNum d = false) : wholeB d lo hi = false := by
  cases d <;> first | rfl | cases h
theorem whole_yes {d : PyData} {lo hi : Int} (h : wholeB d lo hi = true) : ∃ n : Int, d = .int n ∧ lo ≤ n ∧ n ≤ hi := by
  cases d <;> first | cases h | skip
  rename_i n
  unfold wholeB at h
  rw [Bool.and_eq_true, decide_eq_true_eq, decide_eq_true_eq] at h
  exact ⟨n, rfl, h⟩
def rowB : PyData → Bool
  | .tuple [a, b] => wholeB a 0 1000000000 && wholeB b (0 - 2880) 2880
  | _ => false
theorem row_yes {d : PyData} (h : rowB d = true) : ∃ m s : Int, d = .tuple [.int m, .int s] ∧ 0 ≤ m ∧ m ≤ 1000000000 ∧ -2880 ≤ s ∧ s ≤ 2880 := by
  unfold rowB at h
  split at h
  · rename_i a b
    rw [Bool.and_eq_true] at h
    obtain ⟨m, rfl, h1, h2⟩ := whole_yes h.1
    obtain ⟨s, rfl, h3, h4⟩ := whole_yes h.2
    exact ⟨m, s, rfl, h1, h2, by omega, h4⟩
  · cases h
theorem row_len {ds : List PyData} (h : ds.length ≠ 2) : rowB (.tuple ds) = false := by
  unfold rowB
  split
  · rename_i e
    cases e
    exact absurd rfl h
  · rfl
theorem row_notup {d : PyData} (h : isTup d = false) : rowB d = false := by cases d <;> first | rfl | cases h
def momD : PyData → Int
  | .tuple (.int m :: _) => m
  | _ => 0
def stepBad (ahead : Option Int) (m : Int) : Bool := match ahead with
  | none => decide (m ≠ 0)
  | some a => decide (m ≤ a)
def faultFrom : Option Int → Nat → List PyData → Option Int
  | _, _, [] => none
  | ahead, i, d :: r => if (!rowB d || stepBad ahead (momD d)) = true then some (i : Int) else faultFrom (some (momD d)) (i + 1) r
def faultD : PyData → Option Int
  | .list ds => if ds.length = 0 then some 0 else if ds.length > 21 then some 21 else faultFrom none 0 ds
  | _ => some 0
/-- rows of a table -/
def Rising : Option Int → List (Int × Int) → Prop
  | _, [] => True
  | a, p :: r => (0 ≤ p.1 ∧ p.1 ≤ 1000000000 ∧ -2880 ≤ p.2 ∧ p.2 ≤ 2880) ∧ stepBad a p.1 = false ∧ Rising (some p.1) r
structure TabOk (R : List (Int × Int)) : Prop where
  n : R ≠ []
  l : R.length ≤ 21
  r : Rising none R
theorem fault_from : ∀ (R : List (Int × Int)) (a : Option Int) (i : Nat), Rising a R → faultFrom a i (R.map fun p => .tuple [.int p.1, .int p.2]) = none
  | [], _, _, _ => rfl
  | p :: r, a, i, h => by
    have e1 : rowB (.tuple [.int p.1, .int p.2]) = true := by
      show (wholeB (.int p.1) 0 1000000000 && wholeB (.int p.2) (0 - 2880) 2880) = true
      simp only [wholeB, Bool.and_eq_true, decide_eq_true_eq]
      have := h.1
      omega
    have e2 : stepBad a p.1 = false := h.2.1
    show (if (!rowB (.tuple [.int p.1, .int p.2]) || stepBad a p.1) = true then some (i : Int) else faultFrom (some p.1) (i + 1) (r.map fun p => .tuple [.int p.1, .int p.2])) = none
    rw [e1, e2, if_neg (by decide)]
    exact fault_from r _ _ h.2.2
theorem fault_none {R : List (Int × Int)} (h : TabOk R) : faultD (.list (R.map fun p => .tuple [.int p.1, .int p.2])) = none := by
  show (if (R.map _).length = 0 then some 0 else if (R.map _).length > 21 then some 21 else faultFrom none 0 (R.map _)) = none
  have h1 := h.l
  have h2 : R.length ≠ 0 := fun e => h.n (List.length_eq_zero_iff.mp e)
  rw [List.length_map, if_neg h2, if_neg (by omega)]
  exact fault_from R none 0 h.r
theorem Rising.mem : ∀ {R : List (Int × Int)} {a : Option Int}, Rising a R → ∀ p ∈ R, 0 ≤ p.1 ∧ p.1 ≤ 1000000000 ∧ -2880 ≤ p.2 ∧ p.2 ≤ 2880
  | q :: r, a, h, p, hp => by
    rcases List.mem_cons.mp hp with rfl | hp
    · exact h.1
    · exact Rising.mem h.2.2 p hp
end G
set_option linter.all false
set_option maxRecDepth 100000
namespace G
open PySem L2 TL NumText
/-- a table at x for good -/
def TbS (C : Addr) (S : Hp) (x : V) (R : List (Int × Int)) : Prop := ∃ a dx, ∃ y : V, x = .ref a ∧ S a = some (.ins C dx [("kept_rows", y)]) ∧ Rp S y (.list (R.map prD))
theorem TbS.go {C : Addr} {w v : Wd} {x : V} {R : List (Int × Int)} {m : Addr → Prop} (e : Ext m w v) (h : TbS C w.S x R) : TbS C v.S x R := by
  obtain ⟨a, dx, y, rfl, h1, h2⟩ := h
  exact ⟨a, dx, y, rfl, st_go e h1, h2.go e⟩
theorem rising_snoc : ∀ {R : List (Int × Int)} {a : Option Int} {p : Int × Int}, Rising a R → (0 ≤ p.1 ∧ p.1 ≤ 1000000000 ∧ -2880 ≤ p.2 ∧ p.2 ≤ 2880) → (R = [] → stepBad a p.1 = false) → (∀ q, R.getLast? = some q → q.1 < p.1) → Rising a (R ++ [p])
  | [], a, p, _, hb, h0, _ => ⟨hb, h0 rfl, trivial⟩
  | q :: r, a, p, h, hb, _, hl => by
    refine ⟨h.1, h.2.1, rising_snoc h.2.2 hb (fun e => ?_) (fun q' hq' => ?_)⟩
    · subst e
      have := hl q rfl
      exact decide_eq_false (by omega)
    · refine hl q' ?_
      cases r with
      | nil => cases hq'
      | cons x y => rw [List.getLast?_cons_cons]; exact hq'
theorem rising_init : ∀ {R : List (Int × Int)} {a : Option Int} {p : Int × Int}, Rising a (R ++ [p]) → Rising a R ∧ (∀ q, R.getLast? = some q → q.1 < p.1) ∧ (0 ≤ p.1 ∧ p.1 ≤ 1000000000 ∧ -2880 ≤ p.2 ∧ p.2 ≤ 2880)
  | [], a, p, h => ⟨trivial, (fun q e => by cases e), h.1⟩
  | [x], a, p, h => ⟨⟨h.1, h.2.1, trivial⟩, (fun q e => by
      obtain rfl : x = q := Option.some.inj e
      have : stepBad (some x.1) p.1 = false := h.2.2.2.1
      have := of_decide_eq_false this
      omega), h.2.2.1⟩
  | x :: y :: r, a, p, h => by
    obtain ⟨h1, h2, h3⟩ := rising_init (R := y :: r) h.2.2
    exact ⟨⟨h.1, h.2.1, h1⟩, (fun q e => h2 q (by rw [List.getLast?_cons_cons] at e; exact e)), h3⟩
theorem rising_last {R : List (Int × Int)} {p : Int × Int} (h : Rising none (R ++ [p])) (hn : R ≠ []) : Rising none (R ++ [(1000000000, p.2)]) := by
  obtain ⟨h1, h2, h3⟩ := rising_init h
  refine rising_snoc h1 ⟨show (0 : Int) ≤ 1000000000 by decide, show (1000000000 : Int) ≤ 1000000000 by decide, h3.2.2⟩ (fun e => absurd e hn) fun q hq => ?_
  have := h2 q hq
  show q.1 < 1000000000
  omega
end G
set_option linter.all false
set_option maxRecDepth 100000
namespace G
open PySem L2 TL NumText
end G
set_option linter.all false
set_option maxRecDepth 100000
namespace G
open PySem L2 TL NumText
def lastOf (R : List (Int × Int)) (i : Nat) : Int := match R[i + 1]? with
  | some q => q.1 - 1
  | none => 1000000000
def pcAt (R : List (Int × Int)) (i : Nat) : Int × Int × Int := ((R.getD i (0, 0)).1, lastOf R i, (R.getD i (0, 0)).2)
def pcsI (R : List (Int × Int)) : List (Int × Int × Int) := (List.range R.length).map (pcAt R)
abbrev trD3 (t : Int × Int × Int) : PyData := .tuple [.int t.1, .int t.2.1, .int t.2.2]
end G
set_option linter.all false
set_option maxRecDepth 100000
namespace G
open PySem L2 TL
def stR (R : List (Int × Int)) (lo hi : Int) (i : Nat) : Int × Int := (max (pcAt R i).1 (lo - (pcAt R i).2.2), min (pcAt R i).2.1 (hi - (pcAt R i).2.2))
def strsR (R : List (Int × Int)) (lo hi : Int) (n : Nat) : List (Int × Int) := (List.range n).map (stR R lo hi)
def ne2 (p : Int × Int) : Bool := decide (p.1 ≤ p.2)
theorem strs_succ (R : List (Int × Int)) (lo hi : Int) (n : Nat) : strsR R lo hi (n + 1) = strsR R lo hi n ++ [stR R lo hi n] := by
  unfold strsR
  rw [List.range_succ, List.map_append]
  rfl
theorem pc_low {R : List (Int × Int)} {i : Nat} {p : Int × Int} (h : R[i]? = some p) : pcAt R i = (p.1, lastOf R i, p.2) := by
  unfold pcAt
  rw [List.getD_eq_getElem?_getD, h]
  rfl
structure DInv (R : List (Int × Int)) (lo hi : Int) (i : Nat) (fs : List (Int × Int)) : Prop where
  sp : Sp none fs
  m : ∀ n, ins fs n ↔ ins ((strsR R lo hi i).filter ne2) n
  b : ∀ x, lastHi none fs = some x → ∀ p, R[i]? = some p → x < p.1
  l : fs.length ≤ i
theorem DInv.nil {R : List (Int × Int)} {lo hi : Int} : DInv R lo hi 0 [] := ⟨trivial, fun n => Iff.rfl, (fun x h => by cases h), Nat.le_refl _⟩
theorem rising_next : ∀ {R : List (Int × Int)} {a : Option Int} {i : Nat} {p q : Int × Int}, Rising a R → R[i]? = some p → R[i + 1]? = some q → p.1 < q.1
  | [], _, _, _, _, _, h, _ => by simp at h
  | x :: r, a, 0, p, q, h, h1, h2 => by
    have : x = p := by simpa using h1
    subst this
    cases r with
    | nil => simp at h2
    | cons y r =>
      have : y = q := by simpa using h2
      subst this
      have h3 : stepBad (some x.1) y.1 = false := h.2.2.2.1
      have := of_decide_eq_false h3
      omega
  | x :: r, a, i + 1, p, q, h, h1, h2 => rising_next h.2.2 (by simpa using h1) (by simpa using h2)
end G
set_option linter.all false
set_option maxRecDepth 100000
namespace G
open PySem L2
section
variable {K : PySem.W.Frag} {w : Wd} {a b : Addr} {vs xs ys : List V} {Q : VK} {y : V}
theorem s_extO {l : Addr} (h : Own w l (.lst vs)) (hb : w.H b = some (.lst xs)) (z : vs.length + xs.length ≤ sizeLine) (k : ∀ v, Ext (One l) w v → Own v l (.lst (vs ++ xs)) → Q .non v.H) : rExtend (.ref l) [.ref b] w.H Q := ⟨l, b, vs, xs, rfl, rfl, h.h, hb, z, put (R := Q .non) h k⟩
end
end G
set_option linter.all false
set_option maxRecDepth 100000
namespace L2
open PySem PySem.Spec PyProof.Rows
end L2
namespace G
open PySem L2
end G
set_option linter.all false
set_option maxRecDepth 100000
namespace L2
open PySem PySem.Spec PyProof.Rows
end L2
namespace G
open PySem L2
end G
set_option linter.all false
set_option maxRecDepth 100000
namespace L2
open PySem PySem.Spec PyProof.Rows
section
variable {X : Cx} {f : Addr} {fd : FuncData} {C : Addr} {sp : L2.Sp} {k : Nat} {ps : List Str} {E : St → XK} {CX : CXT}
theorem run_makeS {pins : List (Addr × Obj)} {σ : St} {H : Hp} {s : Shared} {Q : VK} {us : List Value} {vs : List V} (M : Mk X.K C f) (F : FnOk X.prog X.w X.K X.mg X.base CX k f fd ps sp) (hr : Room (k + 1) X.A) (hb : Binds X.K fd ps [])
    (hx : PassesAt CX X σ (E σ)) (I : Inv X pins σ H s) (r : Vals vs us)
    (h : ∀ x dx, H x = none → H dx = none → dx ≠ x → sp (.ref x :: (vs ++ [])) (upd (upd H dx (.own x)) x (.ins C dx [])) (fun v H2 => v = .non ∧ Q (.ref x) H2) (E σ)) :
    wpAny (model X.prog X.w) X.A (call (.ref C) us) (EP X pins σ Q) X.xe s := by
  have hq := h (s.heap.objs.size + 1) s.heap.objs.size (I.hok.fresh (Nat.le_succ _)) (I.hok.fresh (Nat.le_refl _)) (Nat.ne_of_lt (Nat.lt_succ_self _))
  have I2 := Inv.made (C := C) I
  have r2 : Vals (V.ref (s.heap.objs.size + 1) :: (vs ++ [])) (Value.ref (s.heap.objs.size + 1) :: (us ++ [])) := .cons rfl (r.append .nil)
  have hl : (Value.ref (s.heap.objs.size + 1) :: us ++ []).length = ps.length := by
    have e := r2.length
    rw [F.len _ _ _ _ hq] at e
    exact e.symm
  refine wpAny_call (make_map (f := f) I.kIn M.makes M.init (beq_iff_eq.mp M.fn) (codeAny_mono (F.run _ X.stack _ _ ⟨Value.ref (s.heap.objs.size + 1) :: us, []⟩ (Value.ref (s.heap.objs.size + 1) :: (us ++ [])) _ _ (E σ) (hr.make C us [])
    (I2.env0.make C us []) (by have b := hb _ (Value.ref (s.heap.objs.size + 1) :: us) I2.kIn hl; rw [List.cons_append] at b; exact b) r2 hq) fun r s' hq' => ?_))
  cases r with
  | error e => exact hx pins _ _ e s' I2 hq'
  | ok fl =>
    cases fl with
    | ret u =>
      obtain ⟨v, H', I3, rv, ev, q3⟩ := I2.after hq'
      subst ev
      exact ⟨rv, ⟨V.ref (s.heap.objs.size + 1), H', I3, rfl, q3⟩⟩
    | next => exact False.elim hq'
    | brk => exact False.elim hq'
    | cont => exact False.elim hq'
end
end L2
namespace G
open PySem L2 PyProof.Rows
section
variable {X : Cx} {k j : Nat} {x : Str} {C : Addr} {sp : L2.Sp} {p pos : Pos} {e : Expr} {es : List Expr} {t : TA} {W : WX}
def tMakeX (C : Addr) (sp : L2.Sp) (W : WX) (t : TA) : TE := fun σ H Q => t σ H fun vs H1 => rMake C sp (fun cls d H' => W cls d σ H') Q vs H1
theorem pe_mkX (tk : Takes X W) (c : Mkr X.prog X.w X.K X.mg X.base (L2.CX X.prog X.w) C k sp) (hr : Room j X.A) (hk : k + 1 ≤ j) (hm : X.mg x = some (.ref C)) (ha : PA X (e :: es) t) (hg : Gl X x := by rfl)
    (hdb : (x == ("__debug__" : Str)) = false := by decide) (he : starEach (e :: es) X.env = (false, eval e X.env) :: starEach es X.env := by rfl) (hpl : (backTo pos (starEach es X.env)).any (·.1) = false := by rfl) :
    PE X (.Call (.Name x p) (e :: es) [] pos) (tMakeX C sp W t) := by
  obtain ⟨f, fd, ps, F, M, hb⟩ := c.ex
  refine ⟨fun pins s σ H Q I h => ?_⟩
  refine wpAny_Call_Name_kw (ld_glob I hg hm ?_ hdb)
  refine PySem.W.callWith_K (h₀ := X.base) I.ok.mod.kin M.kp (thn (ha.run pos pins s σ H _ I h) fun us s1 ⟨vs, H1, I1, r, q⟩ => ⟨I1.kIn, ?_⟩) he hpl
  exact run_makeS (E := fun σ cls d H => W cls d σ H) M F (hr.mono hk) hb (passAt tk σ) I1 r q
end
section
variable {H : Hp} {Q : VK} {σ : L2.St} {sp : L2.Sp} {W : WX} {t : TA} {C : Addr}
theorem s_makeX (k : t σ H fun vs H1 => rMake C sp (fun cls d H' => W cls d σ H') Q vs H1) : tMakeX C sp W t σ H Q := k
end
end G
set_option linter.all false
set_option maxRecDepth 100000
set_option maxHeartbeats 1000000
namespace G
open PySem L2 PyProof.Rows
/-- B.__init__ read off the class B: an own def -/
structure Bin (P : Program) (w : World) (K : PySem.W.Frag) (mg : Str → Option Value) (base : Heap) (CX : CXT) (C : Addr) (k : Nat) (sp : L2.Sp) : Prop where
  ex : ∃ (f : Addr) (fd : FuncData) (ps : List Str), FnOk P w K mg base CX k f fd ps sp ∧ PySem.W.readsIn K C (.type "type") = true ∧ PySem.W.specialIn K (.ref C) "__getattribute__" = some (some (.builtin "type.__getattribute__")) ∧
    PySem.W.findCls K (.ref C) (.type "type") "__init__" = some (.val (.ref f)) ∧ PySem.W.keepIn K (.ref f) = true ∧ Binds K fd ps []
section
variable {X : Cx} {k j : Nat} {C0 : Addr} {sp : L2.Sp} {p2 pos : Pos} {o e : Expr} {es : List Expr} {t : TA} {W : WX}
theorem pe_bin {pl : Sem Bool} (tk : Takes X W) (c : Bin X.prog X.w X.K X.mg X.base (L2.CX X.prog X.w) C0 k sp) (hr : Room j X.A) (hk : k ≤ j) (he0 : PE X o (tC (.ref C0))) (ha : PA X (e :: es) t)
    (hc : eval (.Call (.Attribute o "__init__" p2) (e :: es) [] pos) X.env = (do
      let ov ← eval o X.env
      standAt p2.atName
      let (f, first) ← holding [ov] (getMethod ov "__init__" pl)
      callWith pos f first (backTo pos (starEach (e :: es) X.env)) (backToKw pos (keywordEach [] X.env))) := by rfl)
    (he : starEach (e :: es) X.env = (false, eval e X.env) :: starEach es X.env := by rfl) (hpl : (backTo pos (starEach es X.env)).any (·.1) = false := by rfl) :
    PE X (.Call (.Attribute o "__init__" p2) (e :: es) [] pos) (tCallX sp W t) := by
  obtain ⟨f, fd, ps, F, rd, ga, fc, kp, hb⟩ := c.ex
  refine ⟨fun pins s σ H Q I h => ?_⟩
  refine PySem.W.methodCall_KW (pl := pl) (thn (he0.run pins s σ H (fun x H1 => x = .ref C0 ∧ tCallX sp W t σ H1 Q) I ⟨rfl, h⟩) fun u s1 ⟨x, H1, I1, rx, ex, q0⟩ => ?_) hc
  subst ex
  obtain rfl : u = Value.ref C0 := rx
  refine PySem.W.method_cls I1.kIn ga (PySem.W.cls_value I1.kIn rd fc (by rfl) ?_)
  refine PySem.W.callWith_K (first := []) (h₀ := X.base) I.ok.mod.kin kp (thn (ha.run pos pins _ σ H1 _ (I1.tok _) q0) fun us s2 ⟨vs, H2, I2, r, q2⟩ => ⟨I2.kIn, ?_⟩) he hpl
  have q3 : sp vs H2 Q (fun cls d H' => W cls d σ H') := by
    have q4 : sp (vs ++ []) H2 Q (fun cls d H' => W cls d σ H') := q2
    rw [List.append_nil] at q4
    exact q4
  exact run_fnS (E := fun σ cls d H => W cls d σ H) (us := us) (vs := vs) F (hr.mono hk) hb (passAt tk σ) I2 r q3
end
/-- a method by the receiver's class, which is one of some -/
def MthD {ι : Type} (P : Program) (w : World) (K : PySem.W.Frag) (mg : Str → Option Value) (base : Heap) (CX : CXT) (D : ι → Prop) (cf : ι → Addr) (k : Nat) (m : Str) (sp : ι → L2.Sp) : Prop := ∀ i, D i → Cls K (cf i) ∧ Mth P w K mg base CX (cf i) k m (sp i)
def rMethD {ι : Type} (D : ι → Prop) (cf : ι → Addr) (m : Str) (t : TA) (sp : ι → L2.Sp) (E : XK) (Q : VK) (σ : L2.St) (x : V) (H1 : Hp) : Prop := ∃ i a dx fs, D i ∧ x = .ref a ∧ H1 a = some (.ins (cf i) dx fs) ∧ fs.lookup m = none ∧ t σ H1 fun vs H2 => sp i (x :: vs) H2 Q E
def tMethD {ι : Type} (D : ι → Prop) (cf : ι → Addr) (m : Str) (sp : ι → L2.Sp) (W : WX) (to : TE) (t : TA) : TE := fun σ H Q => to σ H fun x H1 => rMethD D cf m t sp (fun cls d H' => W cls d σ H') Q σ x H1
section
variable {X : Cx} {k j : Nat} {m : Str} {ι : Type} {D : ι → Prop} {cf : ι → Addr} {sp : ι → L2.Sp} {pos apos : Pos} {o e : Expr} {es : List Expr} {to : TE} {t : TA} {W : WX}
theorem pe_mthD {pl : Sem Bool} (tk : Takes X W) (c : MthD X.prog X.w X.K X.mg X.base (L2.CX X.prog X.w) D cf k m sp) (hr : Room j X.A) (hk : k ≤ j) (he : PE X o to) (ha : PA X (e :: es) t)
    (hst : starEach (e :: es) X.env = (false, eval e X.env) :: starEach es X.env := by rfl) (hpl : (backTo pos (starEach es X.env)).any (·.1) = false := by rfl)
    (ht : eval (.Call (.Attribute o m apos) (e :: es) [] pos) X.env = (do
      let ov ← eval o X.env
      standAt apos.atName
      let (f, first) ← holding [ov] (getMethod ov m pl)
      callWith pos f first (backTo pos (starEach (e :: es) X.env)) (backToKw pos (keywordEach [] X.env))) := by rfl) :
    PE X (.Call (.Attribute o m apos) (e :: es) [] pos) (tMethD D cf m sp W to t) := by
  refine ⟨fun pins s σ H Q I h => ?_⟩
  refine PySem.W.methodCall_KW (pl := pl) (thn (he.run pins s σ H _ I h) fun u s1 ⟨x, H1, I1, rx, i, a, dx, fs, hD, ex, ea, l, q⟩ => ?_) ht
  subst ex
  obtain rfl : u = Value.ref a := rx
  obtain ⟨cl, c⟩ := c i hD
  obtain ⟨f, fd, ps, F, hm, hb⟩ := c.ex
  refine getmeth_ok I1 ea cl hm l ?_
  refine PySem.W.callWith_K (first := [.ref a]) (h₀ := X.base) I.ok.mod.kin hm.kp (thn (ha.run pos pins s1 σ H1 _ I1 q) fun us s2 ⟨vs, H2, I2, r, q2⟩ => ⟨I2.kIn, ?_⟩) hst hpl
  exact run_fnS (E := fun σ cls d H => W cls d σ H) (us := .ref a :: us) (vs := .ref a :: vs) F (hr.mono hk) hb (passAt tk σ) I2 (.cons rfl r) q2
theorem pe_mthD0 {pl : Sem Bool} (tk : Takes X W) (c : MthD X.prog X.w X.K X.mg X.base (L2.CX X.prog X.w) D cf k m sp) (hr : Room j X.A) (hk : k ≤ j) (he : PE X o to)
    (ht : eval (.Call (.Attribute o m apos) [] [] pos) X.env = (do
      let ov ← eval o X.env
      standAt apos.atName
      let (f, first) ← holding [ov] (getMethod ov m pl)
      callWith pos f first (backTo pos (starEach [] X.env)) (backToKw pos (keywordEach [] X.env))) := by rfl) :
    PE X (.Call (.Attribute o m apos) [] [] pos) (tMethD D cf m sp W to tNil) := by
  refine ⟨fun pins s σ H Q I h => ?_⟩
  refine PySem.W.methodCall_KW (pl := pl) (thn (he.run pins s σ H _ I h) fun u s1 ⟨x, H1, I1, rx, i, a, dx, fs, hD, ex, ea, l, q⟩ => ?_) ht
  subst ex
  obtain rfl : u = Value.ref a := rx
  obtain ⟨cl, c⟩ := c i hD
  obtain ⟨f, fd, ps, F, hm, hb⟩ := c.ex
  refine getmeth_ok I1 ea cl hm l ?_
  refine PySem.W.callWith_K0 (first := [.ref a]) I1.kIn hm.kp ?_
  exact run_fnS (E := fun σ cls d H => W cls d σ H) (us := [.ref a]) (vs := [.ref a]) F (hr.mono hk) hb (passAt tk σ) I1 (.cons rfl .nil) q
end
section
variable {K : PySem.W.Frag} {w : Wd} {H : Hp} {Q : VK} {σ : L2.St} {W : WX} {to : TE} {t : TA} {a C dx C2 : Addr} {m : Str} {fs : List (Str × V)} {E : XK} {b b1 b2 : Bool} {tp : Addr}
theorem s_methD {ι : Type} {D : ι → Prop} {cf : ι → Addr} {sp : ι → L2.Sp} (k : to σ H fun x H1 => rMethD D cf m t sp (fun cls d H' => W cls d σ H') Q σ x H1) : tMethD D cf m sp W to t σ H Q := k
theorem s_rmethD {ι : Type} {D : ι → Prop} {cf : ι → Addr} {sp : ι → L2.Sp} (i : ι) (hD : D i) (h : w.H a = some (.ins (cf i) dx fs)) (l : fs.lookup m = none) (k : t σ w.H fun vs H2 => sp i (.ref a :: vs) H2 Q E) : rMethD D cf m t sp E Q σ (.ref a) w.H := ⟨i, a, dx, fs, hD, rfl, h, l, k⟩
/-- isinstance of an instance of C, asked of the class C2 -/
theorem s_isiCC (h : w.H a = some (.ins C dx fs)) (c : Cls K C) (i : ClsI K C) (e : PySem.W.kitOne K (.ref C) (.ref C2) = some b) (k : Q (.bl b) w.H) : rIsi K [.ref a, .ref C2] w.H Q :=
  ⟨.ref a, .ref C2, .ref C, .ref C2, b, rfl, .own C2, .base (.ins h c i.ha i.hn i.ht i.hm), e, k⟩
end
end G
set_option linter.all false
set_option maxRecDepth 100000
namespace G
open PySem L2
end G
set_option linter.all false
set_option maxRecDepth 100000
namespace G
open PySem L2
/-- lists of one's own, what they hold -/
structure OL (w : Wd) (ps : List Addr) (ds : List (List PyData)) : Prop where
  l : ps.length = ds.length
  n : ps.Nodup
  o : ∀ (i : Nat) (p : Addr) (d : List PyData), ps[i]? = some p → ds[i]? = some d → ∃ vs, Own w p (.lst vs) ∧ RpA w.S vs d
theorem OL.mem {w : Wd} {ps : List Addr} {ds : List (List PyData)} (h : OL w ps ds) {p : Addr} (hp : p ∈ ps) : ∃ vs, ∃ d ∈ ds, Own w p (.lst vs) ∧ RpA w.S vs d := by
  obtain ⟨i, hi⟩ := List.getElem?_of_mem hp
  have hlt : i < ps.length := (List.getElem?_eq_some_iff.mp hi).1
  obtain ⟨d, hd⟩ : ∃ d, ds[i]? = some d := ⟨_, List.getElem?_eq_getElem (by rw [← h.l]; exact hlt)⟩
  obtain ⟨vs, o, r⟩ := h.o i p d hi hd
  exact ⟨vs, d, List.mem_of_getElem? hd, o, r⟩
theorem OL.snoc {w : Wd} {ps : List Addr} {ds : List (List PyData)} {p : Addr} {vs : List V} {d : List PyData} (h : OL w ps ds) (n : p ∉ ps) (o : Own w p (.lst vs)) (r : RpA w.S vs d) : OL w (ps ++ [p]) (ds ++ [d]) := by
  refine ⟨by simp [h.l], List.nodup_append.mpr ⟨h.n, by simp, fun a ha b hb e => n (by rw [List.mem_singleton] at hb; rw [← hb, ← e]; exact ha)⟩, fun i q x hq hx => ?_⟩
  by_cases c : i < ps.length
  · rw [List.getElem?_append_left c] at hq
    rw [List.getElem?_append_left (by rw [← h.l]; exact c)] at hx
    exact h.o i q x hq hx
  · rw [List.getElem?_append_right (by omega)] at hq
    rw [List.getElem?_append_right (by rw [← h.l]; omega)] at hx
    have h1 : i - ps.length = 0 := by
      cases hh : i - ps.length with
      | zero => rfl
      | succ k => rw [hh] at hq; simp at hq
    rw [h1] at hq
    rw [← h.l, h1] at hx
    cases hq
    cases hx
    exact ⟨vs, o, r⟩
/-- the cells of a list of lists -/
def cellsOf (r : Addr) (ps : List Addr) : Addr → Prop := fun b => b = r ∨ b ∈ ps
theorem OL.none {w : Wd} {r : Addr} {ps : List Addr} {xs : List V} {ds : List (List PyData)} (h : OL w ps ds) (o : Own w r (.lst xs)) : ∀ l, cellsOf r ps l → w.S l = none := fun l hl => by
  rcases hl with rfl | hl
  · exact o.s
  · obtain ⟨vs, d, _, o, _⟩ := h.mem hl
    exact o.s
end G
set_option linter.all false
set_option maxRecDepth 100000
namespace L2
open PySem PySem.Spec PyProof.Rows
end L2
namespace G
open PySem L2
end G
set_option linter.all false
set_option maxRecDepth 100000
namespace L2
open PySem PySem.Spec PyProof.Rows
end L2
namespace L2
open PySem PySem.Spec PyProof.Rows
end L2
namespace L2
open PySem PySem.Spec PyProof.Rows
end L2
namespace G
open PySem L2
end G
set_option linter.all false
set_option maxRecDepth 100000
namespace SU
open PySem PySem.Spec PyProof.Rows L2
theorem kv_keys : ∀ {kvs : List (Key × V)} {xs : List (Key × Value)}, KV kvs xs → kvs.map (·.1) = xs.map (·.1)
  | [], _, .nil => rfl
  | _ :: _, _, .cons h t => by rw [List.map_cons, List.map_cons, kv_keys t, h.1]
end SU
namespace G
open PySem L2 TL SU
end G
set_option linter.all false
set_option maxRecDepth 100000
namespace SU
open PySem PySem.Spec PyProof.Rows L2
/-- dict(d) -/
def rDictC : List V → Hp → VK → Prop := fun xs H Q => ∃ (a : Addr) (kvs : List (Key × V)), xs = [V.ref a] ∧ Rd H a (.dK kvs) ∧ ∀ p, H p = none → Q (.ref p) (upd H p (.dK kvs))
/-- list(d): its keys -/
def rListDK : List V → Hp → VK → Prop := fun xs H Q => ∃ (a : Addr) (kvs : List (Key × V)), xs = [V.ref a] ∧ Rd H a (.dK kvs) ∧ ∀ p, H p = none → Q (.ref p) (upd H p (.lst (kvs.map fun kv => kV kv.1)))
section
variable {X : Cx}
theorem cr_dictC : CallR X (.type "dict") rDictC := by
  intro pins s σ H xs us Q I r h
  obtain ⟨a, kvs, rfl, ha, q⟩ := h
  rw [Vals.ref1 r]
  exact d_copyOf I ha fun p s' hp I' => ⟨.ref p, _, I', rfl, q p hp⟩
theorem cr_listDK (hc : X.calm = true) : CallR X (.type "list") rListDK := by
  intro pins s σ H xs us Q I r h
  obtain ⟨a, kvs, rfl, ha, q⟩ := h
  rw [Vals.ref1 r]
  obtain ⟨hz, lo, ys, rel, hD⟩ := dk_rd I.hok ha
  obtain ⟨ep, hat⟩ := hD.dictAt
  have hl : kvs.length = ys.length := rel.length
  refine PySem.W.kdl_call (PySem.W.kdl_dict (knd := mixKind X.prog X.w) (kvs := ys) (ep := ep) lo) (I.ok.hd hc) hat (by omega) fun h' tk acc c hkeep hS hacc => ?_
  have hv : Vals (kvs.map fun kv => kV kv.1) acc.toList := by
    have key : ∀ (vs : List V) (us : List Value), vs.length = us.length → (∀ (i : Nat) (v : V) (u : Value), vs[i]? = some v → us[i]? = some u → RelV v u) → Vals vs us := by
      intro vs
      induction vs with
      | nil =>
        intro us hl _
        cases us with
        | nil => exact .nil
        | cons _ _ => simp at hl
      | cons v vs ih =>
        intro us hl hi
        cases us with
        | nil => simp at hl
        | cons u us => exact .cons (hi 0 v u rfl rfl) (ih us (by simpa using hl) fun i v u h1 h2 => hi (i + 1) v u h1 h2)
    have h9 : acc.toList.length = ys.length := by rw [Array.length_toList]; exact hacc.1
    refine key _ _ (by rw [List.length_map, h9]; exact hl) fun i v u h1 h2 => ?_
    obtain ⟨k, x, hx, hkv⟩ := hacc.2 i u (by rw [← Array.getElem?_toList]; exact h2)
    have h3 : (kvs.map (·.1))[i]? = some k := by rw [kv_keys rel, List.getElem?_map, hx]; rfl
    rw [List.getElem?_map] at h1 h3
    obtain ⟨kv, e1, rfl⟩ := Option.map_eq_some_iff.mp h1
    rw [e1] at h3
    cases h3
    exact relV_key (show keyIs kv.1 u = true from hkv)
  exact ⟨.ref s.heap.objs.size, upd H s.heap.objs.size (.lst (kvs.map fun kv => kV kv.1)), I.laid (t' := tk) hkeep (Nat.le_refl _) ⟨by rw [List.length_map]; exact hz, acc.toList, c, hv, by simpa using hS⟩, rfl, q _ (I.hok.fresh (Nat.le_refl _))⟩
end
end SU
namespace G
open PySem L2 TL SU
theorem kDictC {X : Cx} : CallR X (.type "dict") rDictC := cr_dictC
theorem kListDK {X : Cx} (hc : X.calm = true) : CallR X (.type "list") rListDK := cr_listDK hc
section
variable {K : PySem.W.Frag} {w : Wd} {a d : Addr} {Q : VK} {kvs : List (Key × V)} {od : Obj}
theorem s_dictC (o : Own w a (.dK kvs)) (k : ∀ p v, Ext Non w v → w.H p = none → Own v p (.dK kvs) → Q (.ref p) v.H) : rDictC [.ref a] w.H Q := ⟨a, kvs, rfl, .inl o.h, newO (Q := Q) fun p v e n s => k p v e n s⟩
theorem s_listDK (o : Own w a (.dK kvs)) (k : ∀ p v, Ext Non w v → w.H p = none → v.S p = some (.lst (kvs.map fun kv => kV kv.1)) → Q (.ref p) v.H) : rListDK [.ref a] w.H Q := ⟨a, kvs, rfl, .inl o.h, newS (Q := Q) fun p v e n s => k p v e n s⟩
theorem dgetR (h : w.H a = some (.dK kvs) ∨ ∃ o, w.H a = some (.frz o (.dK kvs))) (k : Key) : DGet w.H a (kV k) (valV kvs k) := .inl ⟨kvs, k, h, rfl, rfl⟩
end
end G
set_option linter.all false
set_option maxRecDepth 100000
namespace G
open PySem L2 TL
/-- a good name: one to eight small letters -/
def NmOk0 (z : Str) : Prop := (tl z).length ≤ 8 ∧ tl z ≠ [] ∧ ∀ c ∈ tl z, 97 ≤ c ∧ c ≤ 122
inductive Kd | any | within | att | between | read | joint | sifted
deriving DecidableEq
/-- the classes' addresses -/
structure EC where
  any : Addr
  within : Addr
  att : Addr
  between : Addr
  read : Addr
  joint : Addr
  sifted : Addr
def EC.of (c : EC) : Kd → Addr
  | .any => c.any
  | .within => c.within
  | .att => c.att
  | .between => c.between
  | .read => c.read
  | .joint => c.joint
  | .sifted => c.sifted
/-- class a lies under class b -/
def subK : Kd → Kd → Bool
  | _, .any => true
  | .att, .within => true
  | .read, .between => true
  | a, b => decide (a = b)
/-- what an entry's class must have -/
structure Ecl (K : PySem.W.Frag) (C : Addr) : Prop where
  cl : Cls K C
  ci : ClsI K C
  name : NoAttr K C "name"
  place : NoAttr K C "place"
  low : NoAttr K C "low"
  high : NoAttr K C "high"
  known : NoAttr K C "known"
  part : NoAttr K C "part"
  keeps : NoAttr K C "keeps"
def simple : Kd → Prop
  | .joint | .sifted => False
  | _ => True
structure EK (K : PySem.W.Frag) (c : EC) : Prop where
  cl : ∀ k, simple k → Ecl K (c.of k)
  kit : ∀ a b, simple a → simple b → PySem.W.kitOne K (.ref (c.of a)) (.ref (c.of b)) = some (subK a b)
/-- a simple entry -/
structure Sim where
  k : Kd
  n : Str
  p : Str
  lo : Int
  hi : Int
def fldS (e : Sim) : List (Str × V) := match e.k with
  | .any => [("name", .str e.n)]
  | .within | .att => [("name", .str e.n), ("low", .int e.lo), ("high", .int e.hi)]
  | .between | .read => [("name", .str e.n), ("place", .str e.p), ("low", .int e.lo), ("high", .int e.hi)]
  | .joint | .sifted => []
/-- a simple entry stands at v for good -/
def SimS (K : PySem.W.Frag) (c : EC) (S : Hp) (v : V) (e : Sim) : Prop := EK K c ∧ ∃ x dx, v = .ref x ∧ S x = some (.ins (c.of e.k) dx (fldS e))
theorem SimS.go {K : PySem.W.Frag} {c : EC} {w u : Wd} {v : V} {e : Sim} {m : Addr → Prop} (x : Ext m w u) (h : SimS K c w.S v e) : SimS K c u.S v e := by
  obtain ⟨k, a, dx, rfl, h⟩ := h
  exact ⟨k, a, dx, rfl, st_go x h⟩
def placed : Kd → Prop
  | .between | .read => True
  | _ => False
instance (k : Kd) : Decidable (placed k) := by cases k <;> first | exact isTrue trivial | exact isFalse id
/-- within its bounds -/
def Sim.ok (e : Sim) : Prop := simple e.k ∧ (placed e.k → -10000000000 ≤ e.lo ∧ e.lo ≤ 10000000000 ∧ -10000000000 ≤ e.hi ∧ e.hi ≤ 10000000000) ∧ (e.k = .att ∨ e.k = .read → e.lo = e.hi)
abbrev Tabs := List (Str × List (Int × Int))
def getT {α : Type} (T : List (Str × α)) (z : Str) : Option α := (T.find? fun p => decide (p.1 = z)).map (·.2)
/-- a dict by texts, its values told by P -/
inductive DicR {α : Type} (P : V → α → Prop) : List (Key × V) → List (Str × α) → Prop
  | nil : DicR P [] []
  | cons {v : V} {R : α} {z : Str} {kvs : List (Key × V)} {T : List (Str × α)} : P v R → DicR P kvs T → DicR P ((.inr z, v) :: kvs) ((z, R) :: T)
section
variable {α : Type} {P P' : V → α → Prop}
theorem DicR.mono (h : ∀ v R, P v R → P' v R) : ∀ {kvs : List (Key × V)} {T : List (Str × α)}, DicR P kvs T → DicR P' kvs T
  | _, _, .nil => .nil
  | _, _, .cons a t => .cons (h _ _ a) (t.mono h)
theorem DicR.miss {z : Str} : ∀ {kvs : List (Key × V)} {T : List (Str × α)}, DicR P kvs T → getT T z = none → valV kvs (.inr z) = none
  | _, _, .nil, _ => rfl
  | _, _, .cons (z := y) (T := T) h t, g => by
    by_cases c : y = z
    · subst c
      simp [getT] at g
    · rw [valV_neg (fun e => c (Sum.inr.inj e))]
      refine t.miss ?_
      unfold getT at g ⊢
      rwa [List.find?_cons_of_neg (by simp [c])] at g
theorem DicR.hit {z : Str} {R : α} : ∀ {kvs : List (Key × V)} {T : List (Str × α)}, DicR P kvs T → getT T z = some R → ∃ v, valV kvs (.inr z) = some v ∧ P v R
  | _, _, .nil, g => by cases g
  | _, _, .cons (v := v) (z := y) (T := T) h t, g => by
    by_cases c : y = z
    · subst c
      unfold getT at g
      rw [List.find?_cons_of_pos (by simp)] at g
      cases g
      exact ⟨v, valS_pos, h⟩
    · rw [valV_neg (fun e => c (Sum.inr.inj e))]
      refine t.hit ?_
      unfold getT at g ⊢
      rwa [List.find?_cons_of_neg (by simp [c])] at g
theorem DicR.len : ∀ {kvs : List (Key × V)} {T : List (Str × α)}, DicR P kvs T → kvs.length = T.length
  | _, _, .nil => rfl
  | _, _, .cons _ t => by rw [List.length_cons, List.length_cons, t.len]
theorem DicR.keys : ∀ {kvs : List (Key × V)} {T : List (Str × α)}, DicR P kvs T → kvs.map (·.1) = (T.map (·.1)).map Sum.inr
  | _, _, .nil => rfl
  | _, _, .cons _ t => by rw [List.map_cons, List.map_cons, List.map_cons, t.keys]
theorem DicR.snoc {v : V} {R : α} {z : Str} (p : P v R) : ∀ {kvs : List (Key × V)} {T : List (Str × α)}, DicR P kvs T → DicR P (kvs ++ [(.inr z, v)]) (T ++ [(z, R)])
  | _, _, .nil => .cons p .nil
  | _, _, .cons a t => .cons a (t.snoc p)
/-- a new key -/
theorem DicR.putN {v : V} {R : α} {z : Str} {kvs : List (Key × V)} {T : List (Str × α)} (h : DicR P kvs T) (g : getT T z = none) (p : P v R) : DicR P (putK kvs (.inr z) v) (T ++ [(z, R)]) := by
  rw [putK_new _ (h.miss g)]
  exact h.snoc p
/-- a key goes -/
def dropT (T : List (Str × α)) (z : Str) : List (Str × α) := T.filter fun p => !decide (p.1 = z)
theorem DicR.drop {z : Str} : ∀ {kvs : List (Key × V)} {T : List (Str × α)}, DicR P kvs T → DicR P (dropK kvs (.inr z)) (dropT T z)
  | _, _, .nil => .nil
  | _, _, .cons (v := v) (z := y) (R := R) (kvs := kvs) (T := T) a t => by
    have ih := t.drop (z := z)
    by_cases c : y = z
    · have e1 : dropK ((.inr y, v) :: kvs) (.inr z) = dropK kvs (.inr z) := by unfold dropK; rw [List.filter_cons_of_neg (by simp [c])]
      have e2 : dropT ((y, R) :: T) z = dropT T z := by unfold dropT; rw [List.filter_cons_of_neg (by simp [c])]
      rw [e1, e2]
      exact ih
    · have e1 : dropK ((.inr y, v) :: kvs) (.inr z) = (.inr y, v) :: dropK kvs (.inr z) := by unfold dropK; rw [List.filter_cons_of_pos (by simp [c])]
      have e2 : dropT ((y, R) :: T) z = (y, R) :: dropT T z := by unfold dropT; rw [List.filter_cons_of_pos (by simp [c])]
      rw [e1, e2]
      exact .cons a ih
theorem getT_none {T : List (Str × α)} {z : Str} : getT T z = none ↔ z ∉ T.map (·.1) := by
  unfold getT
  rw [Option.map_eq_none_iff, List.find?_eq_none]
  simp only [decide_eq_true_eq, List.mem_map, not_exists, not_and]
theorem getT_mem {T : List (Str × α)} {z : Str} (h : z ∈ T.map (·.1)) : ∃ R, getT T z = some R := by
  cases e : getT T z with
  | some R => exact ⟨R, rfl⟩
  | none => exact absurd h (getT_none.mp e)
theorem getT_sub {T : List (Str × α)} {z : Str} {R : α} (h : getT T z = some R) : (z, R) ∈ T := by
  unfold getT at h
  obtain ⟨p, hp, rfl⟩ := Option.map_eq_some_iff.mp h
  have h1 := List.find?_some hp
  have h2 := List.mem_of_find?_eq_some hp
  have : p.1 = z := by simpa using h1
  rw [← this]
  exact h2
end
def TbA (C : Addr) (S : Hp) : List (Key × V) → Tabs → Prop := DicR fun v R => TbS C S v R ∧ TabOk R
theorem TbA.go {C : Addr} {w u : Wd} {m : Addr → Prop} (x : Ext m w u) {kvs : List (Key × V)} {T : Tabs} (h : TbA C w.S kvs T) : TbA C u.S kvs T := DicR.mono (fun _ _ z => ⟨TbS.go x z.1, z.2⟩) h
def TbL (S : Hp) : List (Key × V) → Tabs → Prop := DicR fun v R => Rp S v (spD R) ∧ TabOk R
theorem TbL.go {w u : Wd} {m : Addr → Prop} (x : Ext m w u) {kvs : List (Key × V)} {T : Tabs} (h : TbL w.S kvs T) : TbL u.S kvs T := DicR.mono (fun _ _ z => ⟨Rp.go x z.1, z.2⟩) h
/-- a dict of tables' rows stands at b -/
def TabsL (w : Wd) (b : V) (T : Tabs) : Prop := ∃ t kvs, b = .ref t ∧ Rd w t (.dK kvs) ∧ TbL w.S kvs T
/-- a dict of tables stands at b -/
def TabsD (C : Addr) (w : Wd) (b : V) (T : Tabs) : Prop := ∃ t kvs, b = .ref t ∧ Rd w t (.dK kvs) ∧ TbA C w.S kvs T
/-- the moments of a simple entry -/
def inE (e : Sim) (T : Tabs) (n : Int) : Prop := match e.k with
  | .any => 0 ≤ n ∧ n ≤ 1000000000
  | .within | .att => e.lo ≤ n ∧ n ≤ e.hi
  | .between | .read => ∃ R, getT T e.p = some R ∧ ins ((strsR R e.lo e.hi R.length).filter ne2) n
  | .joint | .sifted => False
def wordK : Kd → Str
  | .any => Str.ofString "any"
  | .within => Str.ofString "within"
  | .att => Str.ofString "at"
  | .between => Str.ofString "between"
  | .read => Str.ofString "read"
  | .joint => Str.ofString "joint"
  | .sifted => Str.ofString "sifted"
theorem word_pl : ∀ k, inV (.str (wordK k)) [.str (Str.ofString "between"), .str (Str.ofString "read")] = decide (placed k) := by intro k; cases k <;> decide +kernel
theorem word_eq : ∀ a b, decide (wordK a = wordK b) = decide (a = b) := by intro a b; cases a <;> cases b <;> decide +kernel
/-- what a simple entry is drawn as -/
def specD (e : Sim) : PyData := .tuple [.str (wordK e.k), .str e.n, .str e.p, .int e.lo, .int e.hi]
structure SpecOk (e : Sim) (T : Tabs) : Prop where
  s : simple e.k
  n : NmOk0 e.n
  pl : placed e.k → NmOk0 e.p ∧ (∃ R, getT T e.p = some R) ∧ -10000000000 ≤ e.lo ∧ e.lo ≤ 10000000000 ∧ -10000000000 ≤ e.hi ∧ e.hi ≤ 10000000000
  np : ¬ placed e.k → e.p = Str.ofString "" ∧ 0 ≤ e.lo ∧ e.lo ≤ 1000000000 ∧ 0 ≤ e.hi ∧ e.hi ≤ 1000000000
  an : e.k = .any → e.lo = 0 ∧ e.hi = 1000000000
  at' : e.k = .att ∨ e.k = .read → e.lo = e.hi
theorem SpecOk.ok {e : Sim} {T : Tabs} (h : SpecOk e T) : e.ok := ⟨h.s, fun z => (h.pl z).2.2, h.at'⟩
end G
namespace G
open PySem L2 PyProof.Rows
theorem fnok_weak {P : Program} {w : World} {K : PySem.W.Frag} {mg : Str → Option Value} {base : Heap} {CX : CXT} {k j : Nat} {f : Addr} {fd : FuncData} {ps : List Str} {sp sp' : L2.Sp} (F : FnOk P w K mg base CX k f fd ps sp) (hk : k ≤ j) (h : ∀ vs H Q E, sp' vs H Q E → sp vs H Q E) : FnOk P w K mg base CX j f fd ps sp' := (F.mono hk).imp h
theorem pr1_mono {P P' : Wd → V → VK → XK → Prop} (h : ∀ w a Q E, P' w a Q E → P w a Q E) : ∀ vs H Q E, pr1 P' vs H Q E → pr1 P vs H Q E := fun _ _ _ _ ⟨w, a, x, y, z⟩ => ⟨w, a, x, y, h _ _ _ _ z⟩
theorem pr2_mono {P P' : Wd → V → V → VK → XK → Prop} (h : ∀ w a b Q E, P' w a b Q E → P w a b Q E) : ∀ vs H Q E, pr2 P' vs H Q E → pr2 P vs H Q E := fun _ _ _ _ ⟨w, a, b, x, y, z⟩ => ⟨w, a, b, x, y, h _ _ _ _ _ z⟩
end G
namespace G
open PySem L2
def pr5 (P : Wd → V → V → V → V → V → VK → XK → Prop) : L2.Sp := fun vs H Q E => ∃ (w : Wd) (a b c d e : V), w.H = H ∧ vs = [a, b, c, d, e] ∧ P w a b c d e Q E
section
variable {vs : List V} {H : Hp} {Q : VK} {E : XK} {w : Wd} {a b c d e : V}
theorem len5 {P} (h : pr5 P vs H Q E) : vs.length = 5 := by obtain ⟨_, _, _, _, _, _, _, rfl, _⟩ := h; rfl
theorem s_pr5 {P} (h : P w a b c d e Q E) : pr5 P ([a, b, c, d, e] ++ []) w.H Q E := ⟨w, a, b, c, d, e, rfl, rfl, h⟩
theorem s_pm4 {P} (h : P w a b c d Q E) : pr4 P (a :: ([b, c, d] ++ [])) w.H Q E := ⟨w, a, b, c, d, rfl, rfl, h⟩
theorem s_pm5 {P} (h : P w a b c d e Q E) : pr5 P (a :: ([b, c, d, e] ++ [])) w.H Q E := ⟨w, a, b, c, d, e, rfl, rfl, h⟩
theorem s_pq1 {P} (h : P w a Q E) : pr1 P [a] w.H Q E := ⟨w, a, rfl, rfl, h⟩
theorem s_pq2 {P} (h : P w a b Q E) : pr2 P [a, b] w.H Q E := ⟨w, a, b, rfl, rfl, h⟩
end
/-- a raise of N(b), from w, m touched -/
def Rz (m : Addr → Prop) (w : Wd) (N : Addr) (b : V) (E : XK) : Prop := ∀ v e, Ext m w v → w.H e = none → Own v e (.xd [(Str.ofString "found", b)]) → E (.ref N) (some e) v.H
theorem ins_lohi {lo hi n : Int} : ins ([(lo, hi)].filter ne2) n ↔ lo ≤ n ∧ n ≤ hi := by
  unfold ne2 ins
  by_cases c : lo ≤ hi
  · simp [c]
  · simp [c]
    omega
end G
set_option linter.all false
set_option maxRecDepth 100000
namespace G
open PySem L2 TL
abbrev NmOk := NmOk0
theorem NmOk0.tx {z : Str} (h : NmOk z) : Tx 8 z := ⟨by have := len_tl z; have := h.1; omega, fun c hc => by have := h.2.2 c hc; omega⟩
def sgl (c : Nat) : Str := ⟨#[c]⟩
theorem join_sgl : ∀ cs : List Nat, tl (Str.join (Str.ofString "") (cs.map sgl)) = cs
  | [] => rfl
  | [c] => rfl
  | c :: d :: r => by
    have ih := join_sgl (d :: r)
    show tl (sgl c ++ Str.ofString "" ++ Str.join (Str.ofString "") ((d :: r).map sgl)) = _
    rw [tl_append, tl_append, ih]
    rfl
theorem tx_sgl {cs : List Nat} (h : ∀ c ∈ cs, 97 ≤ c ∧ c ≤ 122) : ∀ z ∈ cs.map sgl, Tx 1 z := fun z hz => by
  obtain ⟨c, hc, rfl⟩ := List.mem_map.mp hz
  exact Tx.one (by have := h c hc; omega)
theorem cut_mapF {α : Type} {f : α → V} {xs : List α} {a b : Int} (ha : 0 ≤ a) : ∃ k, cutV (xs.map f) (some a) (some b) = ((xs.drop a.toNat).take k).map f := by
  unfold cutV
  rw [List.length_map]
  refine ⟨HT.sIx xs.length xs.length (some b) - HT.sIx xs.length 0 (some a), ?_⟩
  · rw [List.map_take, List.map_drop]
    have e : HT.sIx xs.length 0 (some a) = min a.toNat xs.length := by
      obtain ⟨n, rfl⟩ := Int.eq_ofNat_of_zero_le ha
      exact HT.sIx_nat _ _ _
    rw [e]
    by_cases c : a.toNat ≤ xs.length
    · rw [Nat.min_eq_left c]
    · rw [Nat.min_eq_right (by omega), List.drop_of_length_le (by rw [List.length_map]; omega), List.drop_of_length_le (by rw [List.length_map]; omega)]
theorem cut_mapT {α : Type} {f : α → V} {xs : List α} {b : Int} (hb : 0 ≤ b) : cutV (xs.map f) none (some b) = (xs.take b.toNat).map f := by rw [cut_to hb, List.map_take]
theorem letters_tl : tl (Str.ofString "abcdefghijklmnopqrstuvwxyz") = (List.range 26).map (97 + ·) := by decide +kernel
theorem letter_at {j c : Nat} (h : (tl (Str.ofString "abcdefghijklmnopqrstuvwxyz"))[j]? = some c) : c = 97 + j ∧ j < 26 := by
  rw [letters_tl, List.getElem?_map] at h
  obtain ⟨k, hk, rfl⟩ := Option.map_eq_some_iff.mp h
  have hj : j < 26 := by
    by_cases c : j < 26
    · exact c
    · rw [List.getElem?_eq_none (by rw [List.length_range]; omega)] at hk; cases hk
  rw [List.getElem?_range hj] at hk
  cases hk
  exact ⟨rfl, hj⟩
/-- names that differ in one sign, the heads alike -/
def NmInv (P : List Nat) (f s : Nat) (zs : List Str) : Prop := ∀ i z, zs[i]? = some z → NmOk z ∧ ∃ post, tl z = P ++ (97 + (f + s * i) % 26) :: post
theorem NmInv.nil {P : List Nat} {f s : Nat} : NmInv P f s [] := fun i z h => by simp at h
theorem NmInv.snoc {P : List Nat} {f s : Nat} {zs : List Str} {z : Str} (h : NmInv P f s zs) (ok : NmOk z) (e : ∃ post, tl z = P ++ (97 + (f + s * zs.length) % 26) :: post) : NmInv P f s (zs ++ [z]) := fun i y hy => by
  by_cases c : i < zs.length
  · rw [List.getElem?_append_left c] at hy
    exact h i y hy
  · rw [List.getElem?_append_right (by omega)] at hy
    have hi : i - zs.length = 0 := by
      cases hh : i - zs.length with
      | zero => rfl
      | succ n => rw [hh] at hy; simp at hy
    rw [hi] at hy
    cases hy
    rw [show i = zs.length by omega]
    exact ⟨ok, e⟩
theorem step_inj {f s i j : Nat} (hs : s ∈ [1, 3, 5, 7, 9, 11, 15, 17, 19, 21, 23, 25]) (hi : i < 26) (hj : j < 26) (h : (f + s * i) % 26 = (f + s * j) % 26) : i = j := by
  simp only [List.mem_cons, List.not_mem_nil, or_false] at hs
  rcases hs with rfl | rfl | rfl | rfl | rfl | rfl | rfl | rfl | rfl | rfl | rfl | rfl <;> omega
theorem NmInv.nodup {P : List Nat} {f s : Nat} {zs : List Str} (h : NmInv P f s zs) (hs : s ∈ [1, 3, 5, 7, 9, 11, 15, 17, 19, 21, 23, 25]) (hl : zs.length ≤ 26) : zs.Nodup := by
  refine List.pairwise_iff_getElem.mpr fun i j hi hj hij e => ?_
  have h1 : zs[i]? = some zs[i] := List.getElem?_eq_getElem hi
  have h2 : zs[j]? = some zs[j] := List.getElem?_eq_getElem hj
  obtain ⟨_, p1, q1⟩ := h _ _ h1
  obtain ⟨_, p2, q2⟩ := h _ _ h2
  rw [e, q2] at q1
  have h3 := List.append_cancel_left q1
  have h4 := (List.cons.inj h3).1
  have := step_inj hs (by omega) (by omega) (show (f + s * i) % 26 = (f + s * j) % 26 by omega)
  omega
/-- what the drawn names are -/
def NmsOk (zs : List Str) (m : Int) : Prop := zs.length = m.toNat ∧ (∀ z ∈ zs, NmOk z) ∧ (m ≤ 26 → zs.Nodup)
theorem join_sz {cs : List Nat} (hc : ∀ c ∈ cs, 97 ≤ c ∧ c ≤ 122) (hl : cs.length ≤ 1000) : ((cs.map sgl).map (·.length)).sum + (cs.map sgl).length * (Str.ofString "").length ≤ 16777216 := by
  have h1 := tx_sum (tx_sgl hc)
  have h2 : (Str.ofString "").length = 0 := (by decide +kernel)
  rw [h2]
  rw [List.length_map] at h1
  omega
end G
namespace G
open PySem L2
section
variable {w : Wd}
/-- a comprehension over any walk, its items told by rows, some left out -/
theorem lc_any {α : Type} {rows : List α} {J : It} {n : Nat} {G : Wd → Prop} {Y : Nat → Wd → V → Wd → Prop} (k : WWalk J n G Y) {g : TG} {tt : TT} {te : TE} {js : List Nat} {σ : L2.St} {D : Addr} {Qd : Hp → Prop} (f : α → Bool) (gd : α → PyData) (hD : w.H D = none)
    (hlen : rows.length = n) (hz : n < sizeLine) (hY : ∀ i u x v, i < n → Y i u x v → Ext Non u v) (hG : ∀ u, Ext (One D) w u → G u)
    (hs : ∀ i x q u v, i < n → Y i u x v → rows[i]? = some q → Ext (One D) w u → Ext (One D) w v → ∀ (R : VK) (Z : Hp → Prop), (∀ t y, Ext Non v t → f q = true → Rp t.S y (gd q) → R y t.H) → (∀ t, Ext Non v t → f q = false → Z t.H) →
      g x (wipe σ js) v.H fun σ2 H2 => wipe σ2 js = wipe σ js ∧ tt σ2 H2 fun b H3 => if b = true then te σ2 H3 R else Z H3)
    (hd : ∀ u acc, Ext Non w u → w.H D = none → Own u D (.lst acc) → RpA u.S acc ((rows.filter f).map gd) → Qd u.H) :
    ∃ W : Nat → Nat → Hp → Prop, (∃ m, W 0 m (upd w.H D (.lst []))) ∧ ∀ i m H, W i m H →
      (J.stop i H ∧ Qd H) ∨ (J.go i H ∧ ∃ Nx : Hp → Prop, (∀ H', Nx H' → ∃ m', m' < m ∧ W (i + 1) m' H') ∧ ∀ x H', J.yld i H x H' → g x (wipe σ js) H' fun σ2 H2 => wipe σ2 js = wipe σ js ∧ tt σ2 H2 fun b H3 =>
        if b = true then te σ2 H3 fun y H4 => ∃ acc, H4 D = some (.lst acc) ∧ acc.length < sizeLine ∧ Nx (upd H4 D (.lst (acc ++ [y]))) else Nx H3) := by
  refine lcW k (fun i u acc => Ext (One D) w u ∧ RpA u.S acc (((rows.take i).filter f).map gd)) hD (fun u e o => ⟨e.more fun _ z => z.elim, .nil⟩) (fun i u acc _ p => hG u p.1) ?_ ?_
  · rintro i x u0 u acc hi o ⟨e0, ha0⟩ hy
    have ey := hY _ _ _ _ hi hy
    have e := e0.step ey fun _ z => z.elim
    have ha2 := ha0.go ey
    have o := o.ext ey fun z => z
    have hi' : i < rows.length := by omega
    have ht : rows.take (i + 1) = rows.take i ++ [rows[i]] := by rw [List.take_add_one, List.getElem?_eq_getElem hi']; rfl
    have hal : acc.length < sizeLine := by
      have h1 := ha2.length
      rw [List.length_map] at h1
      have h2 := List.length_filter_le f (rows.take i)
      rw [List.length_take] at h2
      omega
    refine hs i x rows[i] u0 u hi hy (List.getElem?_eq_getElem hi') e0 e _ _ (fun t y et hf hy => ?_) (fun t et hf => ?_)
    · refine lc_put (o.ext et fun z => z) hal fun z ez oz => ⟨(e.step et fun _ z => z.elim).step ez fun l hl => .inr hl, ?_⟩
      rw [ht, List.filter_append, List.filter_cons_of_pos hf, List.filter_nil, List.map_append]
      exact RpA.append ((ha2.go et).go ez) (.one (hy.go ez))
    · refine lcN_i (o.ext et fun z => z) ⟨e.step et fun _ z => z.elim, ?_⟩
      rw [ht, List.filter_append, List.filter_cons_of_neg (by rw [hf]; decide), List.filter_nil, List.append_nil]
      exact ha2.go et
  · rintro u acc ⟨e, ha2⟩ o
    rw [List.take_of_length_le (by omega)] at ha2
    exact hd u acc (e.more fun l hl => .inl (by rw [show l = D from hl]; exact hD)) hD o ha2
end
end G
set_option linter.all false
set_option maxRecDepth 100000
set_option maxHeartbeats 1000000
namespace L2
open PySem PySem.Spec PyProof.Rows
end L2
namespace G
open PySem L2 PyProof.Rows
end G
set_option linter.all false
set_option maxRecDepth 100000
namespace G
open PySem PySem.Spec L2 TL PyProof.Rows
def leS (a b : Str) : Prop := ¬ b.cps.toList < a.cps.toList
theorem rising_pw : ∀ (l : List Str) (p : Str), risingS p l = true → (p :: l).Pairwise leS
  | [], p, _ => by simp
  | x :: r, p, h => by
    have h' : (!ltCps x.cps.toList p.cps.toList && risingS x r) = true := h
    rw [Bool.and_eq_true, ltCps_eq] at h'
    have hx : leS p x := by
      have := h'.1
      simp only [Bool.not_eq_true', decide_eq_false_iff_not] at this
      exact this
    have ih := rising_pw r x h'.2
    refine List.pairwise_cons.mpr ⟨fun y hy => ?_, ih⟩
    rcases List.mem_cons.mp hy with rfl | hy
    · exact hx
    · have hxy : leS x y := (List.pairwise_cons.mp ih).1 y hy
      have h1 : p.cps.toList ≤ x.cps.toList := hx
      have h2 : x.cps.toList ≤ y.cps.toList := hxy
      exact List.le_trans h1 h2
theorem sorted_pw {l : List Str} (h : sortedS l = true) : l.Pairwise leS := by
  cases l with
  | nil => exact .nil
  | cons x r => exact rising_pw r x h
theorem leS_anti {a b : Str} (h1 : leS a b) (h2 : leS b a) : a = b := by
  have e : a.cps.toList = b.cps.toList := List.le_antisymm (show a.cps.toList ≤ b.cps.toList from h1) h2
  obtain ⟨⟨x⟩⟩ := a
  obtain ⟨⟨y⟩⟩ := b
  have : x = y := e
  rw [this]
theorem sortedS_uniq {l k : List Str} (h1 : sortedS l = true) (h2 : sortedS k = true) (p : l.Perm k) : l = k :=
  p.eq_of_pairwise (fun a b _ _ => leS_anti) (sorted_pw h1) (sorted_pw h2)
inductive AllR {β : Type} (P : V → β → Prop) : List V → List β → Prop
  | nil : AllR P [] []
  | cons {v : V} {b : β} {vs : List V} {bs : List β} : P v b → AllR P vs bs → AllR P (v :: vs) (b :: bs)
section
variable {β : Type} {P P' : V → β → Prop}
theorem AllR.len : ∀ {vs : List V} {bs : List β}, AllR P vs bs → vs.length = bs.length
  | _, _, .nil => rfl
  | _, _, .cons _ t => by rw [List.length_cons, List.length_cons, t.len]
end
/-- sorted(d), d a dict by texts, fewer than 64 -/
def rSortDT : List V → Hp → VK → Prop := fun xs H Q => ∃ (a : Addr) (kvs : List (Key × V)) (ks : List Str), xs = [.ref a] ∧ L2.Rd H a (.dK kvs) ∧ kvs.map (·.1) = ks.map Sum.inr ∧ ks.length < 64 ∧ ∀ (ys : List Str) (p : Addr), ys.Perm ks → sortedS ys = true → H p = none → Q (.ref p) (upd H p (.lst (ys.map V.str)))
theorem kSortDT {X : Cx} (hc : X.calm = true) : CallR X (.builtin "sorted") rSortDT := call_sortedD hc
def gDP2 (a : Addr) (y : V) (H2 : Hp) (Q : VK) : Prop := ∃ kvs k v, H2 a = some (.dK kvs) ∧ y = kV k ∧ valV kvs k = some v ∧ Q v (upd H2 a (.dK (dropK kvs k)))
def gDP (ty : TE) (σ : L2.St) (x : V) (H1 : Hp) (Q : VK) : Prop := ∃ a, x = .ref a ∧ IsD H1 a ∧ ty σ H1 fun y H2 => gDP2 a y H2 Q
section
variable {K : PySem.W.Frag} {w : Wd} {a : Addr} {Q : VK} {kvs : List (Key × V)} {ks : List Str} {σ : L2.St} {H : Hp} {td ty : TE} {z : Str} {v : V}
theorem s_dp (k : td σ H fun x H1 => gDP ty σ x H1 Q) : tDPop1 td ty σ H Q := k
theorem s_gdp (o : Own w a (.dK kvs)) (k : ty σ w.H fun y H2 => gDP2 a y H2 Q) : gDP ty σ (.ref a) w.H Q := ⟨a, rfl, .inl ⟨kvs, .inl o.h⟩, k⟩
theorem s_gdp2 (o : Own w a (.dK kvs)) (e : valV kvs (.inr z) = some v) (k : ∀ u, Ext (One a) w u → Own u a (.dK (dropK kvs (.inr z))) → Q v u.H) : gDP2 a (.str z) w.H Q :=
  ⟨kvs, .inr z, v, o.h, rfl, e, put (R := fun H => Q v H) o k⟩
end
theorem rpa_strs {S : Hp} : ∀ zs : List Str, RpA S (zs.map V.str) (zs.map PyData.str)
  | [] => .nil
  | z :: r => .cons (.str z) (rpa_strs r)
end G
set_option linter.all false
set_option maxRecDepth 100000
namespace G
open PySem PySem.Spec L2 PyProof.Rows
def gDU2 (a : Addr) (y : V) (H2 : Hp) (Q : VK) : Prop := ∃ b more, y = .ref b ∧ a ≠ b ∧ H2 a = some (.dK []) ∧ L2.Rd H2 b (.dK more) ∧ Q .non (upd H2 a (.dK more))
def gDU (ty : TE) (σ : L2.St) (x : V) (H1 : Hp) (Q : VK) : Prop := ∃ a, x = .ref a ∧ IsD H1 a ∧ ty σ H1 fun y H2 => gDU2 a y H2 Q
def tDUpd (td ty : TE) : TE := fun σ H Q => td σ H fun x H1 => gDU ty σ x H1 Q
section
variable {X : Cx} {o e : Expr} {apos cpos : Pos} {td ty : TE}
theorem pe_dupd (ho : PE X o td) (he : PE X e ty) (m : M1 X o "update" apos e cpos) : PE X (.Call (.Attribute o "update" apos) [e] [] cpos) (tDUpd td ty) := by
  refine ⟨fun pins s σ H Q I h => ?_⟩
  refine wpAny_Call_method m.base m.few m.line PySem.F.plainAttrs_dict PySem.F.slot_dict_update PySem.F.type_dict_update (thn (ho.run pins s σ H _ I h) fun u s1 ⟨x, H1, I1, rx, a, ex, d, q1⟩ => ?_)
  subst ex
  obtain rfl : u = Value.ref a := rx
  obtain ⟨t1, t2, _⟩ := isD_at I1 d
  refine ⟨t1, t2, ?_⟩
  rw [m.trees]
  refine Calls.callWith_builtin rfl (Calls.evalArgs_plain (Calls.spliced_cons (thn (he.run pins s1 σ H1 _ I1 q1) fun iv s2 ⟨y, H2, I2, ry, b, more, ey, hne, ea, eb, q2⟩ => Calls.spliced_nil ?_)))
  subst ey
  obtain rfl : iv = Value.ref b := ry
  obtain ⟨z, hd, vs, rel, dd⟩ := dk_of I2.hok ea
  obtain ⟨z2, hd2, vs2, rel2, dd2⟩ := dk_rd I2.hok eb
  cases rel
  refine call_meetsIn PySem.F.slot_dict_update dd.typeIs PySem.F.entry_dict_update (PySem.F.args_dict_update_2 _ _) (meets_dict_update (mixKind X.prog X.w) a b hne hd2) ⟨[], vs2, dd, dd2, (by rw [← rel2.length, List.length_nil]; omega), fun h' dd' _ hs => ?_⟩
  have hnd : (vs2.map (·.1)).Nodup := by obtain ⟨_, _, _, _, _, _, _, _, hn⟩ := dd2; exact hn
  rw [merged_nil_of_nodup vs2 hnd] at dd'
  have he : ∃ q, h'.get? a = some q := let ⟨q, _, _, hq, _⟩ := dd'; ⟨q, hq⟩
  exact ⟨.non, _, d_write (t' := s2.toks) I2 (by rw [ea]; exact True.intro) hs he (dk_new z2 hd rel2 dd'), rfl, q2⟩
end
section
variable {w : Wd} {a b : Addr} {Q : VK} {more : List (Key × V)} {σ : L2.St} {H : Hp} {td ty : TE}
theorem s_du (k : td σ H fun x H1 => gDU ty σ x H1 Q) : tDUpd td ty σ H Q := k
theorem s_gdu (o : Own w a (.dK [])) (k : ty σ w.H fun y H2 => gDU2 a y H2 Q) : gDU ty σ (.ref a) w.H Q := ⟨a, rfl, .inl ⟨[], .inl o.h⟩, k⟩
theorem s_gdu2 (o : Own w a (.dK [])) (hne : a ≠ b) (h : w.H b = some (.dK more)) (k : ∀ u, Ext (One a) w u → Own u a (.dK more) → Q .non u.H) : gDU2 a (.ref b) w.H Q :=
  ⟨b, more, rfl, hne, o.h, .inl h, put (R := fun H => Q .non H) o k⟩
end
end G
set_option linter.all false
set_option maxRecDepth 100000
namespace G
open PySem L2 TL
structure LogM where
  T : Tabs
  E : List (Str × Sim)
  B : List (Str × Str × Int)
def bondD (b : Str × Str × Int) : PyData := .tuple [.str b.1, .str b.2.1, .int b.2.2]
def EnA (K : PySem.W.Frag) (ec : EC) (S : Hp) : List (Key × V) → List (Str × Sim) → Prop := DicR fun v e => SimS K ec S v e ∧ e.ok
theorem EnA.go {K : PySem.W.Frag} {ec : EC} {w u : Wd} {m : Addr → Prop} (x : Ext m w u) {kvs : List (Key × V)} {T : List (Str × Sim)} (h : EnA K ec w.S kvs T) : EnA K ec u.S kvs T := DicR.mono (fun _ _ z => ⟨SimS.go x z.1, z.2⟩) h
/-- a log stands at a, its own cells cs -/
def LogO (K : PySem.W.Frag) (ec : EC) (CL CT : Addr) (w : Wd) (a : V) (L : LogM) (cs : Addr → Prop) : Prop :=
  ∃ x dx c l b kc kl bs, a = .ref x ∧ Own w x (.ins CL dx [("clocks", .ref c), ("line", .ref l), ("bound", .ref b)]) ∧ Own w c (.dK kc) ∧ TbA CT w.S kc L.T ∧ Own w l (.dK kl) ∧ EnA K ec w.S kl L.E ∧ Own w b (.lst bs) ∧ RpA w.S bs (L.B.map bondD) ∧ c ≠ l ∧
    ∀ y, cs y ↔ (y = x ∨ y = c ∨ y = l ∨ y = b)
theorem LogO.go {K : PySem.W.Frag} {ec : EC} {CL CT : Addr} {w u : Wd} {a : V} {L : LogM} {cs m : Addr → Prop} (e : Ext m w u) (n : ∀ y, cs y → ¬ m y) (h : LogO K ec CL CT w a L cs) : LogO K ec CL CT u a L cs := by
  obtain ⟨x, dx, c, l, b, kc, kl, bs, rfl, h1, h2, h3, h4, h5, h6, h7, h8, h9⟩ := h
  exact ⟨x, dx, c, l, b, kc, kl, bs, rfl, h1.ext e (n x ((h9 x).mpr (.inl rfl))), h2.ext e (n c ((h9 c).mpr (.inr (.inl rfl)))), TbA.go e h3, h4.ext e (n l ((h9 l).mpr (.inr (.inr (.inl rfl))))), EnA.go e h5, h6.ext e (n b ((h9 b).mpr (.inr (.inr (.inr rfl))))), h7.go e, h8, h9⟩
theorem LogO.go0 {K : PySem.W.Frag} {ec : EC} {CL CT : Addr} {w u : Wd} {a : V} {L : LogM} {cs : Addr → Prop} (e : Ext Non w u) (h : LogO K ec CL CT w a L cs) : LogO K ec CL CT u a L cs := h.go e fun _ _ z => z
/-- its cells are there, and one's own -/
theorem LogO.cell {K : PySem.W.Frag} {ec : EC} {CL CT : Addr} {w : Wd} {a : V} {L : LogM} {cs : Addr → Prop} (h : LogO K ec CL CT w a L cs) {y : Addr} (hy : cs y) : ∃ o, Own w y o := by
  obtain ⟨x, dx, c, l, b, kc, kl, bs, rfl, h1, h2, h3, h4, h5, h6, h7, h8, h9⟩ := h
  rcases (h9 y).mp hy with rfl | rfl | rfl | rfl
  · exact ⟨_, h1⟩
  · exact ⟨_, h2⟩
  · exact ⟨_, h4⟩
  · exact ⟨_, h6⟩
/-- a table, or another table, for a place -/
def putT {α : Type} (T : List (Str × α)) (z : Str) (r : α) : List (Str × α) := if (getT T z).isSome then T.map (fun p => if p.1 = z then (p.1, r) else p) else T ++ [(z, r)]
theorem DicR.isSome {α : Type} {P : V → α → Prop} {kvs : List (Key × V)} {T : List (Str × α)} {z : Str} (h : DicR P kvs T) : (valV kvs (.inr z)).isSome = (getT T z).isSome := by
  cases g : getT T z with
  | none => rw [h.miss g]; rfl
  | some R => obtain ⟨v, hv, _⟩ := h.hit g; rw [hv]; rfl
theorem DicR.put {α : Type} {P : V → α → Prop} {kvs : List (Key × V)} {T : List (Str × α)} {z : Str} {v : V} {r : α} (h : DicR P kvs T) (p : P v r) : DicR P (putK kvs (.inr z) v) (putT T z r) := by
  cases g : getT T z with
  | none =>
    unfold putT
    rw [g, if_neg (by simp)]
    exact h.putN g p
  | some R =>
    obtain ⟨v0, hv0, _⟩ := h.hit g
    unfold putT putK
    rw [g, if_pos (show (kvs.any fun kv => decide (kv.1 = Sum.inr z)) = true by rw [valV_any, hv0]; rfl), if_pos (show (some R).isSome = true from rfl)]
    clear g hv0
    induction h with
    | nil => exact .nil
    | @cons v1 R1 y kvs T h1 t ih =>
      rw [List.map_cons, List.map_cons]
      by_cases c : y = z
      · subst c
        rw [if_pos rfl, if_pos rfl]
        exact .cons p ih
      · rw [if_neg (fun e => c (Sum.inr.inj e)), if_neg c]
        exact .cons h1 ih
theorem s_listDKo {w : Wd} {a : Addr} {kvs : List (Key × V)} {Q : VK} (o : Own w a (.dK kvs)) (k : ∀ p v, Ext Non w v → w.H p = none → Own v p (.lst (kvs.map fun kv => kV kv.1)) → Q (.ref p) v.H) : SU.rListDK [.ref a] w.H Q := ⟨a, kvs, rfl, .inl o.h, newO (Q := Q) fun p v e n o => k p v e n o⟩
theorem s_sortDTo {w : Wd} {a : Addr} {kvs : List (Key × V)} {ks : List Str} {Q : VK} (o : w.H a = some (.dK kvs)) (hk : kvs.map (·.1) = ks.map Sum.inr) (hl : ks.length < 64) (k : ∀ ys p v, ys.Perm ks → PyProof.Rows.sortedS ys = true → Ext Non w v → w.H p = none → Own v p (.lst (ys.map V.str)) → Q (.ref p) v.H) : rSortDT [.ref a] w.H Q :=
  ⟨a, kvs, ks, rfl, .inl o, hk, hl, fun ys p h1 h2 => newO (Q := Q) (fun p v e n s => k ys p v h1 h2 e n s) p⟩
theorem DicR.kVs {α : Type} {P : V → α → Prop} {kvs : List (Key × V)} {T : List (Str × α)} (h : DicR P kvs T) : (kvs.map fun kv => kV kv.1) = (T.map (·.1)).map V.str := by
  have h2 : (kvs.map fun kv => kV kv.1) = (kvs.map (·.1)).map kV := by rw [List.map_map]; rfl
  rw [h2, h.keys, List.map_map]
  rfl
/-- len(d) -/
def rLenDK : List V → Hp → VK → Prop := fun xs H Q => ∃ (d : Addr) (kvs : List (Key × V)), xs = [.ref d] ∧ H d = some (.dK kvs) ∧ Q (.int kvs.length) H
theorem kLenD {X : Cx} : CallR X (.builtin "len") rLenDK := call_lenD
theorem s_lenDK {w : Wd} {d : Addr} {kvs : List (Key × V)} {Q : VK} (h : w.H d = some (.dK kvs)) (k : Q (.int kvs.length) w.H) : rLenDK [.ref d] w.H Q := ⟨d, kvs, rfl, h, k⟩
section
variable {X : Cx} {CX : L2.CXT} {C : Addr} {k j : Nat} {sp : L2.Sp} {E : XK} {x : Str} {p pos : Pos}
theorem pe_mk0 (c : Mkr X.prog X.w X.K X.mg X.base CX C k sp) (hr : Room j X.A) (hk : k + 1 ≤ j) (hm : X.mg x = some (.ref C)) (hx : Passes CX X E) (hg : Gl X x := by rfl)
    (hdb : (x == ("__debug__" : Str)) = false := by decide) : PE X (.Call (.Name x p) [] [] pos) (tMake C sp [] E tNil) := by
  obtain ⟨f, fd, ps, F, M, hb⟩ := c.ex
  exact pe_make0 M F (hr.mono hk) hg hm hb .nil hx hdb
end
theorem RpA.erase {S : Hp} : ∀ {vs : List V} {ds : List PyData} (i : Nat), RpA S vs ds → RpA S (vs.eraseIdx i) (ds.eraseIdx i)
  | _, _, _, .nil => .nil
  | _, _, 0, .cons _ t => t
  | _, _, _ + 1, .cons a t => .cons a (t.erase _)
theorem map_erase {α β : Type} (f : α → β) : ∀ (l : List α) (i : Nat), (l.map f).eraseIdx i = (l.eraseIdx i).map f
  | [], _ => rfl
  | _ :: _, 0 => rfl
  | a :: l, i + 1 => by rw [List.map_cons, List.eraseIdx_cons_succ, List.eraseIdx_cons_succ, List.map_cons, map_erase f l i]
theorem s_slT2 {K : PySem.W.Frag} {w : Wd} {a : Addr} {x y z : V} {Q : VK} (h : w.S a = some (.tup [x, y, z])) (k : ∀ p v, Ext Non w v → w.H p = none → v.S p = some (.tup [x, y]) → Q (.ref p) v.H) : gSl K (.ref a) none (some 2) w.H Q :=
  .inr ⟨a, [x, y, z], rfl, sqt_of h, fun h => absurd h.2 (by show ¬ (2 : Nat) = 3; decide), fun _ => newS k⟩
theorem bond_inv {S : Hp} {v : V} {b : Str × Str × Int} (h : Rp S v (bondD b)) : ∃ t, v = .ref t ∧ S t = some (.tup [.str b.1, .str b.2.1, .int b.2.2]) := by
  obtain ⟨t, us, rfl, st, ra⟩ := h.tuple_inv
  cases ra with
  | cons h1 t1 =>
  cases t1 with
  | cons h2 t2 =>
  cases t2 with
  | cons h3 t3 =>
  cases t3
  obtain rfl := h1.str_inv
  obtain rfl := h2.str_inv
  obtain rfl := h3.int_inv
  exact ⟨t, rfl, st⟩
end G
set_option linter.all false
set_option maxRecDepth 100000
namespace G
open PySem L2 TL PyProof.Rows
structure KeptM where
  T : Tabs
  S : List Sim
  B : List (Str × Str × Int)
  G : List Str
def KeptO (w : Wd) (a : V) (M : KeptM) (cs : Addr → Prop) : Prop :=
  ∃ x t s b g kt ss bs, a = .ref x ∧ Own w x (.dK [(.inr "tables", .ref t), (.inr "specs", .ref s), (.inr "bonds", .ref b), (.inr "gone", .ref g)]) ∧ Own w t (.dK kt) ∧ TbL w.S kt M.T ∧ Own w s (.lst ss) ∧ RpA w.S ss (M.S.map specD) ∧
    Own w b (.lst bs) ∧ RpA w.S bs (M.B.map bondD) ∧ Own w g (.lst (M.G.map V.str)) ∧ x ≠ t ∧ s ≠ b ∧ s ≠ g ∧ b ≠ g ∧ ∀ y, cs y ↔ (y = x ∨ y = t ∨ y = s ∨ y = b ∨ y = g)
theorem KeptO.go {w u : Wd} {a : V} {M : KeptM} {cs m : Addr → Prop} (e : Ext m w u) (n : ∀ y, cs y → ¬ m y) (h : KeptO w a M cs) : KeptO u a M cs := by
  obtain ⟨x, t, s, b, g, kt, ss, bs, rfl, h1, h2, h3, h4, h5, h6, h7, h8, d1, d2, d3, d4, hc⟩ := h
  exact ⟨x, t, s, b, g, kt, ss, bs, rfl, h1.ext e (n x ((hc x).mpr (.inl rfl))), h2.ext e (n t ((hc t).mpr (.inr (.inl rfl)))), TbL.go e h3, h4.ext e (n s ((hc s).mpr (.inr (.inr (.inl rfl))))), h5.go e, h6.ext e (n b ((hc b).mpr (.inr (.inr (.inr (.inl rfl)))))), h7.go e, h8.ext e (n g ((hc g).mpr (.inr (.inr (.inr (.inr rfl)))))), d1, d2, d3, d4, hc⟩
theorem KeptO.go0 {w u : Wd} {a : V} {M : KeptM} {cs : Addr → Prop} (e : Ext Non w u) (h : KeptO w a M cs) : KeptO u a M cs := h.go e fun _ _ z => z
theorem KeptO.cell {w : Wd} {a : V} {M : KeptM} {cs : Addr → Prop} (h : KeptO w a M cs) {y : Addr} (hy : cs y) : ∃ o, Own w y o := by
  obtain ⟨x, t, s, b, g, kt, ss, bs, rfl, h1, h2, h3, h4, h5, h6, h7, h8, d1, d2, d3, d4, hc⟩ := h
  rcases (hc y).mp hy with rfl | rfl | rfl | rfl | rfl
  · exact ⟨_, h1⟩
  · exact ⟨_, h2⟩
  · exact ⟨_, h4⟩
  · exact ⟨_, h6⟩
  · exact ⟨_, h8⟩
/-- the entries of specs -/
def ens (S : List Sim) : List (Str × Sim) := S.map fun e => (e.n, e)
theorem ens_names (S : List Sim) : (ens S).map (·.1) = S.map (·.n) := by unfold ens; rw [List.map_map]; rfl
theorem ens_get {S : List Sim} (hn : (S.map (·.n)).Nodup) {e : Sim} (h : e ∈ S) : getT (ens S) e.n = some e := by
  induction S with
  | nil => cases h
  | cons f S ih =>
    rw [List.map_cons, List.nodup_cons] at hn
    unfold getT ens
    rw [List.map_cons]
    rcases List.mem_cons.mp h with rfl | h
    · rw [List.find?_cons_of_pos (by simp)]
      rfl
    · have hne : f.n ≠ e.n := fun z => hn.1 (by rw [z]; exact List.mem_map_of_mem h)
      rw [List.find?_cons_of_neg (by simp [hne])]
      exact ih hn.2 h
theorem ens_none {S : List Sim} {z : Str} : getT (ens S) z = none ↔ z ∉ S.map (·.n) := by rw [getT_none, ens_names]
theorem ens_drop {S : List Sim} (hn : (S.map (·.n)).Nodup) {i : Nat} {e : Sim} (h : S[i]? = some e) : dropT (ens S) e.n = ens (S.eraseIdx i) := by
  induction S generalizing i with
  | nil => simp at h
  | cons f S ih =>
    rw [List.map_cons, List.nodup_cons] at hn
    unfold dropT ens
    rw [List.map_cons]
    cases i with
    | zero =>
      cases h
      rw [List.filter_cons_of_neg (by simp)]
      refine List.filter_eq_self.mpr fun p hp => ?_
      obtain ⟨g, hg, rfl⟩ := List.mem_map.mp hp
      have : g.n ≠ e.n := fun z => hn.1 (by rw [← z]; exact List.mem_map_of_mem hg)
      simp [this]
    | succ i =>
      have h : S[i]? = some e := h
      have hne : f.n ≠ e.n := fun z => hn.1 (by rw [z]; exact List.mem_map_of_mem (List.mem_of_getElem? h))
      rw [List.filter_cons_of_pos (by simp [hne])]
      have := ih hn.2 h
      unfold dropT ens at this
      rw [this]
      rfl
/-- lists without doubles, within another one -/
theorem nodup_le {α : Type} [DecidableEq α] : ∀ {l k : List α}, l.Nodup → (∀ a ∈ l, a ∈ k) → l.length ≤ k.length
  | [], k, _, _ => Nat.zero_le _
  | a :: l, k, hn, h => by
    rw [List.nodup_cons] at hn
    have ha := h a (by simp)
    have hk : (k.erase a).length = k.length - 1 := List.length_erase_of_mem ha
    have := nodup_le (k := k.erase a) hn.2 fun b hb => (List.mem_erase_of_ne (fun e => hn.1 (by rw [← e]; exact hb))).mpr (h b (by simp [hb]))
    have hp : 0 < k.length := List.length_pos_of_mem ha
    rw [List.length_cons]
    omega
theorem putT_get {α : Type} {T : List (Str × α)} {z y : Str} {r : α} (h : ∃ R, getT T y = some R) : ∃ R, getT (putT T z r) y = some R := by
  refine getT_mem ?_
  obtain ⟨R, hR⟩ := h
  have hm : y ∈ T.map (·.1) := List.mem_map_of_mem (f := (·.1)) (getT_sub hR)
  unfold putT
  by_cases c : (getT T z).isSome = true
  · rw [if_pos c, List.map_map]
    obtain ⟨p, hp, rfl⟩ := List.mem_map.mp hm
    exact List.mem_map.mpr ⟨p, hp, by dsimp only [Function.comp]; by_cases d : p.1 = z <;> simp [d]⟩
  · rw [if_neg c, List.map_append]
    exact List.mem_append.mpr (.inl hm)
theorem putT_names {α : Type} {T : List (Str × α)} {z : Str} {r : α} : (putT T z r).map (·.1) = if (getT T z).isSome then T.map (·.1) else T.map (·.1) ++ [z] := by
  unfold putT
  by_cases c : (getT T z).isSome = true
  · rw [if_pos c, if_pos c, List.map_map]
    refine List.map_congr_left fun p _ => ?_
    dsimp only [Function.comp]
    by_cases d : p.1 = z <;> simp [d]
  · rw [if_neg c, if_neg c, List.map_append]
    rfl
theorem putT_new {α : Type} {T : List (Str × α)} {z : Str} {r : α} (hn : (T.map (·.1)).Nodup) : ((putT T z r).map (·.1)).Nodup := by
  rw [putT_names]
  by_cases c : (getT T z).isSome = true
  · rw [if_pos c]; exact hn
  · rw [if_neg c]
    have : getT T z = none := by cases g : getT T z with
      | none => rfl
      | some R => rw [g] at c; exact absurd rfl c
    have h2 := getT_none.mp this
    refine List.nodup_append.mpr ⟨hn, by simp, fun a ha b hb e => ?_⟩
    rw [List.mem_singleton.mp hb] at e
    exact h2 (by rw [← e]; exact ha)
theorem SpecOk.put {e : Sim} {T : Tabs} {z : Str} {R : List (Int × Int)} (h : SpecOk e T) : SpecOk e (putT T z R) :=
  ⟨h.s, h.n, fun p => ⟨(h.pl p).1, putT_get (h.pl p).2.1, (h.pl p).2.2⟩, h.np, h.an, h.at'⟩
/-- log and kept tell the same, names out of zs -/
structure Lk (zs : List Str) (L : LogM) (M : KeptM) (g : Nat) : Prop where
  t : L.T = M.T
  e : L.E = ens M.S
  b : L.B = M.B
  tn : (M.T.map (·.1)).Nodup
  ti : ∀ y ∈ M.T.map (·.1), y ∈ zs.take 6
  sn : (M.S.map (·.n)).Nodup
  si : ∀ y ∈ M.S.map (·.n), y ∈ zs.drop 6
  ok : ∀ e ∈ M.S, SpecOk e M.T
  bl : M.B.length ≤ 100
  bo : ∀ b ∈ M.B, NmOk0 b.1 ∧ NmOk0 b.2.1
  gl : M.G.length ≤ g
  go : ∀ z ∈ M.G, NmOk0 z
/-- the names of the law: twenty -/
structure Nm20 (zs : List Str) : Prop where
  l : zs.length = 20
  n : zs.Nodup
  ok : ∀ z ∈ zs, NmOk0 z
theorem Lk.tl {zs : List Str} {L : LogM} {M : KeptM} {g : Nat} (h : Lk zs L M g) (hz : Nm20 zs) : M.T.length ≤ 6 := by
  have := nodup_le h.tn h.ti
  rw [List.length_map, List.length_take, hz.l] at this
  exact this
theorem Lk.sl {zs : List Str} {L : LogM} {M : KeptM} {g : Nat} (h : Lk zs L M g) (hz : Nm20 zs) : M.S.length ≤ 14 := by
  have := nodup_le h.sn h.si
  rw [List.length_map, List.length_drop, hz.l] at this
  exact this
theorem Lk.tok {zs : List Str} {L : LogM} {M : KeptM} {g : Nat} (h : Lk zs L M g) (hz : Nm20 zs) : ∀ y ∈ M.T, NmOk0 y.1 := fun y hy => hz.ok _ (List.mem_of_mem_take (h.ti _ (List.mem_map_of_mem hy)))
theorem Lk.nil (zs : List Str) : Lk zs ⟨[], [], []⟩ ⟨[], [], [], []⟩ 0 :=
  ⟨rfl, rfl, rfl, .nil, (fun y h => by cases h), .nil, (fun y h => by cases h), (fun y h => by cases h), Nat.zero_le _, (fun y h => by cases h), Nat.le_refl _, (fun y h => by cases h)⟩
theorem Lk.mono {zs : List Str} {L : LogM} {M : KeptM} {g j : Nat} (h : Lk zs L M g) (le : g ≤ j) : Lk zs L M j := { h with gl := Nat.le_trans h.gl le }
theorem Lk.clock {zs : List Str} {L : LogM} {M : KeptM} {g : Nat} (h : Lk zs L M g) {z : Str} {R : List (Int × Int)} (hz : z ∈ zs.take 6) : Lk zs { L with T := putT L.T z R } { M with T := putT M.T z R } g :=
  { h with
    t := by rw [h.t]
    tn := putT_new h.tn
    ti := fun y hy => by
      rw [putT_names] at hy
      split at hy
      · exact h.ti y hy
      · rcases List.mem_append.mp hy with hy | hy
        · exact h.ti y hy
        · rw [List.mem_singleton.mp hy]; exact hz
    ok := fun e he => (h.ok e he).put }
theorem Lk.room {zs : List Str} {L : LogM} {M : KeptM} {g : Nat} (h : Lk zs L M g) (hz : Nm20 zs) {z : Str} (hi : z ∈ zs.take 6) : (getT L.T z).isSome = true ∨ L.T.length < 6 := by
  by_cases c : (getT L.T z).isSome = true
  · exact .inl c
  · refine .inr ?_
    rw [h.t] at c ⊢
    have h1 := (Lk.clock h (R := []) hi).tl hz
    have h2 : (putT M.T z []).length = M.T.length + 1 := by unfold putT; rw [if_neg c, List.length_append]; rfl
    have h1 : (putT M.T z []).length ≤ 6 := h1
    omega
theorem Lk.put {zs : List Str} {L : LogM} {M : KeptM} {g : Nat} (h : Lk zs L M g) {e : Sim} (ok : SpecOk e M.T) (hn : e.n ∉ M.S.map (·.n)) (hz : e.n ∈ zs.drop 6) : Lk zs { L with E := L.E ++ [(e.n, e)] } { M with S := M.S ++ [e] } g :=
  { h with
    e := by show L.E ++ [(e.n, e)] = ens (M.S ++ [e]); rw [h.e]; unfold ens; rw [List.map_append]; rfl
    sn := by
      show ((M.S ++ [e]).map (·.n)).Nodup
      rw [List.map_append]
      exact List.nodup_append.mpr ⟨h.sn, by simp, fun a ha b hb z => hn (by rw [show e.n = b from (List.mem_singleton.mp hb).symm, ← z]; exact ha)⟩
    si := fun y hy => by
      have hy : y ∈ (M.S ++ [e]).map (·.n) := hy
      rw [List.map_append] at hy
      rcases List.mem_append.mp hy with hy | hy
      · exact h.si y hy
      · rw [show y = e.n from List.mem_singleton.mp hy]; exact hz
    ok := fun f hf => by
      rcases List.mem_append.mp hf with hf | hf
      · exact h.ok f hf
      · rw [List.mem_singleton.mp hf]; exact ok }
theorem Lk.bind {zs : List Str} {L : LogM} {M : KeptM} {g : Nat} (h : Lk zs L M g) {b : Str × Str × Int} (hl : M.B.length < 100) (h1 : NmOk0 b.1) (h2 : NmOk0 b.2.1) : Lk zs { L with B := L.B ++ [b] } { M with B := M.B ++ [b] } g :=
  { h with
    b := by rw [h.b]
    bl := by show (M.B ++ [b]).length ≤ 100; rw [List.length_append]; exact hl
    bo := fun q hq => by
      rcases List.mem_append.mp hq with hq | hq
      · exact h.bo q hq
      · rw [List.mem_singleton.mp hq]; exact ⟨h1, h2⟩ }
theorem Lk.unbind {zs : List Str} {L : LogM} {M : KeptM} {g : Nat} (h : Lk zs L M g) (i : Nat) : Lk zs { L with B := L.B.eraseIdx i } { M with B := M.B.eraseIdx i } g :=
  { h with
    b := by rw [h.b]
    bl := Nat.le_trans (List.length_eraseIdx_le _ _) h.bl
    bo := fun q hq => h.bo q (List.mem_of_mem_eraseIdx hq) }
def noB (z : Str) (q : Str × Str × Int) : Bool := !decide (q.1 = z) && !decide (q.2.1 = z)
theorem Lk.drop {zs : List Str} {L : LogM} {M : KeptM} {g i : Nat} {e : Sim} (h : Lk zs L M g) (he : M.S[i]? = some e) : Lk zs { L with E := dropT L.E e.n, B := L.B.filter (noB e.n) } { M with S := M.S.eraseIdx i, B := M.B.filter (noB e.n), G := M.G ++ [e.n] } (g + 1) :=
  { h with
    e := by rw [h.e]; exact ens_drop h.sn he
    b := by rw [h.b]
    sn := by
      show ((M.S.eraseIdx i).map (·.n)).Nodup
      rw [← map_erase]
      exact h.sn.sublist (List.eraseIdx_sublist _ _)
    si := fun y hy => h.si y (by
      have hy : y ∈ (M.S.eraseIdx i).map (·.n) := hy
      rw [← map_erase] at hy
      exact List.mem_of_mem_eraseIdx hy)
    ok := fun f hf => h.ok f (List.mem_of_mem_eraseIdx hf)
    bl := Nat.le_trans (List.length_filter_le _ _) h.bl
    bo := fun q hq => h.bo q (List.mem_filter.mp hq).1
    gl := by show (M.G ++ [e.n]).length ≤ g + 1; rw [List.length_append]; exact Nat.add_le_add_right h.gl 1
    go := fun z hz => by
      rcases List.mem_append.mp hz with hz | hz
      · exact h.go z hz
      · rw [List.mem_singleton.mp hz]; exact (h.ok e (List.mem_of_getElem? he)).n }
theorem inV_strs (z : Str) (zs : List Str) : inV (.str z) (zs.map V.str) = decide (z ∈ zs) := by
  unfold inV
  rw [List.any_map]
  induction zs with
  | nil => simp
  | cons y zs ih =>
    rw [List.any_cons, ih]
    show (eqV (.str y) (.str z) || _) = _
    rw [show eqV (.str y) (.str z) = decide (z = y) by
      show decide (y = z) = _
      by_cases c : y = z
      · rw [decide_eq_true c, decide_eq_true c.symm]
      · rw [decide_eq_false c, decide_eq_false (fun h => c h.symm)]]
    by_cases c : z = y <;> simp [c]
theorem flat_strs (zs : List Str) : (zs.map V.str).all flatV = true := by
  rw [List.all_map]
  exact List.all_eq_true.mpr fun _ _ => rfl
section
variable {K : PySem.W.Frag} {w : Wd} {p : Addr} {z : Str} {zs : List Str} {Q : VK}
theorem s_ninLs (h : SqL K w.H p (zs.map V.str)) (k : Q (.bl (!decide (z ∈ zs))) w.H) : gNotIn K (.str z) (.ref p) w.H Q := by
  refine ⟨p, _, rfl, .inl h, rfl, flat_strs zs, ?_⟩
  show Q (.bl (!inV (.str z) (zs.map V.str))) w.H
  rw [inV_strs]
  exact k
end
theorem can_bonds : ∀ B : List (Str × Str × Int), (∀ b ∈ B, NmOk0 b.1 ∧ NmOk0 b.2.1) → PyData.canLayAll0 (B.map bondD) = true
  | [], _ => by simp [PyData.canLayAll0]
  | b :: r, h => by
    have h1 := (h b (by simp)).1.tx.ok
    have h2 := (h b (by simp)).2.tx.ok
    simp [bondD, PyData.canLayAll0, PyData.canLay0, can_bonds r fun x hx => h x (List.mem_cons_of_mem _ hx), h1, h2]
theorem dep_bonds : ∀ B : List (Str × Str × Int), PyData.depthAll (B.map bondD) ≤ 2
  | [] => by simp [PyData.depthAll]
  | b :: r => by
    have := dep_bonds r
    simp only [List.map_cons, PyData.depthAll, bondD, PyData.depth]
    omega
theorem shaped_bonds {B : List (Str × Str × Int)} (h : ∀ b ∈ B, NmOk0 b.1 ∧ NmOk0 b.2.1) : SeqAt.shaped (.list (B.map bondD)) = true := by
  have h1 := dep_bonds B
  have h2 : PyData.depth (.list (B.map bondD)) ≤ 64 := by simp only [PyData.depth]; omega
  show (PyData.canLay0 (.list (B.map bondD)) && decide (PyData.depth (.list (B.map bondD)) ≤ 64)) = true
  rw [Bool.and_eq_true]
  exact ⟨by simp only [PyData.canLay0]; exact can_bonds B h, decide_eq_true h2⟩
/-- a list of tuples of numbers and texts -/
def LsG (w : Wd) (a : V) (ds : List (List PyData)) : Prop := ∃ p vs, a = .ref p ∧ Rd w p (.lst vs) ∧ RpA w.S vs (ds.map PyData.tuple)
def flatD (ds : List (List PyData)) : Prop := ∀ us ∈ ds, us.length < 1000 ∧ ∀ u ∈ us, (∃ i, u = .int i) ∨ ∃ z, u = .str z
def prU (q : Int × Int) : List PyData := [.int q.1, .int q.2]
def bondU (b : Str × Str × Int) : List PyData := [.str b.1, .str b.2.1, .int b.2.2]
theorem prU_map (R : List (Int × Int)) : (R.map prU).map PyData.tuple = R.map prD := by rw [List.map_map]; rfl
theorem bondU_map (R : List (Str × Str × Int)) : (R.map bondU).map PyData.tuple = R.map bondD := by rw [List.map_map]; rfl
theorem prU_flat (R : List (Int × Int)) : flatD (R.map prU) := fun us h => by
  obtain ⟨q, _, rfl⟩ := List.mem_map.mp h
  refine ⟨by unfold prU; simp, fun u hu => ?_⟩
  unfold prU at hu
  simp only [List.mem_cons, List.not_mem_nil, or_false] at hu
  rcases hu with rfl | rfl <;> exact .inl ⟨_, rfl⟩
theorem bondU_flat (R : List (Str × Str × Int)) : flatD (R.map bondU) := fun us h => by
  obtain ⟨q, _, rfl⟩ := List.mem_map.mp h
  refine ⟨by unfold bondU; simp, fun u hu => ?_⟩
  unfold bondU at hu
  simp only [List.mem_cons, List.not_mem_nil, or_false] at hu
  rcases hu with rfl | rfl | rfl
  · exact .inr ⟨_, rfl⟩
  · exact .inr ⟨_, rfl⟩
  · exact .inl ⟨_, rfl⟩
end G
set_option linter.all false
set_option maxRecDepth 100000
namespace G
open PySem L2 PyProof.Rows
def tTry (tb : WX → TS) (w : Ends → WX) : TS := fun D σ H => tb (w D) D σ H
theorem s_try {tb : WX → TS} {w : Ends → WX} {D : Ends} {σ : L2.St} {H : Hp} (k : tb (w D) D σ H) : tTry tb w D σ H := k
section
variable {X : Cx} {body suite : List Stmt} {b₀ : Stmt} {x n : Str} {np pos pos' : Pos} {i : Nat} {c : Value} {tb : WX → TS} {ts : Addr → Value → Option Addr → TS} {Wout : WX}
theorem ps_try_asT (hs : X.stack = X.env :: X.outer) (hf : X.env.frame = some X.env.locals) (hN : X.N.Nodup) (hi : X.N[i]? = some n) (hln : X.env.kindOf n = some .local) (hc : Names X x c) (tk : Takes X Wout)
    (hb : ∀ (W : WX) (pn : List (Addr × Obj)) (xe : Value → Shared → Prop), Takes (X.tr pn xe) W → PassesOwn (model X.prog X.w) X.A X.env xe → PSs (X.tr pn xe) body (tb W))
    (hsu : ∀ (a : Addr) (oe : Obj) (cls : Value) (d : Option Addr) (pn : List (Addr × Obj)), Zc cls d oe → (∃ vs, oe.data = .fields vs) → PSs (X.suite a ((a, oe) :: pn)) (b₀ :: suite) (ts a cls d)) :
    PS X (.Try body [.ExceptHandler (some (.Name x np)) (some n) (b₀ :: suite) pos'] [] [] pos) (tTry tb (wAs X.K c i ts Wout)) := ps_try_as hs hf hN hi hln hc tk hb hsu
end
end G
namespace L2
open PySem PyProof.Rows
/-- d == {} and d != {} -/
def rEqD0 : R2 := fun x y H Q => ∃ a b ks, x = .ref a ∧ y = .ref b ∧ H a = some (.dK ks) ∧ H b = some (.dK []) ∧ Q (.bl ks.isEmpty) H
section
variable {X : Cx}
theorem op_eq_d0 (hu : X.A.units < cLine) : OpR X (compareOp .Eq) rEqD0 := by
  intro pins s σ H x y v u Q I rx ry h
  obtain ⟨a, b, ks, rfl, rfl, ea, eb, q⟩ := h
  obtain rfl : v = Value.ref a := rx
  obtain rfl : u = Value.ref b := ry
  obtain ⟨_, ya, va, ra, da⟩ := (show ObjOk X.prog X.w H s.heap a (.dK ks) from I.hok a _ ea)
  obtain ⟨_, yb, vb, rb, db⟩ := (show ObjOk X.prog X.w H s.heap b (.dK []) from I.hok b _ eb)
  have l1 := ra.length
  have l2 := rb.length
  refine PySem.W.keq_eq (knd := mixKind X.prog X.w) (r := true) ya yb da db hu (fun hl => hits_all rb ra fun p hp => ?_) (fin_bl I q ?_)
  · have : ks.length = 0 := by rw [l1, hl, ← l2]; rfl
    rw [List.length_eq_zero_iff.mp this] at hp
    cases hp
  · rw [← l1, ← l2, Bool.and_true]
    cases ks <;> rfl
end
end L2
namespace G
open PySem L2 PyProof.Rows
theorem kEqD0 {X : Cx} (hu : X.A.units + 64 < cLine) : OpR X (compareOp .Eq) rEqD0 := op_eq_d0 (by omega)
section
variable {K : PySem.W.Frag} {w : Wd} {a b : Addr} {kvs : List (Key × V)} {Q : VK}
theorem s_eqD0 (h : w.H a = some (.dK kvs)) (n : w.H b = some (.dK [])) (k : Q (.bl kvs.isEmpty) w.H) : rEqD0 (.ref a) (.ref b) w.H Q := ⟨a, b, kvs, rfl, rfl, h, n, k⟩
theorem s_eqNs {vs : List V} {ds : List PyData} (sh : SeqAt.shaped (.list ds) = true) (r : G.Rd w a (.lst vs)) (h : RpA w.S vs ds) (s : w.S b = some (.lst [])) (k : Q (.bl ds.isEmpty) w.H) : gEq K (.ref a) (.ref b) w.H Q :=
  s_eqL r h (.inl s) .nil sh shaped_nil (by rw [eqv_nil]; exact k)
theorem s_neNs {vs : List V} {ds : List PyData} (sh : SeqAt.shaped (.list ds) = true) (r : G.Rd w a (.lst vs)) (h : RpA w.S vs ds) (s : w.S b = some (.lst [])) (k : Q (.bl (!ds.isEmpty)) w.H) : gNe K (.ref a) (.ref b) w.H Q :=
  s_neL r h (.inl s) .nil sh shaped_nil (by rw [eqv_nil]; exact k)
end
theorem s_iRng2 {ta : TA} {σ : L2.St} {H : Hp} {R : It → Hp → Prop} (k : ta σ H fun vs H1 => ∃ i j : Int, vs = [.int i, .int j] ∧ (-(2 ^ 62) ≤ i ∧ i < 2 ^ 62 ∧ -(2 ^ 62) ≤ j ∧ j < 2 ^ 62) ∧ R (Itr i (j - i).toNat) H1) : iRng2 ta σ H R := k
end G
set_option linter.all false
set_option maxRecDepth 100000
namespace G
open PySem L2 TL PyProof.Rows
theorem specn_inv {S : Hp} {a : V} {e : Sim} (h : Rp S a (specD e)) : ∃ t, a = .ref t ∧ S t = some (.tup [.str (wordK e.k), .str e.n, .str e.p, .int e.lo, .int e.hi]) := by
  obtain ⟨t, vs, rfl, st, r⟩ := h.tuple_inv
  refine ⟨t, rfl, ?_⟩
  cases r with
  | cons a1 r1 => cases r1 with
    | cons a2 r2 => cases r2 with
      | cons a3 r3 => cases r3 with
        | cons a4 r4 => cases r4 with
          | cons a5 r5 =>
            cases r5
            rw [a1.str_inv, a2.str_inv, a3.str_inv, a4.int_inv, a5.int_inv] at st
            exact st
/-- [spec[1] for spec in specs] -/
theorem lc_names {K : PySem.W.Frag} {w : Wd} {s : Addr} {ss : List V} {S : List Sim} {j : Nat} {σ : L2.St} {D : Addr} {Qd : Hp → Prop} (os : Rd w s (.lst ss)) (rs : RpA w.S ss (S.map specD)) (hD : w.H D = none) (hl : S.length < 1000)
    (hw : ∀ x, wipe ((wipe σ [j]).set j (some x)) [j] = wipe σ [j]) (hg : ∀ x, ((wipe σ [j]).set j (some x))[j]? = some (some x))
    (hd : ∀ u, Ext Non w u → Own u D (.lst ((S.map (·.n)).map V.str)) → Qd u.H) :
    ∃ W : Nat → Nat → Hp → Prop, (∃ m, W 0 m (upd w.H D (.lst []))) ∧ ∀ i m H, W i m H →
      ((Itl K s).stop i H ∧ Qd H) ∨ ((Itl K s).go i H ∧ ∃ Nx : Hp → Prop, (∀ H', Nx H' → ∃ m', m' < m ∧ W (i + 1) m' H') ∧ ∀ x H', (Itl K s).yld i H x H' → gName j x (wipe σ [j]) H' fun σ2 H2 => wipe σ2 [j] = wipe σ [j] ∧ tYes σ2 H2 fun b H3 =>
        if b = true then (tOp (gIx K) (tVar j) (tC (.int 1))) σ2 H3 fun y H4 => ∃ acc, H4 D = some (.lst acc) ∧ acc.length < sizeLine ∧ Nx (upd H4 D (.lst (acc ++ [y]))) else Nx H3) := by
  have lss := rs.length
  rw [List.length_map] at lss
  have hsD : s ≠ D := os.ne hD
  refine lc_gen (rows := S) (ww_list (xs := ss)) (fun _ => true) (fun e => .str e.n) hD (by omega) (by rw [sizeLine_eq]; omega) (fun u e => SqL.of (Rd.h (os.go e hsD))) ?_ ?_
  · intro i x1 e u hi hx hq eu R' Z hR' hZ
    obtain ⟨d, hd1, hd2⟩ := rs.get hx
    rw [List.getElem?_map, hq] at hd1
    obtain rfl := Option.some.inj hd1
    obtain ⟨t, rfl, st⟩ := specn_inv (hd2.go eu)
    refine s_gname rfl ⟨hw _, s_yes (ite_tt (s_op (s_var (hg _) (s_c (s_ixT st rfl ?_)))))⟩
    exact hR' _ _ (Ext.refl _ _) rfl (.str _)
  · intro u1 acc eu1 hD' oD ra
    have hf : S.filter (fun _ => true) = S := List.filter_eq_self.mpr fun _ _ => rfl
    rw [hf] at ra
    obtain rfl := RpA.strs_inv (ns := S.map (·.n)) (by rw [List.map_map]; exact ra)
    exact hd u1 eu1 oD
/-- a log and what is kept of it -/
structure Pair (K : PySem.W.Frag) (ec : EC) (CL CT : Addr) (zs : List Str) (w : Wd) (a b : V) (g : Nat) (L : LogM) (M : KeptM) (cs ds : Addr → Prop) : Prop where
  l : LogO K ec CL CT w a L cs
  k : KeptO w b M ds
  lk : Lk zs L M g
  dj : ∀ y, cs y → ¬ ds y
section
variable {K : PySem.W.Frag} {ec : EC} {CL CT : Addr} {zs : List Str} {w u : Wd} {a b : V} {g : Nat} {L : LogM} {M : KeptM} {cs ds m : Addr → Prop}
theorem Pair.go (h : Pair K ec CL CT zs w a b g L M cs ds) (e : Ext m w u) (n1 : ∀ y, cs y → ¬ m y) (n2 : ∀ y, ds y → ¬ m y) : Pair K ec CL CT zs u a b g L M cs ds := ⟨h.l.go e n1, h.k.go e n2, h.lk, h.dj⟩
theorem Pair.go0 (h : Pair K ec CL CT zs w a b g L M cs ds) (e : Ext Non w u) : Pair K ec CL CT zs u a b g L M cs ds := h.go e (fun _ _ z => z) fun _ _ z => z
theorem Pair.one {p : Addr} (h : Pair K ec CL CT zs w a b g L M cs ds) (e : Ext (One p) w u) (n1 : ¬ cs p) (n2 : ¬ ds p) : Pair K ec CL CT zs u a b g L M cs ds :=
  h.go e (fun y hy z => n1 (by rw [← show y = p from z]; exact hy)) fun y hy z => n2 (by rw [← show y = p from z]; exact hy)
theorem Pair.mono {j : Nat} (h : Pair K ec CL CT zs w a b g L M cs ds) (le : g ≤ j) : Pair K ec CL CT zs w a b j L M cs ds := ⟨h.l, h.k, h.lk.mono le, h.dj⟩
end
/-- the cells that a deed may touch -/
abbrev Tch (cs ds : Addr → Prop) (p : Addr) : Addr → Prop := fun y => cs y ∨ ds y ∨ y = p
def Stt0 (w : Wd) (a : Addr) : Prop := ∃ l s t : Int, 0 ≤ l ∧ Own w a (.lst [.int l, .int s, .int t])
def Deed (K : PySem.W.Frag) (ec : EC) (CL CT : Addr) (zs : List Str) (I : KeptM → Prop) (w : Wd) (a b c : V) (Q : VK) : Prop := ∃ L M g cs ds p, Nm20 zs ∧ g < 1000 ∧ I M ∧ Pair K ec CL CT zs w a b g L M cs ds ∧ c = .ref p ∧ Stt0 w p ∧ ¬ cs p ∧ ¬ ds p ∧
  ∀ v L' M' cs' ds', Ext (Tch cs ds p) w v → Pair K ec CL CT zs v a b (g + 1) L' M' cs' ds' → Stt0 v p → (∀ y, cs' y → cs y ∨ w.H y = none) → (∀ y, ds' y → ds y ∨ w.H y = none) → Q .non v.H
theorem word_ok : ∀ k, PyData.strOk (wordK k) = true := by intro k; cases k <;> decide +kernel
theorem can_specs : ∀ S : List Sim, (∀ e ∈ S, PyData.strOk e.n = true ∧ PyData.strOk e.p = true) → PyData.canLayAll0 (S.map specD) = true
  | [], _ => by simp [PyData.canLayAll0]
  | e :: r, h => by
    have h1 := h e (by simp)
    simp [specD, PyData.canLayAll0, PyData.canLay0, can_specs r fun x hx => h x (List.mem_cons_of_mem _ hx), h1.1, h1.2, word_ok]
theorem dep_specs : ∀ S : List Sim, PyData.depthAll (S.map specD) ≤ 2
  | [] => by simp [PyData.depthAll]
  | e :: r => by
    have := dep_specs r
    simp only [List.map_cons, PyData.depthAll, specD, PyData.depth]
    omega
theorem SpecOk.str {e : Sim} {T : Tabs} (h : SpecOk e T) : PyData.strOk e.n = true ∧ PyData.strOk e.p = true := by
  refine ⟨h.n.tx.ok, ?_⟩
  by_cases c : placed e.k
  · exact (h.pl c).1.tx.ok
  · rw [(h.np c).1]; decide +kernel
theorem shaped_specs {S : List Sim} (h : ∀ e ∈ S, PyData.strOk e.n = true ∧ PyData.strOk e.p = true) : SeqAt.shaped (.list (S.map specD)) = true := by
  have h1 := dep_specs S
  have h2 : PyData.depth (.list (S.map specD)) ≤ 64 := by simp only [PyData.depth]; omega
  show (PyData.canLay0 (.list (S.map specD)) && decide (PyData.depth (.list (S.map specD)) ≤ 64)) = true
  rw [Bool.and_eq_true]
  exact ⟨by simp only [PyData.canLay0]; exact can_specs S h, decide_eq_true h2⟩
/-- all that a law keeps is shaped -/
theorem Lk.shS {zs : List Str} {L : LogM} {M : KeptM} {g : Nat} (h : Lk zs L M g) : SeqAt.shaped (.list (M.S.map specD)) = true := shaped_specs fun e he => (h.ok e he).str
theorem getT_putT {α : Type} {T : List (Str × α)} {z : Str} {r : α} : getT (putT T z r) z = some r := by
  unfold putT
  by_cases c : (getT T z).isSome = true
  · rw [if_pos c]
    induction T with
    | nil => cases c
    | cons p T ih =>
      rw [List.map_cons]
      unfold getT at c ih ⊢
      by_cases d : p.1 = z
      · rw [if_pos d, List.find?_cons_of_pos (by simp [d])]
        rfl
      · rw [List.find?_cons_of_neg (by simp [d])] at c
        rw [if_neg d, List.find?_cons_of_neg (by simp [d])]
        exact ih c
  · rw [if_neg c]
    have h : getT T z = none := by cases g : getT T z with
      | none => rfl
      | some R => rw [g] at c; exact absurd rfl c
    unfold getT at h ⊢
    rw [Option.map_eq_none_iff] at h
    rw [List.find?_append, h]
    simp
end G
set_option linter.all false
set_option maxRecDepth 100000
namespace G
open PySem L2 TL PyProof.Rows
/-- two things, the one at j ahead -/
def sw {α : Type} (j : Int) (x y : α) : List α := if j = 0 then [x, y] else [y, x]
section
variable {α : Type} {j : Int} {x y z : α}
theorem sw_at (h0 : 0 ≤ j) (h1 : j < 2) : atI (sw j x y) j = some x := by
  rcases (show j = 0 ∨ j = 1 by omega) with rfl | rfl <;> rfl
theorem sw_set (h0 : 0 ≤ j) (h1 : j < 2) : ∃ m, ixN (sw j x y).length (1 - j) = some m ∧ (sw j x y).set m z = sw j x z := by
  rcases (show j = 0 ∨ j = 1 by omega) with rfl | rfl
  · exact ⟨1, rfl, rfl⟩
  · exact ⟨0, rfl, rfl⟩
theorem sw_turn {i : Int} (h0 : 0 ≤ j) (h1 : j < 2) (g0 : 0 ≤ i) (g1 : i < 2) (h : i ≠ j) : sw j x y = sw i y x := by
  rcases (show j = 0 ∨ j = 1 by omega) with rfl | rfl <;> rcases (show i = 0 ∨ i = 1 by omega) with rfl | rfl <;> first | exact absurd rfl h | rfl
end
/-- two logs and what is kept of them; lp, kp the lists in which they stand -/
structure Duo (K : PySem.W.Frag) (ec : EC) (CL CT : Addr) (zs : List Str) (w : Wd) (g : Nat) (lp kp : Addr) (j : Int) (a b c d : V) (L1 L2 : LogM) (M1 M2 : KeptM) (c1 c2 d1 d2 : Addr → Prop) : Prop where
  ne : lp ≠ kp
  ol : Own w lp (.lst (sw j a c))
  ok : Own w kp (.lst (sw j b d))
  p1 : Pair K ec CL CT zs w a b g L1 M1 c1 d1
  p2 : Pair K ec CL CT zs w c d g L2 M2 c2 d2
  dj : ∀ y, c1 y ∨ d1 y → ¬ (c2 y ∨ d2 y)
  nl : ¬ (c1 lp ∨ d1 lp) ∧ ¬ (c2 lp ∨ d2 lp)
  nk : ¬ (c1 kp ∨ d1 kp) ∧ ¬ (c2 kp ∨ d2 kp)
section
variable {K : PySem.W.Frag} {ec : EC} {CL CT : Addr} {zs : List Str} {w u : Wd} {g : Nat} {lp kp : Addr} {j : Int} {a b c d : V} {L1 L2 : LogM} {M1 M2 : KeptM} {c1 c2 d1 d2 m : Addr → Prop}
theorem Duo.go0 (h : Duo K ec CL CT zs w g lp kp j a b c d L1 L2 M1 M2 c1 c2 d1 d2) (e : Ext Non w u) : Duo K ec CL CT zs u g lp kp j a b c d L1 L2 M1 M2 c1 c2 d1 d2 :=
  ⟨h.ne, h.ol.ext e fun z => z, h.ok.ext e fun z => z, h.p1.go0 e, h.p2.go0 e, h.dj, h.nl, h.nk⟩
/-- a cell that is new is none of theirs -/
theorem Duo.new {p : Addr} (h : Duo K ec CL CT zs w g lp kp j a b c d L1 L2 M1 M2 c1 c2 d1 d2) (n : w.H p = none) : p ≠ lp ∧ p ≠ kp ∧ ¬ c1 p ∧ ¬ d1 p ∧ ¬ c2 p ∧ ¬ d2 p := by
  have k : ∀ o, Own w p o → False := fun o ho => by rw [ho.h] at n; cases n
  exact ⟨fun e => k _ (e ▸ h.ol), fun e => k _ (e ▸ h.ok), fun z => (h.p1.l.cell z).elim k, fun z => (h.p1.k.cell z).elim k, fun z => (h.p2.l.cell z).elim k, fun z => (h.p2.k.cell z).elim k⟩
theorem Duo.one {p : Addr} (h : Duo K ec CL CT zs w g lp kp j a b c d L1 L2 M1 M2 c1 c2 d1 d2) (n : p ≠ lp ∧ p ≠ kp ∧ ¬ c1 p ∧ ¬ d1 p ∧ ¬ c2 p ∧ ¬ d2 p) (e : Ext (One p) w u) : Duo K ec CL CT zs u g lp kp j a b c d L1 L2 M1 M2 c1 c2 d1 d2 :=
  ⟨h.ne, h.ol.ext e fun z => n.1 (show lp = p from z).symm, h.ok.ext e fun z => n.2.1 (show kp = p from z).symm, h.p1.one e n.2.2.1 n.2.2.2.1, h.p2.one e n.2.2.2.2.1 n.2.2.2.2.2, h.dj, h.nl, h.nk⟩
/-- a deed on the first of both -/
theorem Duo.deed {p : Addr} {L' : LogM} {M' : KeptM} {c' d' : Addr → Prop} (h : Duo K ec CL CT zs w g lp kp j a b c d L1 L2 M1 M2 c1 c2 d1 d2) (n : p ≠ lp ∧ p ≠ kp ∧ ¬ c1 p ∧ ¬ d1 p ∧ ¬ c2 p ∧ ¬ d2 p) (e : Ext (Tch c1 d1 p) w u)
    (P : Pair K ec CL CT zs u a b (g + 1) L' M' c' d') (hc : ∀ y, c' y → c1 y ∨ w.H y = none) (hd : ∀ y, d' y → d1 y ∨ w.H y = none) : Duo K ec CL CT zs u (g + 1) lp kp j a b c d L' L2 M' M2 c' c2 d' d2 := by
  have n2 : ∀ y, c2 y ∨ d2 y → ¬ Tch c1 d1 p y := fun y hy z => z.elim (fun z => h.dj y (.inl z) hy) fun z => z.elim (fun z => h.dj y (.inr z) hy) fun z => by
    rw [z] at hy
    exact hy.elim n.2.2.2.2.1 n.2.2.2.2.2
  have nl : ¬ Tch c1 d1 p lp := fun z => z.elim (fun z => h.nl.1 (.inl z)) fun z => z.elim (fun z => h.nl.1 (.inr z)) fun z => n.1 z.symm
  have nk : ¬ Tch c1 d1 p kp := fun z => z.elim (fun z => h.nk.1 (.inl z)) fun z => z.elim (fun z => h.nk.1 (.inr z)) fun z => n.2.1 z.symm
  have old : ∀ y, c' y ∨ d' y → (c1 y ∨ d1 y) ∨ w.H y = none := fun y hy => hy.elim (fun z => (hc y z).elim (fun z => .inl (.inl z)) .inr) fun z => (hd y z).elim (fun z => .inl (.inr z)) .inr
  have there : ∀ y, c2 y ∨ d2 y → w.H y ≠ none := fun y hy => by
    obtain ⟨o, ho⟩ : ∃ o, Own w y o := hy.elim (fun z => h.p2.l.cell z) fun z => h.p2.k.cell z
    rw [ho.h]
    exact fun z => by cases z
  exact ⟨h.ne, h.ol.ext e nl, h.ok.ext e nk, P, (h.p2.mono (Nat.le_succ g)).go e (fun y hy => n2 y (.inl hy)) (fun y hy => n2 y (.inr hy)), fun y hy hz => (old y hy).elim (fun z => h.dj y z hz) (there y hz),
    ⟨fun z => (old lp z).elim h.nl.1 fun z => (by rw [h.ol.h] at z; cases z), h.nl.2⟩, ⟨fun z => (old kp z).elim h.nk.1 fun z => (by rw [h.ok.h] at z; cases z), h.nk.2⟩⟩
theorem Duo.sel (h : Duo K ec CL CT zs w g lp kp j a b c d L1 L2 M1 M2 c1 c2 d1 d2) (h0 : 0 ≤ j) (h1 : j < 2) {i : Int} (g0 : 0 ≤ i) (g1 : i < 2) : ∃ x y L M e f, atI (sw j a c) i = some x ∧ atI (sw j b d) i = some y ∧ Pair K ec CL CT zs w x y g L M e f := by
  by_cases e : i = j
  · subst e
    exact ⟨a, b, L1, M1, c1, d1, sw_at h0 h1, sw_at h0 h1, h.p1⟩
  · exact ⟨c, d, L2, M2, c2, d2, by rw [sw_turn h0 h1 g0 g1 e]; exact sw_at g0 g1, by rw [sw_turn h0 h1 g0 g1 e]; exact sw_at g0 g1, h.p2⟩
/-- the other one becomes a copy of the first -/
theorem Duo.copy (h : Duo K ec CL CT zs w g lp kp j a b c d L1 L2 M1 M2 c1 c2 d1 d2) {c' d' : Addr → Prop} {x r : V} (e : Ext (Two lp kp) w u) (ol : Own u lp (.lst (sw j a x))) (ok : Own u kp (.lst (sw j b r))) (hL : LogO K ec CL CT u x L1 c') (hK : KeptO u r M1 d')
    (hc : ∀ y, c' y → w.H y = none) (hd : ∀ y, d' y → w.H y = none) (dj : ∀ y, c' y → ¬ d' y) : Duo K ec CL CT zs u g lp kp j a b x r L1 L1 M1 M1 c1 c' d1 d' := by
  have n1 : ∀ y, c1 y ∨ d1 y → ¬ Two lp kp y := fun y hy z => z.elim (fun z => h.nl.1 (by rw [← z]; exact hy)) fun z => h.nk.1 (by rw [← z]; exact hy)
  have there : ∀ y, c1 y ∨ d1 y → w.H y ≠ none := fun y hy => by
    obtain ⟨o, ho⟩ : ∃ o, Own w y o := hy.elim (fun z => h.p1.l.cell z) fun z => h.p1.k.cell z
    rw [ho.h]
    exact fun z => by cases z
  have new : ∀ y, c' y ∨ d' y → w.H y = none := fun y hy => hy.elim (hc y) (hd y)
  refine ⟨h.ne, ol, ok, h.p1.go e (fun y hy => n1 y (.inl hy)) (fun y hy => n1 y (.inr hy)), ⟨hL, hK, h.p1.lk, dj⟩, fun y hy hz => there y hy (new y hz), ⟨h.nl.1, fun z => ?_⟩, ⟨h.nk.1, fun z => ?_⟩⟩
  · have := new lp z; rw [h.ol.h] at this; cases this
  · have := new kp z; rw [h.ok.h] at this; cases this
/-- the same, all their cells new to w0 -/
def DuoN (K : PySem.W.Frag) (ec : EC) (CL CT : Addr) (zs : List Str) (w0 w : Wd) (g : Nat) (lp kp : Addr) (j : Int) : Prop := ∃ a b c d L1 L2 M1 M2 c1 c2 d1 d2, Duo K ec CL CT zs w g lp kp j a b c d L1 L2 M1 M2 c1 c2 d1 d2 ∧ ∀ y, (c1 y ∨ d1 y) ∨ (c2 y ∨ d2 y) → w0.H y = none
theorem DuoN.turn {w0 : Wd} {i : Int} (h : DuoN K ec CL CT zs w0 w g lp kp j) (h0 : 0 ≤ j) (h1 : j < 2) (g0 : 0 ≤ i) (g1 : i < 2) : DuoN K ec CL CT zs w0 w g lp kp i := by
  obtain ⟨a, b, c, d, L1, L2, M1, M2, c1, c2, d1, d2, h, n⟩ := h
  by_cases e : i = j
  · subst e
    exact ⟨_, _, _, _, _, _, _, _, _, _, _, _, h, n⟩
  · exact ⟨c, d, a, b, L2, L1, M2, M1, c2, c1, d2, d1, ⟨h.ne, sw_turn h0 h1 g0 g1 e ▸ h.ol, sw_turn h0 h1 g0 g1 e ▸ h.ok, h.p2, h.p1, fun y h2 h3 => h.dj y h3 h2, ⟨h.nl.2, h.nl.1⟩, ⟨h.nk.2, h.nk.1⟩⟩, fun y hy => n y hy.symm⟩
theorem Duo.mono {i : Nat} (h : Duo K ec CL CT zs w g lp kp j a b c d L1 L2 M1 M2 c1 c2 d1 d2) (le : g ≤ i) : Duo K ec CL CT zs w i lp kp j a b c d L1 L2 M1 M2 c1 c2 d1 d2 := ⟨h.ne, h.ol, h.ok, h.p1.mono le, h.p2.mono le, h.dj, h.nl, h.nk⟩
theorem DuoN.mono {w0 : Wd} {i : Nat} (h : DuoN K ec CL CT zs w0 w g lp kp j) (le : g ≤ i) : DuoN K ec CL CT zs w0 w i lp kp j := by
  obtain ⟨a, b, c, d, L1, L2, M1, M2, c1, c2, d1, d2, h, n⟩ := h
  exact ⟨_, _, _, _, _, _, _, _, _, _, _, _, h.mono le, n⟩
/-- a cell that is none of theirs -/
def OutD (p lp kp : Addr) (c1 c2 d1 d2 : Addr → Prop) : Prop := p ≠ lp ∧ p ≠ kp ∧ ¬ c1 p ∧ ¬ d1 p ∧ ¬ c2 p ∧ ¬ d2 p
end
end G
set_option Elab.async false
set_option linter.all false
set_option maxRecDepth 100000
set_option maxHeartbeats 4000000
open PySem L2 G TL NumText
local macro_rules | `(tactic| wtm_at "nm") => `(tactic| first
  | exact fun h => h
  | (refine nm_one ?_; wtm_at "ne")
  | (refine nm_two ?_ ?_ <;> wtm_at "ne")
  | (refine nm_thr ?_ ?_ ?_ <;> wtm_at "ne")
  | fail "nm")
local macro_rules | `(tactic| wtm_at "rd0") => `(tactic| first
  | assumption
  | (refine' Rd.go (by assumption) ?nm ?rd; (case nm => wtm_at "nm"); (case rd => wtm_at "rd0"))
  | fail "rd0")
local macro_rules | `(tactic| wtm_at "rd") => `(tactic| first
  | wtm_at "rd0"
  | (refine' Or.inl ?o; (case o => wtm_at "stb"))
  | (refine' Or.inr ?o; (case o => wtm_at "own"))
  | fail "rd")
local macro_rules | `(tactic| wtm_at "ne") => `(tactic| first
  | assumption
  | exact Ne.symm (by assumption)
  | (refine' Own.ne ?o ?n; (case n => assumption); (case o => wtm_at "own"))
  | (refine' Own.ne' ?o ?n; (case n => assumption); (case o => wtm_at "own"))
  | (refine' own_ne ?o1 ?o2 ?d; (case o1 => assumption); (case o2 => assumption); (case d => exact fun z => by cases z))
  | (refine' Rd.ne ?o ?n; (case n => assumption); (case o => wtm_at "rd0"))
  | (refine' Rd.ne' ?o ?n; (case n => assumption); (case o => wtm_at "rd0"))
  | fail "ne")
local macro_rules | `(tactic| wtm_at "own") => `(tactic| first
  | assumption
  | (refine' Own.ext (by assumption) ?nm ?ow; (case nm => wtm_at "nm"); (case ow => wtm_at "own"))
  | fail "own")
local macro_rules | `(tactic| wtm_at "stb") => `(tactic| first
  | assumption
  | (refine' st_go (by assumption) ?st; (case st => wtm_at "stb"))
  | fail "stb")
local macro_rules | `(tactic| wtm_at "rp") => `(tactic| first
  | assumption
  | exact Rp.int _ | exact Rp.str _ | exact Rp.bl _ | exact Rp.non
  | (refine' Rp.tup ?s ?r; (case s => wtm_at "stb"); (case r => wtm_at "rpa"))
  | (refine' Rp.lst ?s ?r; (case s => wtm_at "stb"); (case r => wtm_at "rpa"))
  | (refine' Rp.dct ?s; (case s => wtm_at "stb"))
  | (refine' Rp.go (by assumption) ?rp; (case rp => wtm_at "rp"))
  | fail "rp")
local macro_rules | `(tactic| wtm_at "rpa") => `(tactic| first
  | assumption
  | exact RpA.nil
  | (refine' RpA.append ?r1 ?r2; (case r1 => wtm_at "rpa"); (case r2 => wtm_at "rpa"))
  | (refine' RpA.cut ?r1 _ _; (case r1 => wtm_at "rpa"))
  | (refine' RpA.reverse ?r1; (case r1 => wtm_at "rpa"))
  | (refine' RpA.cons ?r1 ?r2; (case r1 => wtm_at "rp"); (case r2 => wtm_at "rpa"))
  | (refine' RpA.go (by assumption) ?rp; (case rp => wtm_at "rpa"))
  | fail "rpa")
local macro_rules | `(tactic| wtm_at "sq") => `(tactic| first
  | assumption
  | (refine' SqL.of (Wd.ok _ _ _ ?o); (case o => wtm_at "stb"))
  | (refine' SqL.of (Own.h ?o); (case o => wtm_at "own"))
  | (refine' sq_go (by assumption) ?sq; (case sq => wtm_at "sq"))
  | (refine' SqL.of (Rd.h ?o); (case o => wtm_at "rd0"))
  | fail "sq")
local macro_rules | `(tactic| wtm_at "sqt") => `(tactic| first
  | assumption
  | (refine' sqt_of ?o; (case o => wtm_at "stb"))
  | fail "sqt")
/-- from the world w at hand back to an earlier one: the touched cells are new to it, or may be touched -/
local macro_rules | `(tactic| wtm_at "fr") => `(tactic| first
  | assumption
  | (refine' Ext.back (by assumption) ?fr; (case fr => wtm_at "fr"))
  | fail "fr")
local macro_rules | `(tactic| wtm_at "tch") => `(tactic| first
  | exact fun _ z => z.elim
  | (refine tch_one ?t; (first | (refine Or.inr ?_; first | rfl | exact Or.inl rfl | exact Or.inr rfl | exact Or.inr (Or.inl rfl) | exact Or.inr (Or.inr rfl)) | (refine Or.inl ?_; wtm_at "fr")))
  | (refine tch_two ?t1 ?t2 <;> (first | (refine Or.inr ?_; first | rfl | exact Or.inl rfl | exact Or.inr rfl | exact Or.inr (Or.inl rfl) | exact Or.inr (Or.inr rfl)) | (refine Or.inl ?_; wtm_at "fr")))
  | (refine tch_thr ?t1 ?t2 ?t3 <;> (first | (refine Or.inr ?_; first | rfl | exact Or.inl rfl | exact Or.inr (Or.inl rfl) | exact Or.inr (Or.inr rfl)) | (refine Or.inl ?_; wtm_at "fr")))
  | fail "tch")
local macro_rules | `(tactic| wtm_at "ch") => `(tactic| first
  | exact Ext.refl _ _
  | assumption
  | (refine' Ext.step ?a ?b ?t; (case b => assumption); (case a => wtm_at "ch"); (case t => wtm_at "tch"))
  | fail "ch")
local macro_rules | `(tactic| wtm_at "lb") => `(tactic| first
  | (refine' len_app ?a ?b; (case a => wtm_at "lb"); (case b => wtm_at "lb"))
  | (refine' len_cut ?a; (case a => wtm_at "lb"))
  | (refine' len_rev ?a; (case a => wtm_at "lb"))
  | exact Nat.le_refl _
  | fail "lb")
local macro_rules | `(tactic| wtm_at "ar") => `(tactic| first
  | assumption | omega | (simp only [List.length_append, List.length_cons, List.length_nil, List.length_map, List.length_reverse, List.length_replicate, sizeLine_eq]; omega)
  | (refine' z_cat ?h1 ?h2 ?k; (case h1 => wtm_at "lb"); (case h2 => wtm_at "lb"); (case k => (simp only [List.length_append, List.length_cons, List.length_nil, List.length_map, List.length_reverse, sizeLine_eq]; omega)))
  | fail "ar")
local macro_rules | `(tactic| wtm_at "go1") => `(tactic| first
  | with_reducible refine s_seq ?_
  | with_reducible refine s_asg ?_
  | ((with_reducible refine' s_gname ?e ?k); (case e => first | (simp only [List.set_cons_succ, List.set_cons_zero]; exact rfl) | exact rfl))
  | ((with_reducible refine' s_var ?e ?k); (case e => exact rfl))
  | with_reducible refine s_c ?_
  | with_reducible refine s_op ?_
  | with_reducible refine s_CB ?_
  | with_reducible refine s_cons ?_
  | with_reducible refine s_nil ?_
  | with_reducible refine s_ifS ?_
  | with_reducible refine s_test ?_
  | with_reducible refine s_B ?_
  | with_reducible refine s_bl ?_
  | with_reducible refine s_and ?_
  | with_reducible refine s_or ?_
  | with_reducible refine s_not ?_
  | with_reducible refine s_andV ?_
  | with_reducible refine s_orV ?_
  | with_reducible refine s_notV ?_
  | with_reducible refine s_ret ?_
  | with_reducible refine s_retN ?_
  | with_reducible refine s_next ?_
  | with_reducible refine s_drop ?_
  | with_reducible refine s_call ?_
  | with_reducible refine s_add ?_
  | with_reducible refine s_sub ?_
  | ((with_reducible refine s_mul ?h ?k); (case h => wtm_at "mul"))
  | ((with_reducible refine s_div ?h ?k); (case h => wtm_at "div"))
  | ((with_reducible refine s_mod ?h ?k); (case h => wtm_at "ar"))
  | ((with_reducible refine' s_powN ?h ?e ?k); (case h => exact ⟨by decide, by decide, by decide⟩); (case e => first | exact p10_8 | exact p10_18 | exact p10_30 | exact p10_22 | exact p10_6 | exact p10_9 | exact p10_10 | exact p10_12 | exact p10_14 | exact p10_15 | exact p10_7 | exact p10_25 | exact p10_27 | exact p10_29 | exact p10_11 | exact p10_1 | exact p10_2 | exact p10_3 | exact p10_4 | exact p10_5 | exact p10_13 | exact p10_16 | exact p10_17 | exact p10_19 | exact p10_20 | exact p10_21 | exact p10_23 | exact p10_24 | exact p10_26 | exact p10_28 | exact p10_31))
  | with_reducible refine s_lt ?_
  | with_reducible refine s_le ?_
  | with_reducible refine s_gt ?_
  | with_reducible refine s_ge ?_
  | with_reducible refine s_eqI ?_
  | with_reducible refine s_eqS ?_
  | with_reducible refine s_eqB ?_
  | with_reducible refine s_neI ?_
  | with_reducible refine s_neS ?_
  | with_reducible refine s_neBs ?_
  | with_reducible refine s_isB ?_
  | with_reducible refine s_notB ?_
  | ((with_reducible refine' s_ninS2 ?r ?k); (case r => wtm_at "stb"))
  | with_reducible refine s_iEnum ?_
  | ((with_reducible refine' s_isiC ?h ?c ?i ?k); (case h => wtm_at "hh"); (case c => assumption); (case i => assumption))
  | with_reducible refine s_isNN ?_
  | with_reducible refine s_isIN ?_
  | with_reducible refine s_isRN ?_
  | with_reducible refine s_isSN ?_
  | with_reducible refine s_notNN ?_
  | with_reducible refine s_notIN ?_
  | with_reducible refine s_notRN ?_
  | with_reducible refine s_notSN ?_
  | with_reducible refine s_isN ?_
  | with_reducible refine s_notN ?_
  | with_reducible refine s_max ?_
  | ((with_reducible refine' s_str ?h ?k); (case h => exact log_small (by omega) (by omega)))
  | with_reducible refine s_min ?_
  | with_reducible refine s_abs ?_
  | with_reducible refine s_inti ?_
  | with_reducible refine s_intt ?_
  | with_reducible refine s_intf ?_
  | with_reducible refine s_intb ?_
  | with_reducible refine s_un ?_
  | with_reducible refine s_neg ?_
  | with_reducible refine t_tup ?_
  | with_reducible refine t_lst ?_
  | ((with_reducible refine' t_newT ?h ?k); (case h => wtm_at "len"); (intro _p _v _e _n _s))
  | ((with_reducible refine' t_newL ?h ?k); (case h => wtm_at "len"); (intro _p _v _e _n _o))
  | with_reducible refine s_chain ?_
  | with_reducible refine s_ifE ?_
  | with_reducible refine s_sl ?_
  | with_reducible refine s_nopart ?_
  | with_reducible refine s_part ?_
  | with_reducible refine s_int ?_
  | with_reducible refine s_dget ?_
  | with_reducible refine s_dput ?_
  | with_reducible refine s_BM ?_
  | with_reducible refine s_BM0 ?_
  | with_reducible refine s_for ?_
  | with_reducible refine s_iList ?_
  | with_reducible refine s_iTup ?_
  | with_reducible refine s_iRng1 ?_
  | with_reducible refine s_iStr ?_
  | with_reducible refine s_Lc ?_
  | with_reducible refine s_pr1 ?_
  | with_reducible refine s_pr2 ?_
  | with_reducible refine s_pr3 ?_
  | with_reducible refine s_pr4 ?_
  | with_reducible refine s_pr0 ?_
  | with_reducible refine wds_i ?_
  | wtm_at "isi"
  | ((with_reducible refine' s_lenT ?r ?k); (case r => wtm_at "stb"))
  | ((with_reducible refine' s_lenL ?r ?k); (case r => wtm_at "stb"))
  | ((with_reducible refine' s_lenO ?r ?k); (case r => wtm_at "own"))
  | ((with_reducible refine' s_ixT ?r ?e ?k); (case r => wtm_at "stb"); (case e => exact rfl))
  | ((with_reducible refine' s_ixL ?r ?e ?k); (case r => wtm_at "stb"); (case e => exact rfl))
  | ((with_reducible refine' s_ixO ?r ?e ?k); (case r => wtm_at "own"); (case e => exact rfl))
  | ((with_reducible refine' s_ixO ?r ?e ?k); (case r => wtm_at "own"); (case e => exact atI_snoc))
  | ((with_reducible refine' s_ixO ?r ?e ?k); (case r => wtm_at "own"); (case e => exact atI_back (by simp)))
  | ((with_reducible refine' s_gtup ?r ?e ?k); (case r => wtm_at "stb"); (case e => exact rfl))
  | ((with_reducible refine' s_lenR ?r ?k); (case r => wtm_at "rd0"))
  | ((with_reducible refine' s_ixA ?r ?e ?k); (case r => wtm_at "rd0"); (case e => assumption))
  | ((with_reducible refine' s_augA ?e ?e2 ?k); (case e => exact rfl); (case e2 => (simp only [List.set_cons_succ, List.set_cons_zero]; exact rfl)))
  | with_reducible refine s_whN ?_
  | ((with_reducible refine' s_fnv ?k); (intro _f _hf))
  | ((with_reducible refine' s_callH ?e ?h ?k); (case e => exact rfl); (case h => assumption))
  | with_reducible refine s_pn1 ?_
  | ((with_reducible refine' s_lenZ ?h ?k); (case h => wtm_at "txz"))
  | ((with_reducible refine' s_addZ ?h ?k); (case h => wtm_at "txs"))
  | ((with_reducible refine' s_slZ ?h ?k); (case h => wtm_at "txz"))
  | with_reducible refine s_inZ ?_
  | with_reducible refine s_ninZ ?_
  | with_reducible refine s_leZ ?_
  | with_reducible refine s_fld ?_
  | ((with_reducible refine' s_rfld ?h ?c ?n ?l ?k); (case h => wtm_at "hh"); (case c => assumption); (case n => assumption); (case l => wtm_at "lkp"))
  | with_reducible refine s_sfld ?_
  | ((with_reducible refine' s_rsfl ?h ?c ?n ?z ?e ?k); (case h => wtm_at "own"); (case c => assumption); (case n => assumption); (case z => (simp only [List.length_cons, List.length_nil]; try omega)); (case e => wtm_at "pf"); (intro _v _e _o))
  | with_reducible refine s_meth ?_
  | ((with_reducible refine' s_rmeth ?h ?l ?k); (case h => wtm_at "hh"); (case l => wtm_at "lkp"))
  | with_reducible refine s_make ?_
  | with_reducible refine s_pm1 ?_
  | with_reducible refine s_pm2 ?_
  | with_reducible refine s_pm3 ?_
  | ((with_reducible refine' s_isiT2 ?s ?h ?e1 ?e2 ?k); (case s => wtm_at "stb"); (case h => wtm_at "rp"); (case e1 => first | exact isT_list _ | exact isT_tup _); (case e2 => first | exact isT_list _ | exact isT_tup _))
  | with_reducible refine s_CKw ?_
  | with_reducible refine s_iRev ?_
  | with_reducible refine s_iZip ?_
  | ((with_reducible refine' s_iRevK ?h ?k); (case h => wtm_at "hh"))
  | ((with_reducible refine' s_ins0 ?r ?z ?k); (case r => wtm_at "own"); (case z => wtm_at "ar"); (intro _v _e _o))
  | ((with_reducible refine' s_pop ?r ?k); (case r => wtm_at "own"); (intro _v _e _o))
  | ((with_reducible refine' s_setB ?r ?k); (case r => wtm_at "own"); (intro _v _e _o))
  | with_reducible refine s_gcons ?_
  | with_reducible refine s_gnil ?_
  | with_reducible refine s_gsub ?_
  | with_reducible refine t_rev ?_
  | ((with_reducible refine' s_ty ?r ?k); (case r => wtm_at "own"))
  | with_reducible refine s_tyS ?_
  | with_reducible refine s_m1 ?_
  | with_reducible refine s_isS ?_
  | ((with_reducible refine' s_app ?r ?z ?k); (case r => wtm_at "own"); (case z => wtm_at "ar"); (intro _v _e _o))
  | ((with_reducible refine' s_clear ?r ?k); (case r => wtm_at "own"); (intro _v _e _o))
  | ((with_reducible refine' s_reverse ?r ?k); (case r => wtm_at "own"); (intro _v _e _o))
  | ((with_reducible refine' s_divmod ?r ?k); (case r => exact ⟨by decide, by decide⟩); (intro _p _v _e _n _s))
  | ((with_reducible refine' s_allO ?r ?k); (case r => wtm_at "own"))
  | ((with_reducible refine' s_anyO ?r ?k); (case r => wtm_at "own"))
  | ((with_reducible refine' ⟨_, _, rfl, dgetS ?r ?e, ?k⟩); (case r => wtm_at "own"); (case e => wtm_at "valv"))
  | ((with_reducible refine' s_dputS ?r ?e ?z ?k); (case r => wtm_at "own"); (case e => wtm_at "putv"); (case z => wtm_at "len"); (intro _v _e _o))
  | with_reducible refine t_disp ?_
  | with_reducible refine s_pnil ?_
  | with_reducible refine s_pcons ?_
  | ((with_reducible refine' s_dnew ?k); (intro _p _v _e _n _o))
  | ((with_reducible refine' s_setL ?r ?e ?k); (case r => wtm_at "own"); (case e => exact rfl); (intro _v _e _o))
  | ((refine' ⟨_, rfl, ⟨_, ?r⟩, ?k⟩); (case r => first | wtm_at "sq" | wtm_at "sqt"))
  | ((refine' ⟨_, rfl, ?r1, ?r2, ?k⟩); (case r1 => show (-(2 ^ 62) : Int) ≤ _; omega); (case r2 => show _ < (2 ^ 62 : Int); omega))
  | ((with_reducible refine' s_idxF ?h1 ?h2 ?k); (case h1 => omega); (case h2 => omega))
  | with_reducible refine s_zf2 ?_
  | with_reducible refine s_jn ?_
  | with_reducible refine s_js ?_
  | with_reducible refine s_js0 ?_
  | with_reducible refine s_fmt ?_
  | ((with_reducible refine' s_fmtS ?h ?k); (case h => wtm_at "txz"))
  | ((with_reducible refine' s_fmtI ?h ?k); (case h => exact log_small (by omega) (by omega)))
  | ((with_reducible refine' s_jsp ?h ?k); (case h => wtm_at "txz"))
  | ((with_reducible refine' s_split ?h1 ?h2 ?k); (case h1 => decide +kernel); (case h2 => wtm_at "txx"); (intro _p _v _e _n _s))
  | with_reducible refine ite_tt ?_
  | with_reducible refine ite_ff ?_
  | with_reducible refine ite_nr ?_
  | with_reducible refine ite_nt ?_
  | with_reducible refine ite_nf ?_
  | fail "go1")
local macro_rules | `(tactic| wtm_at "tx") => `(tactic| first
  | assumption
  | (refine' Tx.app ?x ?y; (case x => wtm_at "tx"); (case y => wtm_at "tx"))
  | (refine' Tx.cut ?x _ _; (case x => wtm_at "tx"))
  | (refine' Tx.one ?x; (case x => first | assumption | omega))
  | exact tx_int (by omega)
  | exact Tx.litN (n := 1) (by decide +kernel) (by decide +kernel)
  | exact Tx.litN (n := 8) (by decide +kernel) (by decide +kernel)
  | exact Tx.litN (n := 16) (by decide +kernel) (by decide +kernel)
  | fail "tx")
local macro_rules | `(tactic| wtm_at "txx") => `(tactic| (refine' Tx.z2 ?h ?k; (case h => wtm_at "tx"); (case k => first | decide | omega)))
local macro_rules | `(tactic| wtm_at "txz") => `(tactic| (refine' Tx.sz ?h ?k; (case h => wtm_at "tx"); (case k => first | decide | omega)))
local macro_rules | `(tactic| wtm_at "txs") => `(tactic| (refine' Tx.sum ?h ?g ?k; (case h => wtm_at "tx"); (case g => wtm_at "tx"); (case k => first | decide | omega)))
local macro_rules | `(tactic| wtm_at "lkp") => `(tactic| first
  | exact lk_hd
  | exact lk_nil
  | (refine' lk_tl ?h ?t; (case h => decide +kernel); (case t => wtm_at "lkp"))
  | fail "lkp")
local macro_rules | `(tactic| wtm_at "pf") => `(tactic| first
  | exact pf_nil
  | exact pf_hd
  | (refine' pf_tl ?h ?t; (case h => decide +kernel); (case t => wtm_at "pf"))
  | fail "pf")
local macro_rules | `(tactic| wtm_at "valv") => `(tactic| first
  | exact valS_pos
  | exact valS_nil
  | (refine' valS_neg ?h ?t; (case h => decide +kernel); (case t => wtm_at "valv"))
  | fail "valv")
local macro_rules | `(tactic| wtm_at "putv") => `(tactic| first
  | exact putK_nil
  | (refine' putS_pos ?h; (case h => wtm_at "valv"))
  | (refine' putS_neg ?h ?t; (case h => decide +kernel); (case t => wtm_at "putv"))
  | fail "putv")
local macro_rules | `(tactic| wtm_at "len") => `(tactic| (simp only [List.length, sizeLine_eq]; omega))
local macro_rules | `(tactic| wtm_at "kb") => `(tactic| first
  | exact kb_NoneType_int
  | exact kb_NoneType_bool
  | exact kb_NoneType_str
  | exact kb_NoneType_list
  | exact kb_NoneType_tuple
  | exact kb_NoneType_dict
  | exact kb_bool_int
  | exact kb_bool_bool
  | exact kb_bool_str
  | exact kb_bool_list
  | exact kb_bool_tuple
  | exact kb_bool_dict
  | exact kb_int_int
  | exact kb_int_bool
  | exact kb_int_str
  | exact kb_int_list
  | exact kb_int_tuple
  | exact kb_int_dict
  | exact kb_str_int
  | exact kb_str_bool
  | exact kb_str_str
  | exact kb_str_list
  | exact kb_str_tuple
  | exact kb_str_dict
  | exact kb_list_int
  | exact kb_list_bool
  | exact kb_list_str
  | exact kb_list_list
  | exact kb_list_tuple
  | exact kb_list_dict
  | exact kb_tuple_int
  | exact kb_tuple_bool
  | exact kb_tuple_str
  | exact kb_tuple_list
  | exact kb_tuple_tuple
  | exact kb_tuple_dict
  | exact kb_dict_int
  | exact kb_dict_bool
  | exact kb_dict_str
  | exact kb_dict_list
  | exact kb_dict_tuple
  | exact kb_dict_dict
  | fail "kb")
local macro_rules | `(tactic| wtm_at "isi") => `(tactic| first
  | ((with_reducible refine' si_int ?e ?k); (case e => wtm_at "kb"))
  | ((with_reducible refine' si_bl ?e ?k); (case e => wtm_at "kb"))
  | ((with_reducible refine' si_str ?e ?k); (case e => wtm_at "kb"))
  | ((with_reducible refine' si_non ?e ?k); (case e => wtm_at "kb"))
  | ((with_reducible refine' sd_int ?r ?k); (case r => wtm_at "rp"))
  | ((with_reducible refine' sd_bool ?r ?k); (case r => wtm_at "rp"))
  | ((with_reducible refine' sd_str ?r ?k); (case r => wtm_at "rp"))
  | ((with_reducible refine' sd_list ?r ?k); (case r => wtm_at "rp"))
  | ((with_reducible refine' sd_tuple ?r ?k); (case r => wtm_at "rp"))
  | ((with_reducible refine' sd_dict ?r ?k); (case r => wtm_at "rp"))
  | ((with_reducible refine' si_lst ?r ?e ?k); (case r => wtm_at "stb"); (case e => wtm_at "kb"))
  | ((with_reducible refine' si_tup ?r ?e ?k); (case r => wtm_at "stb"); (case e => wtm_at "kb"))
  | ((with_reducible refine' si_own ?r ?e ?k); (case r => wtm_at "own"); (case e => wtm_at "kb"))
  | ((with_reducible refine' si_rd ?r ?e ?k); (case r => wtm_at "rd0"); (case e => wtm_at "kb"))
  | fail "isi")
local macro_rules | `(tactic| wtm_at "mul") => `(tactic| first
  | exact .inl (.inl ⟨by decide, by decide⟩) | exact .inl (.inr ⟨by decide, by decide⟩)
  | exact .inl (.inl ⟨by omega, by omega⟩) | exact .inl (.inr ⟨by omega, by omega⟩)
  | fail "mul")
local macro_rules | `(tactic| wtm_at "div") => `(tactic| first
  | exact ⟨by decide, by decide⟩ | exact divW (by omega) (by omega)
  | fail "div")
local macro_rules | `(tactic| wtm_at "hh") => `(tactic| first
  | (refine' Wd.ok _ _ _ ?o; (case o => wtm_at "stb"))
  | (refine' Own.h ?o; (case o => wtm_at "own"))
  | (refine' Rd.h ?o; (case o => wtm_at "rd0"))
  | assumption
  | fail "hh")
local macro_rules | `(tactic| wtm_at "sqs") => `(tactic| first
  | (refine' Or.inl ?o; (case o => wtm_at "sq"))
  | (refine' Or.inr ?o; (case o => wtm_at "sqt"))
  | fail "sqs")
/-- as go1, new lists standing for good -/
local macro_rules | `(tactic| wtm_at "gs1") => `(tactic| first
  | ((with_reducible refine' t_disp0 ?k); (intro _p _v _e _n _s))
  | ((with_reducible refine' s_dnewS ?k); (intro _p _v _e _n _s))
  | ((with_reducible refine' t_newLS ?h ?k); (case h => wtm_at "len"); (intro _p _v _e _n _s))
  | ((with_reducible refine' s_catS ?h1 ?h2 ?z ?k); (case h1 => wtm_at "hh"); (case h2 => wtm_at "hh"); (case z => wtm_at "ar"); (intro _p _v _e _n _s))
  | ((with_reducible refine' s_slS ?h ?k); (case h => wtm_at "sq"); (intro _p _v _e _n _s))
  | ((with_reducible refine' t_revS ?h ?k); (case h => wtm_at "sq"); (intro _p _v _e _n _s))
  | ((with_reducible refine' s_listS ?h ?k); (case h => wtm_at "sqs"); (intro _p _v _e _n _s))
  | ((with_reducible refine' s_rep1 ?h ?c ?k); (case h => wtm_at "hh"); (case c => (simp only [List.length_cons, List.length_nil, sizeLine_eq]; decide)); (intro _p _v _e _n _s))
  | ((with_reducible refine' s_repN ?h ?h0 ?h1 ?k); (case h => wtm_at "hh"); (case h0 => decide); (case h1 => decide); (intro _p _v _e _n _s))
  | ((with_reducible refine' s_repM ?h ?h0 ?h1 ?c ?k); (case h => wtm_at "hh"); (case h0 => decide); (case h1 => decide); (case c => (simp only [List.length_cons, List.length_nil, sizeLine_eq]; decide)); (intro _p _v _ys _e _n _s _l _q; simp only [List.length_cons, List.length_nil] at _l))
  | ((with_reducible refine' s_rep0 ?h ?k); (case h => wtm_at "hh"); (intro _p _v _e _n _s))
  | ((with_reducible refine' s_tupleS ?h ?k); (case h => wtm_at "sq"); (intro _p _v _e _n _s))
  | wtm_at "go1"
  | fail "gs1")
/-- an item at a place that is not written: its way told by membership -/
local macro_rules | `(tactic| wtm_at "ixm") => `(tactic| first
  | ((with_reducible refine' s_ixOm ?h ?h0 ?h1 ?k); (case h => wtm_at "own"); (case h0 => omega); (case h1 => first | omega | (simp only [List.length]; omega) | (simp only [List.length_append, List.length_cons, List.length_nil]; omega)))
  | ((with_reducible refine' s_ixSm ?h ?h0 ?h1 ?k); (case h => wtm_at "stb"); (case h0 => omega); (case h1 => first | omega | (simp only [List.length]; omega) | (simp only [List.length_append, List.length_cons, List.length_nil]; omega)))
  | ((with_reducible refine' s_ixTm ?h ?h0 ?h1 ?k); (case h => wtm_at "stb"); (case h0 => omega); (case h1 => first | omega | (simp only [List.length]; omega) | (simp only [List.length_append, List.length_cons, List.length_nil]; omega)))
  | fail "ixm")
local macro_rules | `(tactic| wtm_at "gs") => `(tactic| repeat wtm_at "gs1")
local macro_rules | `(tactic| wtm_at "go") => `(tactic| repeat wtm_at "go1")
/-- the same, never looking into a decided test -/
local macro_rules | `(tactic| wtm_at "gol") => `(tactic| repeat ((fail_if_success (with_reducible refine ite_d ?_ ?_)); wtm_at "go1"))
local macro_rules | `(tactic| wtm_at "gsl") => `(tactic| repeat ((fail_if_success (with_reducible refine ite_d ?_ ?_)); wtm_at "gs1"))
/-- the same, up to the next if -/
local macro_rules | `(tactic| wtm_at "goi") => `(tactic| repeat ((fail_if_success (with_reducible refine s_ifS ?_)); wtm_at "go1"))
local macro_rules | `(tactic| wtm_at "gsi") => `(tactic| repeat ((fail_if_success (with_reducible refine s_ifS ?_)); wtm_at "gs1"))
namespace L
structure Txt (K : PySem.W.Frag) (mg : Str → Option Value) (C_Entry C_Within C_At C_Between C_Table C_Read C_Log C_LogError C_NoEntry C_NoMoment C_NoName C_NoPlace C_NoReading : Addr) : Prop where
  g_Entry : mg "Entry" = some (.ref C_Entry)
  cl_Entry : Cls K C_Entry
  na_Entry_high : NoAttr K C_Entry "high"
  na_Entry_keeps : NoAttr K C_Entry "keeps"
  na_Entry_known : NoAttr K C_Entry "known"
  na_Entry_low : NoAttr K C_Entry "low"
  na_Entry_name : NoAttr K C_Entry "name"
  na_Entry_part : NoAttr K C_Entry "part"
  na_Entry_place : NoAttr K C_Entry "place"
  ci_Entry : ClsI K C_Entry
  g_Within : mg "Within" = some (.ref C_Within)
  cl_Within : Cls K C_Within
  na_Within_high : NoAttr K C_Within "high"
  na_Within_keeps : NoAttr K C_Within "keeps"
  na_Within_known : NoAttr K C_Within "known"
  na_Within_low : NoAttr K C_Within "low"
  na_Within_name : NoAttr K C_Within "name"
  na_Within_part : NoAttr K C_Within "part"
  na_Within_place : NoAttr K C_Within "place"
  ci_Within : ClsI K C_Within
  g_At : mg "At" = some (.ref C_At)
  cl_At : Cls K C_At
  na_At_high : NoAttr K C_At "high"
  na_At_keeps : NoAttr K C_At "keeps"
  na_At_known : NoAttr K C_At "known"
  na_At_low : NoAttr K C_At "low"
  na_At_name : NoAttr K C_At "name"
  na_At_part : NoAttr K C_At "part"
  na_At_place : NoAttr K C_At "place"
  ci_At : ClsI K C_At
  g_Between : mg "Between" = some (.ref C_Between)
  cl_Between : Cls K C_Between
  na_Between_high : NoAttr K C_Between "high"
  na_Between_keeps : NoAttr K C_Between "keeps"
  na_Between_known : NoAttr K C_Between "known"
  na_Between_low : NoAttr K C_Between "low"
  na_Between_name : NoAttr K C_Between "name"
  na_Between_part : NoAttr K C_Between "part"
  na_Between_place : NoAttr K C_Between "place"
  ci_Between : ClsI K C_Between
  g_Table : mg "Table" = some (.ref C_Table)
  cl_Table : Cls K C_Table
  na_Table_kept_rows : NoAttr K C_Table "kept_rows"
  g_Read : mg "Read" = some (.ref C_Read)
  cl_Read : Cls K C_Read
  na_Read_high : NoAttr K C_Read "high"
  na_Read_keeps : NoAttr K C_Read "keeps"
  na_Read_known : NoAttr K C_Read "known"
  na_Read_low : NoAttr K C_Read "low"
  na_Read_name : NoAttr K C_Read "name"
  na_Read_part : NoAttr K C_Read "part"
  na_Read_place : NoAttr K C_Read "place"
  ci_Read : ClsI K C_Read
  g_Log : mg "Log" = some (.ref C_Log)
  cl_Log : Cls K C_Log
  na_Log_bound : NoAttr K C_Log "bound"
  na_Log_clocks : NoAttr K C_Log "clocks"
  na_Log_line : NoAttr K C_Log "line"
  na_Log_name : NoAttr K C_Log "name"
  g_LogError : mg "LogError" = some (.ref C_LogError)
  rd_LogError : PySem.W.readsIn K C_LogError (.type "type") = true
  gs_LogError : PySem.W.specialIn K (.ref C_LogError) "__getattribute__" = some (some (.builtin "type.__getattribute__"))
  vv_LogError : PySem.W.findCls K (.ref C_LogError) (.type "type") "__init__" = some (.val (.builtin "ValueError.__init__"))
  g_NoEntry : mg "NoEntry" = some (.ref C_NoEntry)
  oex_NoEntry : OexC K C_NoEntry
  xf_NoEntry : XfC K C_NoEntry
  ec_NoEntry : ExcC K C_NoEntry
  xn_NoEntry : PySem.W.findIn K (.ref C_NoEntry) "found" = some none
  g_NoMoment : mg "NoMoment" = some (.ref C_NoMoment)
  oex_NoMoment : OexC K C_NoMoment
  xf_NoMoment : XfC K C_NoMoment
  ec_NoMoment : ExcC K C_NoMoment
  xn_NoMoment : PySem.W.findIn K (.ref C_NoMoment) "found" = some none
  g_NoName : mg "NoName" = some (.ref C_NoName)
  oex_NoName : OexC K C_NoName
  xf_NoName : XfC K C_NoName
  ec_NoName : ExcC K C_NoName
  xn_NoName : PySem.W.findIn K (.ref C_NoName) "found" = some none
  g_NoPlace : mg "NoPlace" = some (.ref C_NoPlace)
  oex_NoPlace : OexC K C_NoPlace
  xf_NoPlace : XfC K C_NoPlace
  ec_NoPlace : ExcC K C_NoPlace
  xn_NoPlace : PySem.W.findIn K (.ref C_NoPlace) "found" = some none
  g_NoReading : mg "NoReading" = some (.ref C_NoReading)
  oex_NoReading : OexC K C_NoReading
  xf_NoReading : XfC K C_NoReading
  ec_NoReading : ExcC K C_NoReading
  xn_NoReading : PySem.W.findIn K (.ref C_NoReading) "found" = some none
  rel_NoEntry_NoEntry : PySem.W.kitOne K (.ref C_NoEntry) (.ref C_NoEntry) = some true
  exm_NoEntry_NoEntry : PySem.W.exmOne K (.ref C_NoEntry) (.ref C_NoEntry) = some true
  n_all : mg "all" = none
  n_bool : mg "bool" = none
  n_dict : mg "dict" = none
  n_enumerate : mg "enumerate" = none
  n_int : mg "int" = none
  n_isinstance : mg "isinstance" = none
  n_len : mg "len" = none
  n_list : mg "list" = none
  n_max : mg "max" = none
  n_min : mg "min" = none
  n_range : mg "range" = none
  n_sorted : mg "sorted" = none
  n_str : mg "str" = none
  n_tuple : mg "tuple" = none
  n_zip : mg "zip" = none
  c_FARTHEST_READING : ∃ u, mg "FARTHEST_READING" = some u ∧ RelV (.int 10000000000) u
  c_LAST : ∃ u, mg "LAST" = some u ∧ RelV (.int 1000000000) u
  c_LEAST_MINUTES : ∃ u, mg "LEAST_MINUTES" = some u ∧ RelV (.int (-2000000000)) u
  c_LETTERS : ∃ u, mg "LETTERS" = some u ∧ RelV (.str (Str.ofString "abcdefghijklmnopqrstuvwxyz")) u
  c_LONGEST_NAME : ∃ u, mg "LONGEST_NAME" = some u ∧ RelV (.int 8) u
  c_MOST_BONDS : ∃ u, mg "MOST_BONDS" = some u ∧ RelV (.int 100) u
  c_MOST_ENTRIES : ∃ u, mg "MOST_ENTRIES" = some u ∧ RelV (.int 60) u
  c_MOST_MINUTES : ∃ u, mg "MOST_MINUTES" = some u ∧ RelV (.int 2000000001) u
  c_MOST_PLACES : ∃ u, mg "MOST_PLACES" = some u ∧ RelV (.int 6) u
  c_MOST_ROWS : ∃ u, mg "MOST_ROWS" = some u ∧ RelV (.int 21) u
  c_MOST_SHIFT : ∃ u, mg "MOST_SHIFT" = some u ∧ RelV (.int 2880) u
  kk_Entry_Within : PySem.W.kitOne K (.ref C_Entry) (.ref C_Within) = some false
  kk_Entry_At : PySem.W.kitOne K (.ref C_Entry) (.ref C_At) = some false
  kk_Entry_Between : PySem.W.kitOne K (.ref C_Entry) (.ref C_Between) = some false
  kk_Entry_Read : PySem.W.kitOne K (.ref C_Entry) (.ref C_Read) = some false
  kk_Within_Entry : PySem.W.kitOne K (.ref C_Within) (.ref C_Entry) = some true
  kk_Within_At : PySem.W.kitOne K (.ref C_Within) (.ref C_At) = some false
  kk_Within_Between : PySem.W.kitOne K (.ref C_Within) (.ref C_Between) = some false
  kk_Within_Read : PySem.W.kitOne K (.ref C_Within) (.ref C_Read) = some false
  kk_At_Entry : PySem.W.kitOne K (.ref C_At) (.ref C_Entry) = some true
  kk_At_Within : PySem.W.kitOne K (.ref C_At) (.ref C_Within) = some true
  kk_At_Between : PySem.W.kitOne K (.ref C_At) (.ref C_Between) = some false
  kk_At_Read : PySem.W.kitOne K (.ref C_At) (.ref C_Read) = some false
  kk_Between_Entry : PySem.W.kitOne K (.ref C_Between) (.ref C_Entry) = some true
  kk_Between_Within : PySem.W.kitOne K (.ref C_Between) (.ref C_Within) = some false
  kk_Between_At : PySem.W.kitOne K (.ref C_Between) (.ref C_At) = some false
  kk_Between_Read : PySem.W.kitOne K (.ref C_Between) (.ref C_Read) = some false
  kk_Read_Entry : PySem.W.kitOne K (.ref C_Read) (.ref C_Entry) = some true
  kk_Read_Within : PySem.W.kitOne K (.ref C_Read) (.ref C_Within) = some false
  kk_Read_At : PySem.W.kitOne K (.ref C_Read) (.ref C_At) = some false
  kk_Read_Between : PySem.W.kitOne K (.ref C_Read) (.ref C_Between) = some true
theorem ek_T {K : PySem.W.Frag} {mg : Str → Option Value} {C_Entry C_Within C_At C_Between C_Table C_Read C_Log C_LogError C_NoEntry C_NoMoment C_NoName C_NoPlace C_NoReading : Addr} (T : Txt K mg C_Entry C_Within C_At C_Between C_Table C_Read C_Log C_LogError C_NoEntry C_NoMoment C_NoName C_NoPlace C_NoReading) : EK K (EC.mk C_Entry C_Within C_At C_Between C_Read C_Entry C_Entry) := by
  refine ⟨fun k h => ?_, fun a b ha hb => ?_⟩
  · cases k
    · exact ⟨T.cl_Entry, T.ci_Entry, T.na_Entry_name, T.na_Entry_place, T.na_Entry_low, T.na_Entry_high, T.na_Entry_known, T.na_Entry_part, T.na_Entry_keeps⟩
    · exact ⟨T.cl_Within, T.ci_Within, T.na_Within_name, T.na_Within_place, T.na_Within_low, T.na_Within_high, T.na_Within_known, T.na_Within_part, T.na_Within_keeps⟩
    · exact ⟨T.cl_At, T.ci_At, T.na_At_name, T.na_At_place, T.na_At_low, T.na_At_high, T.na_At_known, T.na_At_part, T.na_At_keeps⟩
    · exact ⟨T.cl_Between, T.ci_Between, T.na_Between_name, T.na_Between_place, T.na_Between_low, T.na_Between_high, T.na_Between_known, T.na_Between_part, T.na_Between_keeps⟩
    · exact ⟨T.cl_Read, T.ci_Read, T.na_Read_name, T.na_Read_place, T.na_Read_low, T.na_Read_high, T.na_Read_known, T.na_Read_part, T.na_Read_keeps⟩
    · exact h.elim
    · exact h.elim
  · cases a <;> cases b
    · exact kit_self
    · exact T.kk_Entry_Within
    · exact T.kk_Entry_At
    · exact T.kk_Entry_Between
    · exact T.kk_Entry_Read
    · exact hb.elim
    · exact hb.elim
    · exact T.kk_Within_Entry
    · exact kit_self
    · exact T.kk_Within_At
    · exact T.kk_Within_Between
    · exact T.kk_Within_Read
    · exact hb.elim
    · exact hb.elim
    · exact T.kk_At_Entry
    · exact T.kk_At_Within
    · exact kit_self
    · exact T.kk_At_Between
    · exact T.kk_At_Read
    · exact hb.elim
    · exact hb.elim
    · exact T.kk_Between_Entry
    · exact T.kk_Between_Within
    · exact T.kk_Between_At
    · exact kit_self
    · exact T.kk_Between_Read
    · exact hb.elim
    · exact hb.elim
    · exact T.kk_Read_Entry
    · exact T.kk_Read_Within
    · exact T.kk_Read_At
    · exact T.kk_Read_Between
    · exact kit_self
    · exact hb.elim
    · exact hb.elim
    · exact ha.elim
    · exact ha.elim
    · exact ha.elim
    · exact ha.elim
    · exact ha.elim
    · exact ha.elim
    · exact ha.elim
    · exact ha.elim
    · exact ha.elim
    · exact ha.elim
    · exact ha.elim
    · exact ha.elim
    · exact ha.elim
    · exact ha.elim
section
variable {P : Program} {ww : World} {K : PySem.W.Frag} {mg : Str → Option Value} {base : Heap}
abbrev nm_is_whole : List Str := ["thing", "low", "high"]
theorem sc_is_whole : FnScope nm_is_whole ["thing", "low", "high"] (defScope s_is_whole) := ⟨rfl, rfl, rfl, by decide +kernel, rfl, by decide +kernel, by decide +kernel⟩
theorem st_is_whole (a b c : V) : start nm_is_whole [a, b, c] = [some a, some b, some c] := rfl
def p_is_whole (w : Wd) (a b c : V) (Q : VK) (_ : XK) : Prop := ∃ d, ∃ lo hi : Int, Rp w.S a d ∧ b = .int lo ∧ c = .int hi ∧ ∀ v, Ext Non w v → Q (.bl (wholeB d lo hi)) v.H
theorem ok_is_whole {f : Addr} {fd : FuncData} {C_Entry C_Within C_At C_Between C_Table C_Read C_Log C_LogError C_NoEntry C_NoMoment C_NoName C_NoPlace C_NoReading : Addr} (F : Fun K "is_whole" "is_whole" s_is_whole f fd) (T : Txt K mg C_Entry C_Within C_At C_Between C_Table C_Read C_Log C_LogError C_NoEntry C_NoMoment C_NoName C_NoPlace C_NoReading)  : FnOk P ww K mg base CX0 1 f fd ["thing", "low", "high"] (pr3 (p_is_whole)) := by
  refine F.ok sc_is_whole (fun vs H Q E h => len3 h) (fun cdv A outer s H vs Q E hr h => ?_)
  obtain ⟨w, x0, x1, x2,  rfl, rfl, h⟩ := h
  have ekT := ek_T T
  have oex_NoEntry := T.oex_NoEntry; have xf_NoEntry := T.xf_NoEntry; have ec_NoEntry := T.ec_NoEntry; have xn_NoEntry := T.xn_NoEntry
  have oex_NoMoment := T.oex_NoMoment; have xf_NoMoment := T.xf_NoMoment; have ec_NoMoment := T.ec_NoMoment; have xn_NoMoment := T.xn_NoMoment
  have oex_NoName := T.oex_NoName; have xf_NoName := T.xf_NoName; have ec_NoName := T.ec_NoName; have xn_NoName := T.xn_NoName
  have oex_NoPlace := T.oex_NoPlace; have xf_NoPlace := T.xf_NoPlace; have ec_NoPlace := T.ec_NoPlace; have xn_NoPlace := T.xn_NoPlace
  have oex_NoReading := T.oex_NoReading; have xf_NoReading := T.xf_NoReading; have ec_NoReading := T.ec_NoReading; have xn_NoReading := T.xn_NoReading
  have rel_NoEntry_NoEntry := T.rel_NoEntry_NoEntry
  have exm_NoEntry_NoEntry := T.exm_NoEntry_NoEntry
  refine ⟨_, (pss_one (ps_ret (pe_and (pe_callB (kIsi K) (by rfl) T.n_isinstance (by decide +kernel) (pa_cons (pv 0) (pa_cons (pe_bltn (v := .ty "int") (u := .type "int") rfl T.n_int (by decide +kernel) rfl) pa_nil))) (pe_and (pe_not (pe_callB (kIsi K) (by rfl) T.n_isinstance (by decide +kernel) (pa_cons (pv 0) (pa_cons (pe_bltn (v := .ty "bool") (u := .type "bool") rfl T.n_bool (by decide +kernel) rfl) pa_nil)))) (pe_one (pe_chain g_le g_le (pv 1) (pv 0) (pv 2))))))), ?_⟩
  rw [st_is_whole]
  obtain ⟨d, lo, hi, hd, rfl, rfl, k⟩ := h
  ((with_reducible refine s_ret ?_); (with_reducible refine s_andV ?_); (with_reducible refine s_CB ?_); (with_reducible refine s_cons ?_); (with_reducible refine' s_var ?q0 ?q1); (case q0 => exact rfl); (with_reducible refine s_cons ?_); (with_reducible refine s_c ?_); (with_reducible refine s_nil ?_); (with_reducible refine' sd_int ?q2 ?q3); (case q2 => assumption); (with_reducible refine s_bl ?_))
  refine ite_b (fun hb => ?_) (fun hb => ?_)
  · ((with_reducible refine s_andV ?_); (with_reducible refine s_notV ?_); (with_reducible refine s_CB ?_); (with_reducible refine s_cons ?_); (with_reducible refine' s_var ?q4 ?q5); (case q4 => exact rfl); (with_reducible refine s_cons ?_); (with_reducible refine s_c ?_); (with_reducible refine s_nil ?_); (with_reducible refine' sd_bool ?q6 ?q7); (case q6 => assumption); (with_reducible refine s_bl ?_); (with_reducible refine s_bl ?_))
    refine ite_n (fun hc => ?_) (fun hc => ?_)
    · obtain ⟨n, rfl⟩ : ∃ n, d = .int n := isNum_inv (by simp [isNum, hb, hc])
      obtain rfl := hd.int_inv
      ((with_reducible refine s_chain ?_); (with_reducible refine' s_var ?q8 ?q9); (case q8 => exact rfl); (with_reducible refine' s_var ?q10 ?q11); (case q10 => exact rfl); (with_reducible refine s_le ?_); (with_reducible refine s_bl ?_))
      refine ite_d (fun c1 => ?_) (fun c1 => ?_)
      · ((with_reducible refine' s_var ?q12 ?q13); (case q12 => exact rfl); (with_reducible refine s_le ?_))
        have e : wholeB (.int n) lo hi = decide (n ≤ hi) := by simp [wholeB, c1]
        exact e ▸ k w (Ext.refl _ _)
      · skip
        have e : wholeB (.int n) lo hi = false := by simp [wholeB, c1]
        exact e ▸ k w (Ext.refl _ _)
    · have e : wholeB d lo hi = false := whole_no (by simp [isNum, hc])
      exact e ▸ k w (Ext.refl _ _)
  · have e : wholeB d lo hi = false := whole_no (by simp [isNum, hb])
    exact e ▸ k w (Ext.refl _ _)
def p_isw (lo hi : Int) (w : Wd) (a : V) (Q : VK) (_ : XK) : Prop := ∃ d, Rp w.S a d ∧ ∀ v, Ext Non w v → Q (.bl (wholeB d lo hi)) v.H
abbrev nm_is_moment : List Str := ["thing"]
theorem sc_is_moment : FnScope nm_is_moment ["thing"] (defScope s_is_moment) := ⟨rfl, rfl, rfl, by decide +kernel, rfl, by decide +kernel, by decide +kernel⟩
theorem st_is_moment (a : V) : start nm_is_moment [a] = [some a] := rfl
abbrev p_is_moment := p_isw 0 1000000000
theorem ok_is_moment {f : Addr} {fd : FuncData} {C_Entry C_Within C_At C_Between C_Table C_Read C_Log C_LogError C_NoEntry C_NoMoment C_NoName C_NoPlace C_NoReading : Addr} (F : Fun K "is_moment" "is_moment" s_is_moment f fd) (T : Txt K mg C_Entry C_Within C_At C_Between C_Table C_Read C_Log C_LogError C_NoEntry C_NoMoment C_NoName C_NoPlace C_NoReading) (c_is_whole : Fnc P ww K mg base CX0 1 "is_whole" (pr3 (p_is_whole))) : FnOk P ww K mg base CX0 2 f fd ["thing"] (pr1 (p_is_moment)) := by
  refine F.ok sc_is_moment (fun vs H Q E h => len1 h) (fun cdv A outer s H vs Q E hr h => ?_)
  obtain ⟨w, x0,  rfl, rfl, h⟩ := h
  have ekT := ek_T T
  have oex_NoEntry := T.oex_NoEntry; have xf_NoEntry := T.xf_NoEntry; have ec_NoEntry := T.ec_NoEntry; have xn_NoEntry := T.xn_NoEntry
  have oex_NoMoment := T.oex_NoMoment; have xf_NoMoment := T.xf_NoMoment; have ec_NoMoment := T.ec_NoMoment; have xn_NoMoment := T.xn_NoMoment
  have oex_NoName := T.oex_NoName; have xf_NoName := T.xf_NoName; have ec_NoName := T.ec_NoName; have xn_NoName := T.xn_NoName
  have oex_NoPlace := T.oex_NoPlace; have xf_NoPlace := T.xf_NoPlace; have ec_NoPlace := T.ec_NoPlace; have xn_NoPlace := T.xn_NoPlace
  have oex_NoReading := T.oex_NoReading; have xf_NoReading := T.xf_NoReading; have ec_NoReading := T.ec_NoReading; have xn_NoReading := T.xn_NoReading
  have rel_NoEntry_NoEntry := T.rel_NoEntry_NoEntry
  have exm_NoEntry_NoEntry := T.exm_NoEntry_NoEntry
  refine ⟨_, (pss_one (ps_ret (pe_fn c_is_whole hr (by decide) pass0 (pa_cons (pv 0) (pa_cons pe_int (pa_cons (pe_gco rfl T.c_LAST) pa_nil)))))), ?_⟩
  rw [st_is_moment]
  obtain ⟨d, hd, k⟩ := h
  ((with_reducible refine s_ret ?_); (with_reducible refine s_call ?_); (with_reducible refine s_cons ?_); (with_reducible refine' s_var ?q14 ?q15); (case q14 => exact rfl); (with_reducible refine s_cons ?_); (with_reducible refine s_c ?_); (with_reducible refine s_cons ?_); (with_reducible refine s_c ?_); (with_reducible refine s_nil ?_); (with_reducible refine s_pr3 ?_))
  exact ⟨d, _, _, hd, rfl, rfl, fun v ev => k v ev⟩
abbrev nm_is_shift : List Str := ["thing"]
theorem sc_is_shift : FnScope nm_is_shift ["thing"] (defScope s_is_shift) := ⟨rfl, rfl, rfl, by decide +kernel, rfl, by decide +kernel, by decide +kernel⟩
theorem st_is_shift (a : V) : start nm_is_shift [a] = [some a] := rfl
abbrev p_is_shift := p_isw (0 - 2880) 2880
theorem ok_is_shift {f : Addr} {fd : FuncData} {C_Entry C_Within C_At C_Between C_Table C_Read C_Log C_LogError C_NoEntry C_NoMoment C_NoName C_NoPlace C_NoReading : Addr} (F : Fun K "is_shift" "is_shift" s_is_shift f fd) (T : Txt K mg C_Entry C_Within C_At C_Between C_Table C_Read C_Log C_LogError C_NoEntry C_NoMoment C_NoName C_NoPlace C_NoReading) (c_is_whole : Fnc P ww K mg base CX0 1 "is_whole" (pr3 (p_is_whole))) : FnOk P ww K mg base CX0 2 f fd ["thing"] (pr1 (p_is_shift)) := by
  refine F.ok sc_is_shift (fun vs H Q E h => len1 h) (fun cdv A outer s H vs Q E hr h => ?_)
  obtain ⟨w, x0,  rfl, rfl, h⟩ := h
  have ekT := ek_T T
  have oex_NoEntry := T.oex_NoEntry; have xf_NoEntry := T.xf_NoEntry; have ec_NoEntry := T.ec_NoEntry; have xn_NoEntry := T.xn_NoEntry
  have oex_NoMoment := T.oex_NoMoment; have xf_NoMoment := T.xf_NoMoment; have ec_NoMoment := T.ec_NoMoment; have xn_NoMoment := T.xn_NoMoment
  have oex_NoName := T.oex_NoName; have xf_NoName := T.xf_NoName; have ec_NoName := T.ec_NoName; have xn_NoName := T.xn_NoName
  have oex_NoPlace := T.oex_NoPlace; have xf_NoPlace := T.xf_NoPlace; have ec_NoPlace := T.ec_NoPlace; have xn_NoPlace := T.xn_NoPlace
  have oex_NoReading := T.oex_NoReading; have xf_NoReading := T.xf_NoReading; have ec_NoReading := T.ec_NoReading; have xn_NoReading := T.xn_NoReading
  have rel_NoEntry_NoEntry := T.rel_NoEntry_NoEntry
  have exm_NoEntry_NoEntry := T.exm_NoEntry_NoEntry
  refine ⟨_, (pss_one (ps_ret (pe_fn c_is_whole hr (by decide) pass0 (pa_cons (pv 0) (pa_cons (pe_op g_sub pe_int (pe_gco rfl T.c_MOST_SHIFT)) (pa_cons (pe_gco rfl T.c_MOST_SHIFT) pa_nil)))))), ?_⟩
  rw [st_is_shift]
  obtain ⟨d, hd, k⟩ := h
  ((with_reducible refine s_ret ?_); (with_reducible refine s_call ?_); (with_reducible refine s_cons ?_); (with_reducible refine' s_var ?q16 ?q17); (case q16 => exact rfl); (with_reducible refine s_cons ?_); (with_reducible refine s_op ?_); (with_reducible refine s_c ?_); (with_reducible refine s_c ?_); (with_reducible refine s_sub ?_); (with_reducible refine s_cons ?_); (with_reducible refine s_c ?_); (with_reducible refine s_nil ?_); (with_reducible refine s_pr3 ?_))
  exact ⟨d, _, _, hd, rfl, rfl, fun v ev => k v ev⟩
abbrev nm_is_row : List Str := ["thing"]
theorem sc_is_row : FnScope nm_is_row ["thing"] (defScope s_is_row) := ⟨rfl, rfl, rfl, by decide +kernel, rfl, by decide +kernel, by decide +kernel⟩
theorem st_is_row (a : V) : start nm_is_row [a] = [some a] := rfl
def p_is_row (w : Wd) (a : V) (Q : VK) (_ : XK) : Prop := ∃ d, Rp w.S a d ∧ ∀ v, Ext Non w v → Q (.bl (rowB d)) v.H
theorem ok_is_row {f : Addr} {fd : FuncData} {C_Entry C_Within C_At C_Between C_Table C_Read C_Log C_LogError C_NoEntry C_NoMoment C_NoName C_NoPlace C_NoReading : Addr} (F : Fun K "is_row" "is_row" s_is_row f fd) (T : Txt K mg C_Entry C_Within C_At C_Between C_Table C_Read C_Log C_LogError C_NoEntry C_NoMoment C_NoName C_NoPlace C_NoReading) (c_is_moment : Fnc P ww K mg base CX0 2 "is_moment" (pr1 (p_is_moment))) (c_is_shift : Fnc P ww K mg base CX0 2 "is_shift" (pr1 (p_is_shift))) : FnOk P ww K mg base CX0 3 f fd ["thing"] (pr1 (p_is_row)) := by
  refine F.ok sc_is_row (fun vs H Q E h => len1 h) (fun cdv A outer s H vs Q E hr h => ?_)
  obtain ⟨w, x0,  rfl, rfl, h⟩ := h
  have ekT := ek_T T
  have oex_NoEntry := T.oex_NoEntry; have xf_NoEntry := T.xf_NoEntry; have ec_NoEntry := T.ec_NoEntry; have xn_NoEntry := T.xn_NoEntry
  have oex_NoMoment := T.oex_NoMoment; have xf_NoMoment := T.xf_NoMoment; have ec_NoMoment := T.ec_NoMoment; have xn_NoMoment := T.xn_NoMoment
  have oex_NoName := T.oex_NoName; have xf_NoName := T.xf_NoName; have ec_NoName := T.ec_NoName; have xn_NoName := T.xn_NoName
  have oex_NoPlace := T.oex_NoPlace; have xf_NoPlace := T.xf_NoPlace; have ec_NoPlace := T.ec_NoPlace; have xn_NoPlace := T.xn_NoPlace
  have oex_NoReading := T.oex_NoReading; have xf_NoReading := T.xf_NoReading; have ec_NoReading := T.ec_NoReading; have xn_NoReading := T.xn_NoReading
  have rel_NoEntry_NoEntry := T.rel_NoEntry_NoEntry
  have exm_NoEntry_NoEntry := T.exm_NoEntry_NoEntry
  refine ⟨_, (pss_cons (ps_if (PW.pt (pw_or (pt_not (pt_val (pe_callB (kIsi K) (by rfl) T.n_isinstance (by decide +kernel) (pa_cons (pv 0) (pa_cons (pe_bltn (v := .ty "tuple") (u := .type "tuple") rfl T.n_tuple (by decide +kernel) rfl) pa_nil))))) (pw_or1 (pt_cmpR (kNe K hr.units) (pe_callB (kLen K) (by rfl) T.n_len (by decide +kernel) (pa_cons (pv 0) pa_nil)) pe_int (nomark _))))) (pss_one (ps_ret pe_bl)) pss_nil)
      (pss_one (ps_ret (pe_and (pe_fn c_is_moment hr (by decide) pass0 (pa_cons (pe_ix (kIx K) (pv 0) pe_int (fun _ _ => rfl)) pa_nil)) (pe_one (pe_fn c_is_shift hr (by decide) pass0 (pa_cons (pe_ix (kIx K) (pv 0) pe_int (fun _ _ => rfl)) pa_nil))))))), ?_⟩
  rw [st_is_row]
  obtain ⟨d, hd, k⟩ := h
  ((with_reducible refine s_seq ?_); (with_reducible refine s_ifS ?_); (with_reducible refine s_or ?_); (with_reducible refine s_not ?_); (with_reducible refine s_B ?_); (with_reducible refine s_CB ?_); (with_reducible refine s_cons ?_); (with_reducible refine' s_var ?q18 ?q19); (case q18 => exact rfl); (with_reducible refine s_cons ?_); (with_reducible refine s_c ?_); (with_reducible refine s_nil ?_); (with_reducible refine' sd_tuple ?q20 ?q21); (case q20 => assumption); (with_reducible refine s_bl ?_))
  refine ite_n (fun hb => ?_) (fun hb => ?_)
  · ((with_reducible refine ite_tt ?_); (with_reducible refine s_ret ?_); (with_reducible refine s_c ?_))
    have e : rowB d = false := row_notup hb
    exact e ▸ k _ (by (exact Ext.refl _ _))
  · obtain ⟨ds, rfl⟩ := isTup_inv hb
    obtain ⟨t, vs, rfl, st, ra⟩ := hd.tuple_inv
    have la := ra.length
    ((with_reducible refine s_test ?_); (with_reducible refine s_op ?_); (with_reducible refine s_CB ?_); (with_reducible refine s_cons ?_); (with_reducible refine' s_var ?q22 ?q23); (case q22 => exact rfl); (with_reducible refine s_nil ?_); (with_reducible refine' s_lenT ?q24 ?q25); (case q24 => assumption); (with_reducible refine s_c ?_); (with_reducible refine s_neI ?_); (with_reducible refine s_bl ?_))
    by_cases h2 : ds.length = 2
    · obtain ⟨d1, d2, rfl⟩ : ∃ a b, ds = [a, b] := by
        match ds, h2 with
        | [a, b], _ => exact ⟨a, b, rfl⟩
      obtain ⟨y1, y2, rfl, r1, r2⟩ : ∃ y1 y2, vs = [y1, y2] ∧ Rp w.S y1 d1 ∧ Rp w.S y2 d2 := by
        cases ra with
        | cons r1 r2 =>
          cases r2 with
          | cons r2 r3 =>
            cases r3
            exact ⟨_, _, rfl, r1, r2⟩
      refine ite_d (fun c1 => absurd rfl c1) (fun _ => ?_)
      ((with_reducible refine s_next ?_); (with_reducible refine s_ret ?_); (with_reducible refine s_andV ?_); (with_reducible refine s_call ?_); (with_reducible refine s_cons ?_); (with_reducible refine s_op ?_); (with_reducible refine' s_var ?q26 ?q27); (case q26 => exact rfl); (with_reducible refine s_c ?_); (with_reducible refine' s_ixT ?q28 ?q29 ?q30); (case q28 => assumption); (case q29 => exact rfl); (with_reducible refine s_nil ?_); (with_reducible refine s_pr1 ?_))
      refine ⟨d1, r1, fun v1 e1 => ?_⟩
      ((with_reducible refine s_bl ?_))
      have e : rowB (.tuple [d1, d2]) = (wholeB d1 0 1000000000 && wholeB d2 (0 - 2880) 2880) := rfl
      refine ite_b (fun hb => ?_) (fun hb => ?_)
      · ((with_reducible refine s_call ?_); (with_reducible refine s_cons ?_); (with_reducible refine s_op ?_); (with_reducible refine' s_var ?q31 ?q32); (case q31 => exact rfl); (with_reducible refine s_c ?_); (with_reducible refine' s_ixT ?q33 ?q34 ?q35); (case q33 => refine' st_go ( by assumption ) ?q36; (case q36 => assumption)); (case q34 => exact rfl); (with_reducible refine s_nil ?_); (with_reducible refine s_pr1 ?_))
        refine ⟨d2, by (refine' Rp.go ( by assumption ) ?q37; (case q37 => assumption)), fun v2 e2 => ?_⟩
        rw [hb, Bool.true_and] at e
        exact e ▸ k _ (by (refine' Ext.step ?q38 ?q39 ?q40; (case q39 => assumption); (case q38 => assumption); (case q40 => exact fun _ z => z.elim)))
      · skip
        rw [hb, Bool.false_and] at e
        exact e ▸ k _ (by (assumption))
    · refine ite_d (fun c1 => ?_) (fun c1 => absurd (fun e => h2 (by omega)) c1)
      ((with_reducible refine s_ret ?_); (with_reducible refine s_c ?_))
      have e : rowB (.tuple ds) = false := row_len h2
      exact e ▸ k _ (by (exact Ext.refl _ _))
abbrev nm_fault_at : List Str := ["rows", "ahead", "at", "row"]
theorem sc_fault_at : FnScope nm_fault_at ["rows"] (defScope s_fault_at) := ⟨rfl, rfl, rfl, by decide +kernel, rfl, by decide +kernel, by decide +kernel⟩
theorem st_fault_at (a : V) : start nm_fault_at [a] = [some a, none, none, none] := rfl
def p_fault_at (w : Wd) (a : V) (Q : VK) (_ : XK) : Prop := ∃ d, Rp w.S a d ∧ (∀ ds, d = .list ds → ds.length < 10000) ∧ ∀ v, Ext Non w v → Q (oV (faultD d)) v.H
theorem ok_fault_at {f : Addr} {fd : FuncData} {C_Entry C_Within C_At C_Between C_Table C_Read C_Log C_LogError C_NoEntry C_NoMoment C_NoName C_NoPlace C_NoReading : Addr} (F : Fun K "fault_at" "fault_at" s_fault_at f fd) (T : Txt K mg C_Entry C_Within C_At C_Between C_Table C_Read C_Log C_LogError C_NoEntry C_NoMoment C_NoName C_NoPlace C_NoReading) (c_is_row : Fnc P ww K mg base CX0 3 "is_row" (pr1 (p_is_row))) : FnOk P ww K mg base CX0 4 f fd ["rows"] (pr1 (p_fault_at)) := by
  refine F.ok sc_fault_at (fun vs H Q E h => len1 h) (fun cdv A outer s H vs Q E hr h => ?_)
  obtain ⟨w, x0,  rfl, rfl, h⟩ := h
  have ekT := ek_T T
  have oex_NoEntry := T.oex_NoEntry; have xf_NoEntry := T.xf_NoEntry; have ec_NoEntry := T.ec_NoEntry; have xn_NoEntry := T.xn_NoEntry
  have oex_NoMoment := T.oex_NoMoment; have xf_NoMoment := T.xf_NoMoment; have ec_NoMoment := T.ec_NoMoment; have xn_NoMoment := T.xn_NoMoment
  have oex_NoName := T.oex_NoName; have xf_NoName := T.xf_NoName; have ec_NoName := T.ec_NoName; have xn_NoName := T.xn_NoName
  have oex_NoPlace := T.oex_NoPlace; have xf_NoPlace := T.xf_NoPlace; have ec_NoPlace := T.ec_NoPlace; have xn_NoPlace := T.xn_NoPlace
  have oex_NoReading := T.oex_NoReading; have xf_NoReading := T.xf_NoReading; have ec_NoReading := T.ec_NoReading; have xn_NoReading := T.xn_NoReading
  have rel_NoEntry_NoEntry := T.rel_NoEntry_NoEntry
  have exm_NoEntry_NoEntry := T.exm_NoEntry_NoEntry
  refine ⟨_, (pss_cons (ps_if (PW.pt (pw_or (pt_not (pt_val (pe_callB (kIsi K) (by rfl) T.n_isinstance (by decide +kernel) (pa_cons (pv 0) (pa_cons (pe_bltn (v := .ty "list") (u := .type "list") rfl T.n_list (by decide +kernel) rfl) pa_nil))))) (pw_or1 (pt_cmpR (kEq K hr.units) (pe_callB (kLen K) (by rfl) T.n_len (by decide +kernel) (pa_cons (pv 0) pa_nil)) pe_int (nomark _))))) (pss_one (ps_ret pe_int)) pss_nil)
      (pss_cons (ps_if (pt_cmpR g_gt (pe_callB (kLen K) (by rfl) T.n_len (by decide +kernel) (pa_cons (pv 0) pa_nil)) (pe_gco rfl T.c_MOST_ROWS) (nomark _)) (pss_one (ps_ret (pe_gco rfl T.c_MOST_ROWS))) pss_nil)
      (pss_cons (ps_set (i := 1) sc_fault_at.nd rfl (Or.inl rfl) pe_non)
      (pss_cons (ps_for PassesOwn.never rfl (kpEnum K (by rfl) T.n_enumerate (pa_cons (pv 0) pa_nil)) (kgTup K (by rfl) (pgs_cons (pg_name (i := 2) sc_fault_at.nd rfl (Or.inl rfl)) (pgs_cons (pg_name (i := 3) sc_fault_at.nd rfl (Or.inl rfl)) pgs_nil))) (pss_cons (ps_if (pt_not (pt_val (pe_fn c_is_row hr (by decide) pass0 (pa_cons (pv 3) pa_nil)))) (pss_one (ps_ret (pv 2))) pss_nil)
      (pss_cons (ps_if (PW.pt (pw_and (pt_cmpR g_is (pv 1) pe_non (nomark _)) (pw_and1 (pt_cmpR (kNe K hr.units) (pe_ix (kIx K) (pv 3) pe_int (fun _ _ => rfl)) pe_int (nomark _))))) (pss_one (ps_ret (pv 2))) pss_nil)
      (pss_cons (ps_if (PW.pt (pw_and (pt_cmpR g_isnot (pv 1) pe_non (nomark _)) (pw_and1 (pt_cmpR g_le (pe_ix (kIx K) (pv 3) pe_int (fun _ _ => rfl)) (pv 1) (nomark _))))) (pss_one (ps_ret (pv 2))) pss_nil)
      (pss_one (ps_set (i := 1) sc_fault_at.nd rfl (Or.inl rfl) (pe_ix (kIx K) (pv 3) pe_int (fun _ _ => rfl))))))))
      (pss_one (ps_ret pe_non)))))), ?_⟩
  rw [st_fault_at]
  obtain ⟨d, hd, hsz, k⟩ := h
  ((with_reducible refine s_seq ?_); (with_reducible refine s_ifS ?_); (with_reducible refine s_or ?_); (with_reducible refine s_not ?_); (with_reducible refine s_B ?_); (with_reducible refine s_CB ?_); (with_reducible refine s_cons ?_); (with_reducible refine' s_var ?q41 ?q42); (case q41 => exact rfl); (with_reducible refine s_cons ?_); (with_reducible refine s_c ?_); (with_reducible refine s_nil ?_); (with_reducible refine' sd_list ?q43 ?q44); (case q43 => assumption); (with_reducible refine s_bl ?_))
  refine ite_n (fun hb => ?_) (fun hb => ?_)
  · ((with_reducible refine ite_tt ?_); (with_reducible refine s_ret ?_); (with_reducible refine s_c ?_))
    have e : faultD d = some 0 := by cases d <;> first | rfl | cases hb
    exact ov_at e (k _ (by (exact Ext.refl _ _)))
  · obtain ⟨ds, rfl⟩ := isList_inv hb
    obtain ⟨t, vs, rfl, st, ra⟩ := hd.list_inv
    have la := ra.length
    have hl := hsz ds rfl
    have e0 : faultD (.list ds) = if ds.length = 0 then some 0 else if ds.length > 21 then some 21 else faultFrom none 0 ds := rfl
    ((with_reducible refine s_test ?_); (with_reducible refine s_op ?_); (with_reducible refine s_CB ?_); (with_reducible refine s_cons ?_); (with_reducible refine' s_var ?q45 ?q46); (case q45 => exact rfl); (with_reducible refine s_nil ?_); (with_reducible refine' s_lenL ?q49 ?q50); (case q49 => assumption); (with_reducible refine s_c ?_); (with_reducible refine s_eqI ?_); (with_reducible refine s_bl ?_))
    refine ite_d (fun c1 => ?_) (fun c1 => ?_)
    · ((with_reducible refine s_ret ?_); (with_reducible refine s_c ?_))
      rw [if_pos (show ds.length = 0 by omega)] at e0
      exact ov_at e0 (k _ (by (exact Ext.refl _ _)))
    · rw [if_neg (show ¬ ds.length = 0 by omega)] at e0
      ((with_reducible refine s_next ?_); (with_reducible refine s_seq ?_); (with_reducible refine s_ifS ?_); (with_reducible refine s_test ?_); (with_reducible refine s_op ?_); (with_reducible refine s_CB ?_); (with_reducible refine s_cons ?_); (with_reducible refine' s_var ?q51 ?q52); (case q51 => exact rfl); (with_reducible refine s_nil ?_); (with_reducible refine' s_lenL ?q55 ?q56); (case q55 => assumption); (with_reducible refine s_c ?_); (with_reducible refine s_gt ?_); (with_reducible refine s_bl ?_))
      refine ite_d (fun c2 => ?_) (fun c2 => ?_)
      · ((with_reducible refine s_ret ?_); (with_reducible refine s_c ?_))
        rw [if_pos (show ds.length > 21 by omega)] at e0
        exact ov_at e0 (k _ (by (exact Ext.refl _ _)))
      · rw [if_neg (show ¬ ds.length > 21 by omega)] at e0
        ((with_reducible refine s_next ?_); (with_reducible refine s_seq ?_); (with_reducible refine s_asg ?_); (with_reducible refine s_c ?_); (with_reducible refine' s_gname ?q57 ?q58); (case q57 => simp only [ List.set_cons_succ , List.set_cons_zero ]; exact rfl); (with_reducible refine s_seq ?_); (with_reducible refine s_for ?_); (with_reducible refine s_iEnum ?_); (with_reducible refine s_cons ?_); (with_reducible refine' s_var ?q59 ?q60); (case q59 => exact rfl); (with_reducible refine s_nil ?_))
        refine ⟨t, vs, rfl, SqL.of (w.ok _ _ st), ?_⟩
        refine forW (ww_enum (xs := vs)) (fun i σ u => Ext Non w u ∧ ∃ (ah : Option Int) (g h : Option V), σ = [some (.ref t), some (oV ah), g, h] ∧ faultFrom none 0 ds = faultFrom ah i (ds.drop i)) ⟨Ext.refl _ _, none, _, _, rfl, rfl⟩ (fun i σ u _ p => sql_of (st_go p.1 st)) ?_ ?_
        · rintro i x σ u v hi ⟨eu, ah, g, h, rfl, hq⟩ ⟨T, x1, rfl, ev, hT, sT, hx⟩
          obtain ⟨d, h3, h4⟩ := ra.get hx
          have hdr : ds.drop i = d :: ds.drop (i + 1) := drop_at h3
          rw [hdr] at hq
          have hq2 : faultFrom none 0 ds = if (!rowB d || stepBad ah (momD d)) = true then some (i : Int) else faultFrom (some (momD d)) (i + 1) (ds.drop (i + 1)) := hq
          have ewv : Ext Non w v := by (refine' Ext.step ?q61 ?q62 ?q63; (case q62 => assumption); (case q61 => assumption); (case q63 => exact fun _ z => z.elim))
          have h5 : Rp v.S x1 d := h4.go ewv
          clear ewv
          ((with_reducible refine' s_gtup ?q64 ?q65 ?q66); (case q64 => assumption); (case q65 => exact rfl); (with_reducible refine s_gcons ?_); (with_reducible refine' s_gname ?q67 ?q68); (case q67 => simp only [ List.set_cons_succ , List.set_cons_zero ]; exact rfl); (with_reducible refine s_gcons ?_); (with_reducible refine' s_gname ?q69 ?q70); (case q69 => simp only [ List.set_cons_succ , List.set_cons_zero ]; exact rfl); (with_reducible refine s_gnil ?_); (with_reducible refine s_seq ?_); (with_reducible refine s_ifS ?_); (with_reducible refine s_not ?_); (with_reducible refine s_B ?_); (with_reducible refine s_call ?_); (with_reducible refine s_cons ?_); (with_reducible refine' s_var ?q71 ?q72); (case q71 => exact rfl); (with_reducible refine s_nil ?_); (with_reducible refine s_pr1 ?_))
          refine ⟨d, h5, fun v1 e1 => ?_⟩
          ((with_reducible refine s_bl ?_))
          refine ite_n (fun hb => ?_) (fun hb => ?_)
          · ((with_reducible refine s_ret ?_); (with_reducible refine' s_var ?q73 ?q74); (case q73 => exact rfl))
            rw [hb, if_pos (by rfl)] at hq2
            exact ov_at (e0.trans hq2) (k _ (by (refine' Ext.step ?q75 ?q76 ?q77; (case q76 => assumption); (case q75 => refine' Ext.step ?q78 ?q79 ?q80; (case q79 => assumption); (case q78 => assumption); (case q80 => exact fun _ z => z.elim)); (case q77 => exact fun _ z => z.elim))))
          · obtain ⟨m, s, rfl, hm⟩ := row_yes hb
            obtain ⟨tt, rfl, stt⟩ := pr_inv h5
            rw [hb, Bool.not_true, Bool.false_or] at hq2
            cases ah with
            | none =>
              have e5 : stepBad none (momD (.tuple [.int m, .int s])) = decide (m ≠ 0) := rfl
              rw [e5] at hq2
              dsimp only [oV]
              ((with_reducible refine s_next ?_); (with_reducible refine s_seq ?_); (with_reducible refine s_ifS ?_); (with_reducible refine s_and ?_); (with_reducible refine s_test ?_); (with_reducible refine s_op ?_); (with_reducible refine' s_var ?q81 ?q82); (case q81 => exact rfl); (with_reducible refine s_c ?_); (with_reducible refine s_isNN ?_); (with_reducible refine s_bl ?_); (with_reducible refine ite_tt ?_); (with_reducible refine s_test ?_); (with_reducible refine s_op ?_); (with_reducible refine s_op ?_); (with_reducible refine' s_var ?q86 ?q87); (case q86 => exact rfl); (with_reducible refine s_c ?_); (with_reducible refine' s_ixT ?q88 ?q89 ?q90); (case q88 => refine' st_go ( by assumption ) ?q91; (case q91 => assumption)); (case q89 => exact rfl); (with_reducible refine s_c ?_); (with_reducible refine s_neI ?_); (with_reducible refine s_bl ?_))
              refine ite_d (fun c3 => ?_) (fun c3 => ?_)
              · ((with_reducible refine s_ret ?_); (with_reducible refine' s_var ?q92 ?q93); (case q92 => exact rfl))
                rw [decide_eq_true c3, if_pos rfl] at hq2
                exact ov_at (e0.trans hq2) (k _ (by (refine' Ext.step ?q94 ?q95 ?q96; (case q95 => assumption); (case q94 => refine' Ext.step ?q97 ?q98 ?q99; (case q98 => assumption); (case q97 => assumption); (case q99 => exact fun _ z => z.elim)); (case q96 => exact fun _ z => z.elim))))
              · ((with_reducible refine s_next ?_); (with_reducible refine s_seq ?_); (with_reducible refine s_ifS ?_); (with_reducible refine s_and ?_); (with_reducible refine s_test ?_); (with_reducible refine s_op ?_); (with_reducible refine' s_var ?q100 ?q101); (case q100 => exact rfl); (with_reducible refine s_c ?_); (with_reducible refine s_notNN ?_); (with_reducible refine s_bl ?_); (with_reducible refine ite_ff ?_); (with_reducible refine ite_ff ?_); (with_reducible refine s_next ?_); (with_reducible refine s_asg ?_); (with_reducible refine s_op ?_); (with_reducible refine' s_var ?q108 ?q109); (case q108 => exact rfl); (with_reducible refine s_c ?_); (with_reducible refine' s_ixT ?q110 ?q111 ?q112); (case q110 => refine' st_go ( by assumption ) ?q113; (case q113 => assumption)); (case q111 => exact rfl); (with_reducible refine' s_gname ?q114 ?q115); (case q114 => simp only [ List.set_cons_succ , List.set_cons_zero ]; exact rfl); (with_reducible refine wds_i ?_))
                rw [decide_eq_false c3, if_neg (by decide)] at hq2
                exact ⟨by (refine' Ext.step ?q116 ?q117 ?q118; (case q117 => assumption); (case q116 => refine' Ext.step ?q119 ?q120 ?q121; (case q120 => assumption); (case q119 => assumption); (case q121 => exact fun _ z => z.elim)); (case q118 => exact fun _ z => z.elim)), some m, _, _, rfl, hq2⟩
            | some q =>
              have e5 : stepBad (some q) (momD (.tuple [.int m, .int s])) = decide (m ≤ q) := rfl
              rw [e5] at hq2
              dsimp only [oV]
              ((with_reducible refine s_next ?_); (with_reducible refine s_seq ?_); (with_reducible refine s_ifS ?_); (with_reducible refine s_and ?_); (with_reducible refine s_test ?_); (with_reducible refine s_op ?_); (with_reducible refine' s_var ?q122 ?q123); (case q122 => exact rfl); (with_reducible refine s_c ?_); (with_reducible refine s_isIN ?_); (with_reducible refine s_bl ?_); (with_reducible refine ite_ff ?_); (with_reducible refine ite_ff ?_); (with_reducible refine s_next ?_); (with_reducible refine s_seq ?_); (with_reducible refine s_ifS ?_); (with_reducible refine s_and ?_); (with_reducible refine s_test ?_); (with_reducible refine s_op ?_); (with_reducible refine' s_var ?q130 ?q131); (case q130 => exact rfl); (with_reducible refine s_c ?_); (with_reducible refine s_notIN ?_); (with_reducible refine s_bl ?_); (with_reducible refine ite_tt ?_); (with_reducible refine s_test ?_); (with_reducible refine s_op ?_); (with_reducible refine s_op ?_); (with_reducible refine' s_var ?q135 ?q136); (case q135 => exact rfl); (with_reducible refine s_c ?_); (with_reducible refine' s_ixT ?q137 ?q138 ?q139); (case q137 => refine' st_go ( by assumption ) ?q140; (case q140 => assumption)); (case q138 => exact rfl); (with_reducible refine' s_var ?q141 ?q142); (case q141 => exact rfl); (with_reducible refine s_le ?_); (with_reducible refine s_bl ?_))
              refine ite_d (fun c3 => ?_) (fun c3 => ?_)
              · ((with_reducible refine s_ret ?_); (with_reducible refine' s_var ?q143 ?q144); (case q143 => exact rfl))
                rw [decide_eq_true c3, if_pos rfl] at hq2
                exact ov_at (e0.trans hq2) (k _ (by (refine' Ext.step ?q145 ?q146 ?q147; (case q146 => assumption); (case q145 => refine' Ext.step ?q148 ?q149 ?q150; (case q149 => assumption); (case q148 => assumption); (case q150 => exact fun _ z => z.elim)); (case q147 => exact fun _ z => z.elim))))
              · ((with_reducible refine s_next ?_); (with_reducible refine s_asg ?_); (with_reducible refine s_op ?_); (with_reducible refine' s_var ?q151 ?q152); (case q151 => exact rfl); (with_reducible refine s_c ?_); (with_reducible refine' s_ixT ?q153 ?q154 ?q155); (case q153 => refine' st_go ( by assumption ) ?q156; (case q156 => assumption)); (case q154 => exact rfl); (with_reducible refine' s_gname ?q157 ?q158); (case q157 => simp only [ List.set_cons_succ , List.set_cons_zero ]; exact rfl); (with_reducible refine wds_i ?_))
                rw [decide_eq_false c3, if_neg (by decide)] at hq2
                exact ⟨by (refine' Ext.step ?q159 ?q160 ?q161; (case q160 => assumption); (case q159 => refine' Ext.step ?q162 ?q163 ?q164; (case q163 => assumption); (case q162 => assumption); (case q164 => exact fun _ z => z.elim)); (case q161 => exact fun _ z => z.elim)), some m, _, _, rfl, hq2⟩
        · rintro σ u ⟨eu, ah, g, h, rfl, hq⟩
          rw [List.drop_of_length_le (by omega)] at hq
          ((with_reducible refine s_ret ?_); (with_reducible refine s_c ?_))
          exact ov_at (e0.trans hq) (k _ (by (assumption)))
abbrev nm_is_reading : List Str := ["thing"]
theorem sc_is_reading : FnScope nm_is_reading ["thing"] (defScope s_is_reading) := ⟨rfl, rfl, rfl, by decide +kernel, rfl, by decide +kernel, by decide +kernel⟩
theorem st_is_reading (a : V) : start nm_is_reading [a] = [some a] := rfl
abbrev p_is_reading := p_isw (0 - 10000000000) 10000000000
theorem ok_is_reading {f : Addr} {fd : FuncData} {C_Entry C_Within C_At C_Between C_Table C_Read C_Log C_LogError C_NoEntry C_NoMoment C_NoName C_NoPlace C_NoReading : Addr} (F : Fun K "is_reading" "is_reading" s_is_reading f fd) (T : Txt K mg C_Entry C_Within C_At C_Between C_Table C_Read C_Log C_LogError C_NoEntry C_NoMoment C_NoName C_NoPlace C_NoReading) (c_is_whole : Fnc P ww K mg base CX0 1 "is_whole" (pr3 (p_is_whole))) : FnOk P ww K mg base CX0 2 f fd ["thing"] (pr1 (p_is_reading)) := by
  refine F.ok sc_is_reading (fun vs H Q E h => len1 h) (fun cdv A outer s H vs Q E hr h => ?_)
  obtain ⟨w, x0,  rfl, rfl, h⟩ := h
  have ekT := ek_T T
  have oex_NoEntry := T.oex_NoEntry; have xf_NoEntry := T.xf_NoEntry; have ec_NoEntry := T.ec_NoEntry; have xn_NoEntry := T.xn_NoEntry
  have oex_NoMoment := T.oex_NoMoment; have xf_NoMoment := T.xf_NoMoment; have ec_NoMoment := T.ec_NoMoment; have xn_NoMoment := T.xn_NoMoment
  have oex_NoName := T.oex_NoName; have xf_NoName := T.xf_NoName; have ec_NoName := T.ec_NoName; have xn_NoName := T.xn_NoName
  have oex_NoPlace := T.oex_NoPlace; have xf_NoPlace := T.xf_NoPlace; have ec_NoPlace := T.ec_NoPlace; have xn_NoPlace := T.xn_NoPlace
  have oex_NoReading := T.oex_NoReading; have xf_NoReading := T.xf_NoReading; have ec_NoReading := T.ec_NoReading; have xn_NoReading := T.xn_NoReading
  have rel_NoEntry_NoEntry := T.rel_NoEntry_NoEntry
  have exm_NoEntry_NoEntry := T.exm_NoEntry_NoEntry
  refine ⟨_, (pss_one (ps_ret (pe_fn c_is_whole hr (by decide) pass0 (pa_cons (pv 0) (pa_cons (pe_op g_sub pe_int (pe_gco rfl T.c_FARTHEST_READING)) (pa_cons (pe_gco rfl T.c_FARTHEST_READING) pa_nil)))))), ?_⟩
  rw [st_is_reading]
  obtain ⟨d, hd, k⟩ := h
  ((with_reducible refine s_ret ?_); (with_reducible refine s_call ?_); (with_reducible refine s_cons ?_); (with_reducible refine' s_var ?q165 ?q166); (case q165 => exact rfl); (with_reducible refine s_cons ?_); (with_reducible refine s_op ?_); (with_reducible refine s_c ?_); (with_reducible refine s_c ?_); (with_reducible refine s_sub ?_); (with_reducible refine s_cons ?_); (with_reducible refine s_c ?_); (with_reducible refine s_nil ?_); (with_reducible refine s_pr3 ?_))
  exact ⟨d, _, _, hd, rfl, rfl, fun v ev => k v ev⟩
abbrev nm_is_minutes : List Str := ["thing"]
theorem sc_is_minutes : FnScope nm_is_minutes ["thing"] (defScope s_is_minutes) := ⟨rfl, rfl, rfl, by decide +kernel, rfl, by decide +kernel, by decide +kernel⟩
theorem st_is_minutes (a : V) : start nm_is_minutes [a] = [some a] := rfl
abbrev p_is_minutes := p_isw (-2000000000) 2000000001
theorem ok_is_minutes {f : Addr} {fd : FuncData} {C_Entry C_Within C_At C_Between C_Table C_Read C_Log C_LogError C_NoEntry C_NoMoment C_NoName C_NoPlace C_NoReading : Addr} (F : Fun K "is_minutes" "is_minutes" s_is_minutes f fd) (T : Txt K mg C_Entry C_Within C_At C_Between C_Table C_Read C_Log C_LogError C_NoEntry C_NoMoment C_NoName C_NoPlace C_NoReading) (c_is_whole : Fnc P ww K mg base CX0 1 "is_whole" (pr3 (p_is_whole))) : FnOk P ww K mg base CX0 2 f fd ["thing"] (pr1 (p_is_minutes)) := by
  refine F.ok sc_is_minutes (fun vs H Q E h => len1 h) (fun cdv A outer s H vs Q E hr h => ?_)
  obtain ⟨w, x0,  rfl, rfl, h⟩ := h
  have ekT := ek_T T
  have oex_NoEntry := T.oex_NoEntry; have xf_NoEntry := T.xf_NoEntry; have ec_NoEntry := T.ec_NoEntry; have xn_NoEntry := T.xn_NoEntry
  have oex_NoMoment := T.oex_NoMoment; have xf_NoMoment := T.xf_NoMoment; have ec_NoMoment := T.ec_NoMoment; have xn_NoMoment := T.xn_NoMoment
  have oex_NoName := T.oex_NoName; have xf_NoName := T.xf_NoName; have ec_NoName := T.ec_NoName; have xn_NoName := T.xn_NoName
  have oex_NoPlace := T.oex_NoPlace; have xf_NoPlace := T.xf_NoPlace; have ec_NoPlace := T.ec_NoPlace; have xn_NoPlace := T.xn_NoPlace
  have oex_NoReading := T.oex_NoReading; have xf_NoReading := T.xf_NoReading; have ec_NoReading := T.ec_NoReading; have xn_NoReading := T.xn_NoReading
  have rel_NoEntry_NoEntry := T.rel_NoEntry_NoEntry
  have exm_NoEntry_NoEntry := T.exm_NoEntry_NoEntry
  refine ⟨_, (pss_one (ps_ret (pe_fn c_is_whole hr (by decide) pass0 (pa_cons (pv 0) (pa_cons (pe_gco rfl T.c_LEAST_MINUTES) (pa_cons (pe_gco rfl T.c_MOST_MINUTES) pa_nil)))))), ?_⟩
  rw [st_is_minutes]
  obtain ⟨d, hd, k⟩ := h
  ((with_reducible refine s_ret ?_); (with_reducible refine s_call ?_); (with_reducible refine s_cons ?_); (with_reducible refine' s_var ?q167 ?q168); (case q167 => exact rfl); (with_reducible refine s_cons ?_); (with_reducible refine s_c ?_); (with_reducible refine s_cons ?_); (with_reducible refine s_c ?_); (with_reducible refine s_nil ?_); (with_reducible refine s_pr3 ?_))
  exact ⟨d, _, _, hd, rfl, rfl, fun v ev => k v ev⟩
local macro_rules | `(tactic| wtm_at "tbs") => `(tactic| first
  | assumption
  | (refine' TbS.go (by assumption) ?s; (case s => wtm_at "tbs"))
  | fail "tbs")
abbrev nm_Table_init : List Str := ["self", "rows", "at"]
theorem sc_Table_init : FnScope nm_Table_init ["self", "rows"] (defScope s_Table_init) := ⟨rfl, rfl, rfl, by decide +kernel, rfl, by decide +kernel, by decide +kernel⟩
theorem st_Table_init (a b : V) : start nm_Table_init [a, b] = [some a, some b, none] := rfl
def p_Table_init (C : Addr) (w : Wd) (a b : V) (Q : VK) (_ : XK) : Prop := ∃ x dx R, a = .ref x ∧ Own w x (.ins C dx []) ∧ Rp w.S b (spD R) ∧ TabOk R ∧ ∀ v, Ext (One x) w v → TbS C v.S (.ref x) R → Q .non v.H
theorem ok_Table_init {f : Addr} {fd : FuncData} {C_Entry C_Within C_At C_Between C_Table C_Read C_Log C_LogError C_NoEntry C_NoMoment C_NoName C_NoPlace C_NoReading : Addr} (F : Fun K "__init__" "Table.__init__" s_Table_init f fd) (T : Txt K mg C_Entry C_Within C_At C_Between C_Table C_Read C_Log C_LogError C_NoEntry C_NoMoment C_NoName C_NoPlace C_NoReading) (c_fault_at : Fnc P ww K mg base CX0 4 "fault_at" (pr1 (p_fault_at))) : FnOk P ww K mg base CX0 5 f fd ["self", "rows"] (pr2 (p_Table_init C_Table)) := by
  refine F.ok sc_Table_init (fun vs H Q E h => len2 h) (fun cdv A outer s H vs Q E hr h => ?_)
  obtain ⟨w, x0, x1,  rfl, rfl, h⟩ := h
  have ekT := ek_T T
  have cl_Table := T.cl_Table
  have na_Table_kept_rows := T.na_Table_kept_rows
  have cl_Log := T.cl_Log
  have na_Log_bound := T.na_Log_bound
  have na_Log_clocks := T.na_Log_clocks
  have na_Log_line := T.na_Log_line
  have na_Log_name := T.na_Log_name
  have oex_NoEntry := T.oex_NoEntry; have xf_NoEntry := T.xf_NoEntry; have ec_NoEntry := T.ec_NoEntry; have xn_NoEntry := T.xn_NoEntry
  have oex_NoMoment := T.oex_NoMoment; have xf_NoMoment := T.xf_NoMoment; have ec_NoMoment := T.ec_NoMoment; have xn_NoMoment := T.xn_NoMoment
  have oex_NoName := T.oex_NoName; have xf_NoName := T.xf_NoName; have ec_NoName := T.ec_NoName; have xn_NoName := T.xn_NoName
  have oex_NoPlace := T.oex_NoPlace; have xf_NoPlace := T.xf_NoPlace; have ec_NoPlace := T.ec_NoPlace; have xn_NoPlace := T.xn_NoPlace
  have oex_NoReading := T.oex_NoReading; have xf_NoReading := T.xf_NoReading; have ec_NoReading := T.ec_NoReading; have xn_NoReading := T.xn_NoReading
  have rel_NoEntry_NoEntry := T.rel_NoEntry_NoEntry
  have exm_NoEntry_NoEntry := T.exm_NoEntry_NoEntry
  refine ⟨_, (pss_cons (ps_set (i := 2) sc_Table_init.nd rfl (Or.inl rfl) (pe_fn c_fault_at hr (by decide) pass0 (pa_cons (pv 1) pa_nil)))
      (pss_cons (ps_if (pt_cmpR g_isnot (pv 2) pe_non (nomark _)) (pss_one ps_no) pss_nil)
      (pss_one (ps_fld (pv 0) (pe_callTy (kList K) (by rfl) T.n_list (by decide +kernel) (pa_cons (pv 1) pa_nil)) rfl)))), ?_⟩
  rw [st_Table_init]
  obtain ⟨x, dx, R, rfl, o, hR, hok, k⟩ := h
  obtain ⟨q, vs, rfl, sq, ra⟩ := hR.list_inv
  have hl := hok.l
  ((with_reducible refine s_seq ?_); (with_reducible refine s_asg ?_); (with_reducible refine s_call ?_); (with_reducible refine s_cons ?_); (with_reducible refine' s_var ?q169 ?q170); (case q169 => exact rfl); (with_reducible refine s_nil ?_); (with_reducible refine s_pr1 ?_))
  refine ⟨_, hR, (fun ds e => by cases e; rw [List.length_map]; omega), fun v1 e1 => ?_⟩
  rw [show faultD (spD R) = none from fault_none hok]
  dsimp only [oV]
  ((with_reducible refine' s_gname ?q171 ?q172); (case q171 => simp only [ List.set_cons_succ , List.set_cons_zero ]; exact rfl); (with_reducible refine s_seq ?_); (with_reducible refine s_ifS ?_); (with_reducible refine s_test ?_); (with_reducible refine s_op ?_); (with_reducible refine' s_var ?q173 ?q174); (case q173 => exact rfl); (with_reducible refine s_c ?_); (with_reducible refine s_notNN ?_); (with_reducible refine s_bl ?_); (with_reducible refine ite_ff ?_); (with_reducible refine s_next ?_); (with_reducible refine s_sfld ?_); (with_reducible refine s_CB ?_); (with_reducible refine s_cons ?_); (with_reducible refine' s_var ?q178 ?q179); (case q178 => exact rfl); (with_reducible refine s_nil ?_); (with_reducible refine' s_listS ?q180 ?q181); (case q180 => refine' Or.inl ?q182; (case q182 => refine' SqL.of ( Wd.ok _ _ _ ?q183 ); (case q183 => refine' st_go ( by assumption ) ?q184; (case q184 => assumption)))); intro _ _ _ _ _; (with_reducible refine' s_var ?q185 ?q186); (case q185 => exact rfl); (with_reducible refine' s_rsfl ?q187 ?q188 ?q189 ?q190 ?q191 ?q192); (case q187 => refine' Own.ext ( by assumption ) ?q193 ?q194; (case q193 => exact fun h => h); (case q194 => refine' Own.ext ( by assumption ) ?q195 ?q196; (case q195 => exact fun h => h); (case q196 => assumption))); (case q188 => assumption); (case q189 => assumption); (case q190 => simp only [ List.length_cons , List.length_nil ]; omega); (case q191 => exact pf_nil); intro _ _ _)
  refine lay (R := Q .non) (show Own _ x _ by (assumption)) fun v ev sv => ?_
  exact k v (by (refine' Ext.step ?q197 ?q198 ?q199; (case q198 => assumption); (case q197 => refine' Ext.step ?q200 ?q201 ?q202; (case q201 => assumption); (case q200 => refine' Ext.step ?q203 ?q204 ?q205; (case q204 => assumption); (case q203 => refine' Ext.step ?q206 ?q207 ?q208; (case q207 => assumption); (case q206 => exact Ext.refl _ _); (case q208 => exact fun _ z => z.elim)); (case q205 => exact fun _ z => z.elim)); (case q202 => refine tch_one ?q209; refine Or.inr ?_; rfl)); (case q199 => refine tch_one ?q210; refine Or.inr ?_; rfl))) ⟨x, dx, _, rfl, sv, .lst (by (refine' st_go ( by assumption ) ?q211; (case q211 => refine' st_go ( by assumption ) ?q212; (case q212 => assumption)))) (by (refine' RpA.go ( by assumption ) ?q213; (case q213 => refine' RpA.go ( by assumption ) ?q214; (case q214 => refine' RpA.go ( by assumption ) ?q215; (case q215 => refine' RpA.go ( by assumption ) ?q216; (case q216 => assumption))))))⟩
local macro_rules | `(tactic| wtm_at "go1") => `(tactic| first
  | with_reducible refine s_makeX ?_
  | with_reducible refine s_methX ?_
  | with_reducible refine s_callX ?_
  | with_reducible refine s_ost ?_
  | with_reducible refine s_veI ?_
  | with_reducible refine s_xg ?_
  | ((with_reducible refine' s_xgv ?h ?x ?n ?k); (case h => wtm_at "hh"); (case x => assumption); (case n => assumption))
  | ((with_reducible refine' s_isXc ?c ?e ?h ?k); (case c => assumption); (case e => assumption); (case h => wtm_at "hh"))
  | ((with_reducible refine' s_isXt ?c ?e ?h ?k); (case c => assumption); (case e => assumption); (case h => wtm_at "hh"))
  | with_reducible refine s_isU ?_
  | fail "go1x")
local macro_rules | `(tactic| wtm_at "go1") => `(tactic| first
  | with_reducible refine s_methX ?_
  | with_reducible refine s_callX ?_
  | with_reducible refine s_ost ?_
  | with_reducible refine s_veI ?_
  | with_reducible refine s_xg ?_
  | ((with_reducible refine' s_xgv ?h ?x ?n ?k); (case h => wtm_at "hh"); (case x => assumption); (case n => assumption))
  | ((with_reducible refine' s_isXc ?c ?e ?h ?k); (case c => assumption); (case e => assumption); (case h => wtm_at "hh"))
  | ((with_reducible refine' s_isXt ?c ?e ?h ?k); (case c => assumption); (case e => assumption); (case h => wtm_at "hh"))
  | with_reducible refine s_isU ?_
  | fail "go1x")
/-- a list of pairs at a, to be read -/
def Ls (w : Wd) (a : V) (rows : List (Int × Int)) : Prop := ∃ p vs, a = .ref p ∧ Rd w p (.lst vs) ∧ RpA w.S vs (rows.map prD)
/-- the answer: a new list of pairs, the caller's own -/
def Tells (w : Wd) (Q : VK) (P : List (Int × Int) → Prop) : Prop := ∀ v r vs out, Ext Non w v → w.H r = none → Own v r (.lst vs) → RpA v.S vs (out.map prD) → P out → Q (.ref r) v.H
abbrev nm_joined : List Str := ["stretches", "found", "low", "high"]
theorem sc_joined : FnScope nm_joined ["stretches"] (defScope s_joined) := ⟨rfl, rfl, rfl, by decide +kernel, rfl, by decide +kernel, by decide +kernel⟩
theorem st_joined (a : V) : start nm_joined [a] = [some a, none, none, none] := rfl
def p_joined (w : Wd) (a : V) (Q : VK) (_ : XK) : Prop := ∃ rows, Ls w a rows ∧ (∀ q ∈ rows, q.1 ≤ q.2) ∧ rows.length < 2 ^ 20 ∧ Tells w Q fun out => Sp none out ∧ out.length ≤ rows.length ∧ ∀ n, ins out n ↔ ins rows n
theorem ok_joined {f : Addr} {fd : FuncData} {C_Entry C_Within C_At C_Between C_Table C_Read C_Log C_LogError C_NoEntry C_NoMoment C_NoName C_NoPlace C_NoReading : Addr} (F : Fun K "joined" "joined" s_joined f fd) (T : Txt K mg C_Entry C_Within C_At C_Between C_Table C_Read C_Log C_LogError C_NoEntry C_NoMoment C_NoName C_NoPlace C_NoReading)  : FnOk P ww K mg base CX0 1 f fd ["stretches"] (pr1 (p_joined)) := by
  refine F.ok sc_joined (fun vs H Q E h => len1 h) (fun cdv A outer s H vs Q E hr h => ?_)
  obtain ⟨w, x0,  rfl, rfl, h⟩ := h
  have ekT := ek_T T
  have oex_NoEntry := T.oex_NoEntry; have xf_NoEntry := T.xf_NoEntry; have ec_NoEntry := T.ec_NoEntry; have xn_NoEntry := T.xn_NoEntry
  have oex_NoMoment := T.oex_NoMoment; have xf_NoMoment := T.xf_NoMoment; have ec_NoMoment := T.ec_NoMoment; have xn_NoMoment := T.xn_NoMoment
  have oex_NoName := T.oex_NoName; have xf_NoName := T.xf_NoName; have ec_NoName := T.ec_NoName; have xn_NoName := T.xn_NoName
  have oex_NoPlace := T.oex_NoPlace; have xf_NoPlace := T.xf_NoPlace; have ec_NoPlace := T.ec_NoPlace; have xn_NoPlace := T.xn_NoPlace
  have oex_NoReading := T.oex_NoReading; have xf_NoReading := T.xf_NoReading; have ec_NoReading := T.ec_NoReading; have xn_NoReading := T.xn_NoReading
  have rel_NoEntry_NoEntry := T.rel_NoEntry_NoEntry
  have exm_NoEntry_NoEntry := T.exm_NoEntry_NoEntry
  refine ⟨_, (pss_cons (ps_set (i := 1) sc_joined.nd rfl (Or.inl rfl) (pe_lst pa_nil))
      (pss_cons (ps_for PassesOwn.never rfl (kpList K (pe_callB (kSortedP K) (by rfl) T.n_sorted (by decide +kernel) (pa_cons (pv 0) pa_nil))) (kgTup K (by rfl) (pgs_cons (pg_name (i := 2) sc_joined.nd rfl (Or.inl rfl)) (pgs_cons (pg_name (i := 3) sc_joined.nd rfl (Or.inl rfl)) pgs_nil))) (pss_one (ps_if (PW.pt (pw_and (pt_cmpR (kNe K hr.units) (pv 1) (pe_lst pa_nil) (nomark _)) (pw_and1 (pt_cmpR g_le (pv 2) (pe_op (kAdd K) (pe_ix (kIx K) (pe_ix (kIx K) (pv 1) (pe_un un_neg pe_int) (fun _ _ => rfl)) pe_int (fun _ _ => rfl)) pe_int) (nomark _))))) (pss_one (ps_asg (pe_tup (pa_cons (pe_ix (kIx K) (pe_ix (kIx K) (pv 1) (pe_un un_neg pe_int) (fun _ _ => rfl)) pe_int (fun _ _ => rfl)) (pa_cons (pe_callB (kMax K rfl) (by rfl) T.n_max (by decide +kernel) (pa_cons (pe_ix (kIx K) (pe_ix (kIx K) (pv 1) (pe_un un_neg pe_int) (fun _ _ => rfl)) pe_int (fun _ _ => rfl)) (pa_cons (pv 3) pa_nil))) pa_nil))) (pg_sub (pv 1) (pe_un un_neg pe_int) set_list))) (pss_one (ps_expr (pe_bm PySem.F.plainAttrs_list PySem.F.slot_list_append PySem.F.type_list_append mt_append (pv 1) (pa_cons (pe_tup (pa_cons (pv 2) (pa_cons (pv 3) pa_nil))) pa_nil)))))))
      (pss_one (ps_ret (pv 1))))), ?_⟩
  rw [st_joined]
  obtain ⟨rows, ⟨a, vs, rfl, ra, ha⟩, hw, hl, k⟩ := h
  ((with_reducible refine s_seq ?_); (with_reducible refine s_asg ?_); (with_reducible refine t_lst ?_); (with_reducible refine s_nil ?_); (with_reducible refine' t_newL ?q0 ?q1); (case q0 => simp only [ List.length , sizeLine_eq ]; omega); intro _ _ _ _ _; (with_reducible refine' s_gname ?q2 ?q3); (case q2 => simp only [ List.set_cons_succ , List.set_cons_zero ]; exact rfl); (with_reducible refine s_seq ?_); (with_reducible refine s_for ?_); (with_reducible refine s_iList ?_); (with_reducible refine s_CB ?_); (with_reducible refine s_cons ?_); (with_reducible refine' s_var ?q4 ?q5); (case q4 => exact rfl); (with_reducible refine s_nil ?_))
  rename_i f wf ef nf of
  refine s_sortP (by (refine' SqL.of ( Rd.h ?q11 ); (case q11 => refine' Rd.go ( by assumption ) ?q12 ?q13; (case q12 => exact fun h => h); (case q13 => assumption)))) (by (refine' RpA.go ( by assumption ) ?q14; (case q14 => assumption))) fun p v S vs' e n s hS hp hs => ?_
  (refine' ⟨ _ , rfl , ⟨ _ , ?q15 ⟩ , ?q16 ⟩; (case q15 => refine' SqL.of ( Wd.ok _ _ _ ?q17 ); (case q17 => assumption)))
  have hwS : ∀ q ∈ S, q.1 ≤ q.2 := fun q hq => hw q (hp.mem_iff.mp hq)
  have hlS : S.length = rows.length := hp.length_eq
  have hvl := hS.length
  rw [List.length_map] at hvl
  refine forW (ww_list (xs := vs')) (fun i σ u => Ext (One f) v u ∧ ∃ l h fs us, σ = [some (.ref a), some (.ref f), l, h] ∧ Own u f (.lst us) ∧ RpA u.S us (fs.map prD) ∧ JInv S i fs) ⟨Ext.refl _ _, _, _, [], [], rfl, by (refine' Own.ext ( by assumption ) ?q18 ?q19; (case q18 => exact fun h => h); (case q19 => assumption)), .nil, .nil⟩ (fun i σ u _ p => by have := p.1; exact sql_of (st_go this s)) ?_ ?_
  · rintro i x σ _ u hi ⟨eu, l, h, fs, us, rfl, ou, hus, J⟩ ⟨rfl, hx⟩
    obtain ⟨d, h3, h4⟩ := hS.get hx
    have hi' : i < S.length := by omega
    have h3' : d = prD S[i] := by rw [List.getElem?_map, List.getElem?_eq_getElem hi'] at h3; exact (Option.some.inj h3).symm
    subst h3'
    have hq : S[i]? = some S[i] := List.getElem?_eq_getElem hi'
    have hww := hwS _ (List.mem_of_getElem? hq)
    generalize S[i] = q at hq h4 hww
    obtain ⟨lo, hh⟩ := q
    obtain ⟨t, rfl, ht⟩ := pr_inv (h4.go eu)
    have hul : us.length < 2 ^ 20 := by
      have h5 := hus.length
      rw [List.length_map] at h5
      have := J.len
      omega
    ((with_reducible refine' s_gtup ?q20 ?q21 ?q22); (case q20 => assumption); (case q21 => exact rfl); (with_reducible refine s_gcons ?_); (with_reducible refine' s_gname ?q23 ?q24); (case q23 => simp only [ List.set_cons_succ , List.set_cons_zero ]; exact rfl); (with_reducible refine s_gcons ?_); (with_reducible refine' s_gname ?q25 ?q26); (case q25 => simp only [ List.set_cons_succ , List.set_cons_zero ]; exact rfl); (with_reducible refine s_gnil ?_); (with_reducible refine s_ifS ?_); (with_reducible refine s_and ?_); (with_reducible refine s_test ?_); (with_reducible refine s_op ?_); (with_reducible refine' s_var ?q27 ?q28); (case q27 => exact rfl); (with_reducible refine t_lst ?_); (with_reducible refine s_nil ?_); (with_reducible refine' t_newLS ?q29 ?q30); (case q29 => simp only [ List.length , sizeLine_eq ]; omega); intro _ _ _ _ _)
    refine s_neN (by (refine' Or.inr ?q51; (case q51 => refine' Own.ext ( by assumption ) ?q52 ?q53; (case q52 => exact fun h => h); (case q53 => assumption)))) (by (refine' RpA.go ( by assumption ) ?q54; (case q54 => assumption))) (by (assumption)) ?_
    rcases nil_or_snoc fs with rfl | ⟨fs, ⟨a, b⟩, rfl⟩
    · rw [show (!([] : List (Int × Int)).isEmpty) = false from rfl]
      ((with_reducible refine s_bl ?_); (with_reducible refine ite_ff ?_); (with_reducible refine ite_ff ?_); (with_reducible refine s_drop ?_); (with_reducible refine s_BM ?_); (with_reducible refine' s_var ?q61 ?q62); (case q61 => exact rfl); (with_reducible refine' s_ty ?q63 ?q64); (case q63 => refine' Own.ext ( by assumption ) ?q65 ?q66; (case q65 => exact fun h => h); (case q66 => assumption)); (with_reducible refine s_cons ?_); (with_reducible refine t_tup ?_); (with_reducible refine s_cons ?_); (with_reducible refine' s_var ?q67 ?q68); (case q67 => exact rfl); (with_reducible refine s_cons ?_); (with_reducible refine' s_var ?q69 ?q70); (case q69 => exact rfl); (with_reducible refine s_nil ?_); (with_reducible refine' t_newT ?q71 ?q72); (case q71 => simp only [ List.length , sizeLine_eq ]; omega); intro _ _ _ _ _; (with_reducible refine s_nil ?_); (with_reducible refine' s_app ?q73 ?q74 ?q75); (case q73 => refine' Own.ext ( by assumption ) ?q76 ?q77; (case q76 => exact fun h => h); (case q77 => refine' Own.ext ( by assumption ) ?q78 ?q79; (case q78 => exact fun h => h); (case q79 => assumption))); (case q74 => simp only [ List.length_append , List.length_cons , List.length_nil , List.length_map , List.length_reverse , List.length_replicate , sizeLine_eq ]; omega); intro _ _ _; (with_reducible refine wds_i ?_))
      refine ⟨by (refine' Ext.step ?q80 ?q81 ?q82; (case q81 => assumption); (case q80 => refine' Ext.step ?q83 ?q84 ?q85; (case q84 => assumption); (case q83 => refine' Ext.step ?q86 ?q87 ?q88; (case q87 => assumption); (case q86 => assumption); (case q88 => exact fun _ z => z.elim)); (case q85 => exact fun _ z => z.elim)); (case q82 => refine tch_one ?q89; refine Or.inr ?_; rfl)), _, _, _, _, rfl, by (assumption), ?_, J.app hs hq hww fun x z => by cases z⟩
      rw [List.map_append]
      exact RpA.append (by (refine' RpA.go ( by assumption ) ?q90; (case q90 => refine' RpA.go ( by assumption ) ?q91; (case q91 => refine' RpA.go ( by assumption ) ?q92; (case q92 => assumption))))) (.one (pr_rp (by (refine' st_go ( by assumption ) ?q93; (case q93 => assumption)))))
    · rw [show (!(fs ++ [(a, b)]).isEmpty) = true by simp]
      rw [List.map_append] at hus
      obtain ⟨us, y, rfl, hu1, hu2⟩ := RpA.snoc_inv hus
      obtain ⟨t2, rfl, ht2⟩ := pr_inv hu2
      have hul : us.length + 1 < 2 ^ 20 := by simpa using hul
      ((with_reducible refine s_bl ?_); (with_reducible refine ite_tt ?_); (with_reducible refine s_test ?_); (with_reducible refine s_op ?_); (with_reducible refine' s_var ?q97 ?q98); (case q97 => exact rfl); (with_reducible refine s_op ?_); (with_reducible refine s_op ?_); (with_reducible refine s_op ?_); (with_reducible refine' s_var ?q99 ?q100); (case q99 => exact rfl); (with_reducible refine s_un ?_); (with_reducible refine s_c ?_); (with_reducible refine s_neg ?_); (with_reducible refine' s_ixO ?q120 ?q121 ?q122); (case q120 => refine' Own.ext ( by assumption ) ?q123 ?q124; (case q123 => exact fun h => h); (case q124 => assumption)); (case q121 => exact atI_snoc); (with_reducible refine s_c ?_); (with_reducible refine' s_ixT ?q125 ?q126 ?q127); (case q125 => refine' st_go ( by assumption ) ?q128; (case q128 => assumption)); (case q126 => exact rfl); (with_reducible refine s_c ?_); (with_reducible refine s_add ?_); (with_reducible refine s_le ?_); (with_reducible refine s_bl ?_))
      refine ite_d (fun hc => ?_) (fun hc => ?_)
      · ((with_reducible refine s_asg ?_); (with_reducible refine t_tup ?_); (with_reducible refine s_cons ?_); (with_reducible refine s_op ?_); (with_reducible refine s_op ?_); (with_reducible refine' s_var ?q129 ?q130); (case q129 => exact rfl); (with_reducible refine s_un ?_); (with_reducible refine s_c ?_); (with_reducible refine s_neg ?_); (with_reducible refine' s_ixO ?q150 ?q151 ?q152); (case q150 => refine' Own.ext ( by assumption ) ?q153 ?q154; (case q153 => exact fun h => h); (case q154 => assumption)); (case q151 => exact atI_snoc); (with_reducible refine s_c ?_); (with_reducible refine' s_ixT ?q155 ?q156 ?q157); (case q155 => refine' st_go ( by assumption ) ?q158; (case q158 => assumption)); (case q156 => exact rfl); (with_reducible refine s_cons ?_); (with_reducible refine s_CB ?_); (with_reducible refine s_cons ?_); (with_reducible refine s_op ?_); (with_reducible refine s_op ?_); (with_reducible refine' s_var ?q159 ?q160); (case q159 => exact rfl); (with_reducible refine s_un ?_); (with_reducible refine s_c ?_); (with_reducible refine s_neg ?_); (with_reducible refine' s_ixO ?q180 ?q181 ?q182); (case q180 => refine' Own.ext ( by assumption ) ?q183 ?q184; (case q183 => exact fun h => h); (case q184 => assumption)); (case q181 => exact atI_snoc); (with_reducible refine s_c ?_); (with_reducible refine' s_ixT ?q185 ?q186 ?q187); (case q185 => refine' st_go ( by assumption ) ?q188; (case q188 => assumption)); (case q186 => exact rfl); (with_reducible refine s_cons ?_); (with_reducible refine' s_var ?q189 ?q190); (case q189 => exact rfl); (with_reducible refine s_nil ?_); (with_reducible refine s_max ?_); (with_reducible refine s_nil ?_); (with_reducible refine' t_newT ?q191 ?q192); (case q191 => simp only [ List.length , sizeLine_eq ]; omega); intro _ _ _ _ _; (with_reducible refine s_gsub ?_); (with_reducible refine' s_var ?q193 ?q194); (case q193 => exact rfl); (with_reducible refine s_un ?_); (with_reducible refine s_c ?_); (with_reducible refine s_neg ?_); (with_reducible refine' s_setB ?q195 ?q196); (case q195 => refine' Own.ext ( by assumption ) ?q197 ?q198; (case q197 => exact fun h => h); (case q198 => refine' Own.ext ( by assumption ) ?q199 ?q200; (case q199 => exact fun h => h); (case q200 => assumption))); intro _ _ _; (with_reducible refine wds_i ?_))
        refine ⟨by (refine' Ext.step ?q201 ?q202 ?q203; (case q202 => assumption); (case q201 => refine' Ext.step ?q204 ?q205 ?q206; (case q205 => assumption); (case q204 => refine' Ext.step ?q207 ?q208 ?q209; (case q208 => assumption); (case q207 => assumption); (case q209 => exact fun _ z => z.elim)); (case q206 => exact fun _ z => z.elim)); (case q203 => refine tch_one ?q210; refine Or.inr ?_; rfl)), _, _, _, _, rfl, by (assumption), ?_, J.mrg hq hww hc⟩
        rw [List.map_append]
        exact RpA.append (by (refine' RpA.go ( by assumption ) ?q211; (case q211 => refine' RpA.go ( by assumption ) ?q212; (case q212 => refine' RpA.go ( by assumption ) ?q213; (case q213 => assumption))))) (.one (pr_rp (by (refine' st_go ( by assumption ) ?q214; (case q214 => assumption)))))
      · ((with_reducible refine s_drop ?_); (with_reducible refine s_BM ?_); (with_reducible refine' s_var ?q215 ?q216); (case q215 => exact rfl); (with_reducible refine' s_ty ?q217 ?q218); (case q217 => refine' Own.ext ( by assumption ) ?q219 ?q220; (case q219 => exact fun h => h); (case q220 => assumption)); (with_reducible refine s_cons ?_); (with_reducible refine t_tup ?_); (with_reducible refine s_cons ?_); (with_reducible refine' s_var ?q221 ?q222); (case q221 => exact rfl); (with_reducible refine s_cons ?_); (with_reducible refine' s_var ?q223 ?q224); (case q223 => exact rfl); (with_reducible refine s_nil ?_); (with_reducible refine' t_newT ?q225 ?q226); (case q225 => simp only [ List.length , sizeLine_eq ]; omega); intro _ _ _ _ _; (with_reducible refine s_nil ?_); (with_reducible refine' s_app ?q227 ?q228 ?q229); (case q227 => refine' Own.ext ( by assumption ) ?q230 ?q231; (case q230 => exact fun h => h); (case q231 => refine' Own.ext ( by assumption ) ?q232 ?q233; (case q232 => exact fun h => h); (case q233 => assumption))); (case q228 => simp only [ List.length_append , List.length_cons , List.length_nil , List.length_map , List.length_reverse , List.length_replicate , sizeLine_eq ]; omega); intro _ _ _; (with_reducible refine wds_i ?_))
        refine ⟨by (refine' Ext.step ?q234 ?q235 ?q236; (case q235 => assumption); (case q234 => refine' Ext.step ?q237 ?q238 ?q239; (case q238 => assumption); (case q237 => refine' Ext.step ?q240 ?q241 ?q242; (case q241 => assumption); (case q240 => assumption); (case q242 => exact fun _ z => z.elim)); (case q239 => exact fun _ z => z.elim)); (case q236 => refine tch_one ?q243; refine Or.inr ?_; rfl)), _, _, _, _, rfl, by (assumption), ?_, J.app hs hq hww fun x hx => ?_⟩
        · rw [List.map_append, List.map_append]
          exact RpA.append (RpA.append (by (refine' RpA.go ( by assumption ) ?q244; (case q244 => refine' RpA.go ( by assumption ) ?q245; (case q245 => refine' RpA.go ( by assumption ) ?q246; (case q246 => assumption))))) (.one (by (refine' Rp.tup ?q247 ?q248; (case q247 => refine' st_go ( by assumption ) ?q249; (case q249 => refine' st_go ( by assumption ) ?q250; (case q250 => refine' st_go ( by assumption ) ?q251; (case q251 => assumption)))); (case q248 => refine' RpA.cons ?q252 ?q253; (case q252 => exact Rp.int _); (case q253 => refine' RpA.cons ?q254 ?q255; (case q254 => exact Rp.int _); (case q255 => exact RpA.nil))))))) (.one (pr_rp (by (refine' st_go ( by assumption ) ?q256; (case q256 => assumption)))))
        · rw [lastHi_snoc] at hx
          cases hx
          show _ ≤ lo
          omega
  · rintro σ u ⟨eu, l, h, fs, us, rfl, ou, hus, J⟩
    ((with_reducible refine s_ret ?_); (with_reducible refine' s_var ?q257 ?q258); (case q257 => exact rfl))
    refine k u f us fs (by (refine' Ext.step ?q259 ?q260 ?q261; (case q260 => assumption); (case q259 => refine' Ext.step ?q262 ?q263 ?q264; (case q263 => assumption); (case q262 => assumption); (case q264 => exact fun _ z => z.elim)); (case q261 => refine tch_one ?q265; refine Or.inl ?_; assumption))) (by assumption) ou hus ⟨J.sp, by have := J.len; omega, fun n => ?_⟩
    rw [J.mem, hvl, List.take_length, ins_perm hp]
def isStretch : PyData → Bool
  | .tuple ds => decide (ds.length = 2) && ds.all isNum
  | _ => false
abbrev nm_is_stretch : List Str := ["thing", "number"]
theorem sc_is_stretch : FnScope nm_is_stretch ["thing"] (defScope s_is_stretch) := ⟨rfl, rfl, rfl, by decide +kernel, rfl, by decide +kernel, by decide +kernel⟩
theorem st_is_stretch (a : V) : start nm_is_stretch [a] = [some a, none] := rfl
def p_is_stretch (w : Wd) (a : V) (Q : VK) (_ : XK) : Prop := ∃ d, Rp w.S a d ∧ ∀ v, Ext Non w v → Q (.bl (isStretch d)) v.H
theorem ok_is_stretch {f : Addr} {fd : FuncData} {C_Entry C_Within C_At C_Between C_Table C_Read C_Log C_LogError C_NoEntry C_NoMoment C_NoName C_NoPlace C_NoReading : Addr} (F : Fun K "is_stretch" "is_stretch" s_is_stretch f fd) (T : Txt K mg C_Entry C_Within C_At C_Between C_Table C_Read C_Log C_LogError C_NoEntry C_NoMoment C_NoName C_NoPlace C_NoReading)  : FnOk P ww K mg base CX0 1 f fd ["thing"] (pr1 (p_is_stretch)) := by
  refine F.ok sc_is_stretch (fun vs H Q E h => len1 h) (fun cdv A outer s H vs Q E hr h => ?_)
  obtain ⟨w, x0,  rfl, rfl, h⟩ := h
  have ekT := ek_T T
  have oex_NoEntry := T.oex_NoEntry; have xf_NoEntry := T.xf_NoEntry; have ec_NoEntry := T.ec_NoEntry; have xn_NoEntry := T.xn_NoEntry
  have oex_NoMoment := T.oex_NoMoment; have xf_NoMoment := T.xf_NoMoment; have ec_NoMoment := T.ec_NoMoment; have xn_NoMoment := T.xn_NoMoment
  have oex_NoName := T.oex_NoName; have xf_NoName := T.xf_NoName; have ec_NoName := T.ec_NoName; have xn_NoName := T.xn_NoName
  have oex_NoPlace := T.oex_NoPlace; have xf_NoPlace := T.xf_NoPlace; have ec_NoPlace := T.ec_NoPlace; have xn_NoPlace := T.xn_NoPlace
  have oex_NoReading := T.oex_NoReading; have xf_NoReading := T.xf_NoReading; have ec_NoReading := T.ec_NoReading; have xn_NoReading := T.xn_NoReading
  have rel_NoEntry_NoEntry := T.rel_NoEntry_NoEntry
  have exm_NoEntry_NoEntry := T.exm_NoEntry_NoEntry
  refine ⟨_, (pss_cons (ps_if (PW.pt (pw_or (pt_not (pt_val (pe_callB (kIsi K) (by rfl) T.n_isinstance (by decide +kernel) (pa_cons (pv 0) (pa_cons (pe_bltn (v := .ty "tuple") (u := .type "tuple") rfl T.n_tuple (by decide +kernel) rfl) pa_nil))))) (pw_or1 (pt_cmpR (kNe K hr.units) (pe_callB (kLen K) (by rfl) T.n_len (by decide +kernel) (pa_cons (pv 0) pa_nil)) pe_int (nomark _))))) (pss_one (ps_ret pe_bl)) pss_nil)
      (pss_one (ps_ret (pe_callB (kAll K rfl) (by rfl) T.n_all (by decide +kernel) (pa_cons (pe_lc (own := [("number", 1)]) (g := (gName 1)) (tt := tYes) (by rfl) sc_is_stretch.nd (kpTup K (pv 0)) (blkOk_by (own := [("number", 1)]) (N := nm_is_stretch) (sc := defScope s_is_stretch) (by decide +kernel)) (fun _ _ _ _ _ => (pg_name (i := 1) sc_is_stretch.nd rfl (Or.inl rfl))) (fun _ _ _ _ _ => pts_nil) (fun _ _ _ _ _ => (pe_and (pe_callB (kIsi K) (by rfl) T.n_isinstance (by decide +kernel) (pa_cons (pv 1) (pa_cons (pe_bltn (v := .ty "int") (u := .type "int") rfl T.n_int (by decide +kernel) rfl) pa_nil))) (pe_one (pe_not (pe_callB (kIsi K) (by rfl) T.n_isinstance (by decide +kernel) (pa_cons (pv 1) (pa_cons (pe_bltn (v := .ty "bool") (u := .type "bool") rfl T.n_bool (by decide +kernel) rfl) pa_nil)))))))) pa_nil))))), ?_⟩
  rw [st_is_stretch]
  obtain ⟨d, hd, k⟩ := h
  ((with_reducible refine s_seq ?_); (with_reducible refine s_ifS ?_); (with_reducible refine s_or ?_); (with_reducible refine s_not ?_); (with_reducible refine s_B ?_); (with_reducible refine s_CB ?_); (with_reducible refine s_cons ?_); (with_reducible refine' s_var ?q0 ?q1); (case q0 => exact rfl); (with_reducible refine s_cons ?_); (with_reducible refine s_c ?_); (with_reducible refine s_nil ?_); (with_reducible refine' sd_tuple ?q2 ?q3); (case q2 => assumption); (with_reducible refine s_bl ?_))
  refine ite_n (fun hb => ?_) (fun hb => ?_)
  · ((with_reducible refine ite_tt ?_); (with_reducible refine s_ret ?_); (with_reducible refine s_c ?_))
    have e : isStretch d = false := by cases d <;> first | rfl | cases hb
    exact e ▸ k w (Ext.refl _ _)
  · obtain ⟨ds, rfl⟩ := isTup_inv hb
    obtain ⟨a, vs, rfl, hs, ha⟩ := hd.tuple_inv
    have hl := ha.length
    ((with_reducible refine s_test ?_); (with_reducible refine s_op ?_); (with_reducible refine s_CB ?_); (with_reducible refine s_cons ?_); (with_reducible refine' s_var ?q4 ?q5); (case q4 => exact rfl); (with_reducible refine s_nil ?_); (with_reducible refine' s_lenT ?q6 ?q7); (case q6 => assumption); (with_reducible refine s_c ?_); (with_reducible refine s_neI ?_); (with_reducible refine s_bl ?_))
    refine ite_d (fun h2 => ?_) (fun h2 => ?_)
    · ((with_reducible refine s_ret ?_); (with_reducible refine s_c ?_))
      have e : isStretch (.tuple ds) = false := by simp only [isStretch]; rw [decide_eq_false (by omega), Bool.false_and]
      exact e ▸ k w (Ext.refl _ _)
    · ((with_reducible refine s_next ?_); (with_reducible refine s_ret ?_); (with_reducible refine s_CB ?_); (with_reducible refine s_cons ?_); (with_reducible refine s_Lc ?_); (with_reducible refine s_iTup ?_); (with_reducible refine' s_var ?q8 ?q9); (case q8 => exact rfl); refine' ⟨ _ , rfl , ⟨ _ , ?q10 ⟩ , ?q11 ⟩; (case q10 => refine' sqt_of ?q12; (case q12 => assumption)))
      intro D hD
      refine lc_pure (ww_tup (xs := vs)) ((ds.map isNum).map V.bl) hD (fun u e => sqt_ext e hs) (by simp [hl]) (by rw [sizeLine_eq]; omega) (fun _ => rfl) ?_ ?_
      · intro i x y u hi hx hy e R kR
        obtain ⟨d, h3, h4⟩ := ha.get hx
        obtain rfl : y = .bl (isNum d) := by simp [h3] at hy; exact hy.symm
        ((with_reducible refine s_andV ?_); (with_reducible refine s_CB ?_); (with_reducible refine s_cons ?_); (with_reducible refine' s_var ?q13 ?q14); (case q13 => exact rfl); (with_reducible refine s_cons ?_); (with_reducible refine s_c ?_); (with_reducible refine s_nil ?_); (with_reducible refine' sd_int ?q15 ?q16); (case q15 => refine' Rp.go ( by assumption ) ?q17; (case q17 => assumption)); (with_reducible refine s_bl ?_))
        refine ite_b (fun h5 => ?_) (fun h5 => ?_)
        · ((with_reducible refine s_notV ?_); (with_reducible refine s_CB ?_); (with_reducible refine s_cons ?_); (with_reducible refine' s_var ?q18 ?q19); (case q18 => exact rfl); (with_reducible refine s_cons ?_); (with_reducible refine s_c ?_); (with_reducible refine s_nil ?_); (with_reducible refine' sd_bool ?q20 ?q21); (case q20 => refine' Rp.go ( by assumption ) ?q22; (case q22 => assumption)); (with_reducible refine s_bl ?_))
          have e5 : isNum d = !isBool d := by unfold isNum; rw [h5, Bool.true_and]
          exact e5 ▸ kR u (Ext.refl _ _)
        · have e5 : isNum d = false := by unfold isNum; rw [h5, Bool.false_and]
          exact e5 ▸ kR u (Ext.refl _ _)
      · intro u eu hD o
        ((with_reducible refine s_nil ?_); (with_reducible refine' s_allO ?q23 ?q24); (case q23 => assumption))
        have e : isStretch (.tuple ds) = (ds.map isNum).all id := by simp only [isStretch]; rw [decide_eq_true (by omega), Bool.true_and, List.all_map]; rfl
        exact e ▸ k u eu
theorem drop_at {α : Type} {xs : List α} {i : Nat} {x : α} (h : xs[i]? = some x) : xs.drop i = x :: xs.drop (i + 1) := by
  obtain ⟨h1, rfl⟩ := List.getElem?_eq_some_iff.mp h
  exact List.drop_eq_getElem_cons h1
/-- the last high -/
def lastHi (l : Option Int) : List (Int × Int) → Option Int
  | [] => l
  | p :: r => lastHi (some p.2) r
theorem lastHi_snoc (a b : Int) : ∀ (l : Option Int) (rows : List (Int × Int)), lastHi l (rows ++ [(a, b)]) = some b
  | _, [] => rfl
  | _, p :: r => lastHi_snoc a b (some p.2) r
abbrev nm_NoReading_init : List Str := ["self", "found"]
theorem sc_NoReading_init : FnScope nm_NoReading_init ["self", "found"] (defScope s_NoReading_init) := ⟨rfl, rfl, rfl, by decide +kernel, rfl, by decide +kernel, by decide +kernel⟩
theorem st_NoReading_init (a b : V) : start nm_NoReading_init [a, b] = [some a, some b] := rfl
abbrev p_NoReading_init (C : Addr) := initX (Str.ofString "found") C
theorem ok_NoReading_init {f : Addr} {fd : FuncData} {C_Entry C_Within C_At C_Between C_Table C_Read C_Log C_LogError C_NoEntry C_NoMoment C_NoName C_NoPlace C_NoReading : Addr} (F : Fun K "__init__" "NoReading.__init__" s_NoReading_init f fd) (T : Txt K mg C_Entry C_Within C_At C_Between C_Table C_Read C_Log C_LogError C_NoEntry C_NoMoment C_NoName C_NoPlace C_NoReading)  : FnOk P ww K mg base CX0 1 f fd ["self", "found"] (pr2 (p_NoReading_init C_NoReading)) := by
  refine F.ok sc_NoReading_init (fun vs H Q E h => len2 h) (fun cdv A outer s H vs Q E hr h => ?_)
  obtain ⟨w, x0, x1,  rfl, rfl, h⟩ := h
  have ekT := ek_T T
  have cl_Table := T.cl_Table
  have na_Table_kept_rows := T.na_Table_kept_rows
  have cl_Log := T.cl_Log
  have na_Log_bound := T.na_Log_bound
  have na_Log_clocks := T.na_Log_clocks
  have na_Log_line := T.na_Log_line
  have na_Log_name := T.na_Log_name
  have oex_NoEntry := T.oex_NoEntry; have xf_NoEntry := T.xf_NoEntry; have ec_NoEntry := T.ec_NoEntry; have xn_NoEntry := T.xn_NoEntry
  have oex_NoMoment := T.oex_NoMoment; have xf_NoMoment := T.xf_NoMoment; have ec_NoMoment := T.ec_NoMoment; have xn_NoMoment := T.xn_NoMoment
  have oex_NoName := T.oex_NoName; have xf_NoName := T.xf_NoName; have ec_NoName := T.ec_NoName; have xn_NoName := T.xn_NoName
  have oex_NoPlace := T.oex_NoPlace; have xf_NoPlace := T.xf_NoPlace; have ec_NoPlace := T.ec_NoPlace; have xn_NoPlace := T.xn_NoPlace
  have oex_NoReading := T.oex_NoReading; have xf_NoReading := T.xf_NoReading; have ec_NoReading := T.ec_NoReading; have xn_NoReading := T.xn_NoReading
  have rel_NoEntry_NoEntry := T.rel_NoEntry_NoEntry
  have exm_NoEntry_NoEntry := T.exm_NoEntry_NoEntry
  refine ⟨_, (pss_cons (ps_expr (pe_xinit (pe_glob (v := .ref C_LogError) (u := .ref C_LogError) rfl T.g_LogError rfl) T.rd_LogError T.gs_LogError T.vv_LogError (pa_cons (pv 0) (pa_cons pe_str pa_nil))))
      (pss_one (ps_ost (pv 0) (pv 1)))), ?_⟩
  rw [st_NoReading_init]
  obtain ⟨x, rfl, hx, k⟩ := h
  ((with_reducible refine s_seq ?_); (with_reducible refine s_drop ?_); (with_reducible refine s_veI ?_); (with_reducible refine s_cons ?_); (with_reducible refine' s_var ?q25 ?q26); (case q25 => exact rfl); (with_reducible refine s_cons ?_); (with_reducible refine s_c ?_); (with_reducible refine s_nil ?_))
  refine ⟨x, _, _, rfl, by simp, oex_NoReading, hx, ?_⟩
  ((with_reducible refine s_ost ?_); (with_reducible refine' s_var ?q27 ?q28); (case q27 => exact rfl); (with_reducible refine' s_var ?q29 ?q30); (case q29 => exact rfl))
  exact ⟨x, C_NoReading, rfl, oex_NoReading, xn_NoReading, .inl ⟨hx, fun dx h1 h2 => k dx h1 h2⟩⟩
abbrev nm_Table_pieces : List Str := ["self", "found", "at", "moment", "shift", "last"]
theorem sc_Table_pieces : FnScope nm_Table_pieces ["self"] (defScope s_Table_pieces) := ⟨rfl, rfl, rfl, by decide +kernel, rfl, by decide +kernel, by decide +kernel⟩
theorem st_Table_pieces (a : V) : start nm_Table_pieces [a] = [some a, none, none, none, none, none] := rfl
def p_Table_pieces (C : Addr) (w : Wd) (a : V) (Q : VK) (_ : XK) : Prop := ∃ R, TbS C w.S a R ∧ TabOk R ∧ ∀ v r vs, Ext Non w v → w.H r = none → Own v r (.lst vs) → RpA v.S vs ((pcsI R).map trD3) → Q (.ref r) v.H
theorem ok_Table_pieces {f : Addr} {fd : FuncData} {C_Entry C_Within C_At C_Between C_Table C_Read C_Log C_LogError C_NoEntry C_NoMoment C_NoName C_NoPlace C_NoReading : Addr} (F : Fun K "pieces" "Table.pieces" s_Table_pieces f fd) (T : Txt K mg C_Entry C_Within C_At C_Between C_Table C_Read C_Log C_LogError C_NoEntry C_NoMoment C_NoName C_NoPlace C_NoReading)  : FnOk P ww K mg base CX0 1 f fd ["self"] (pr1 (p_Table_pieces C_Table)) := by
  refine F.ok sc_Table_pieces (fun vs H Q E h => len1 h) (fun cdv A outer s H vs Q E hr h => ?_)
  obtain ⟨w, x0,  rfl, rfl, h⟩ := h
  have ekT := ek_T T
  have cl_Table := T.cl_Table
  have na_Table_kept_rows := T.na_Table_kept_rows
  have cl_Log := T.cl_Log
  have na_Log_bound := T.na_Log_bound
  have na_Log_clocks := T.na_Log_clocks
  have na_Log_line := T.na_Log_line
  have na_Log_name := T.na_Log_name
  have oex_NoEntry := T.oex_NoEntry; have xf_NoEntry := T.xf_NoEntry; have ec_NoEntry := T.ec_NoEntry; have xn_NoEntry := T.xn_NoEntry
  have oex_NoMoment := T.oex_NoMoment; have xf_NoMoment := T.xf_NoMoment; have ec_NoMoment := T.ec_NoMoment; have xn_NoMoment := T.xn_NoMoment
  have oex_NoName := T.oex_NoName; have xf_NoName := T.xf_NoName; have ec_NoName := T.ec_NoName; have xn_NoName := T.xn_NoName
  have oex_NoPlace := T.oex_NoPlace; have xf_NoPlace := T.xf_NoPlace; have ec_NoPlace := T.ec_NoPlace; have xn_NoPlace := T.xn_NoPlace
  have oex_NoReading := T.oex_NoReading; have xf_NoReading := T.xf_NoReading; have ec_NoReading := T.ec_NoReading; have xn_NoReading := T.xn_NoReading
  have rel_NoEntry_NoEntry := T.rel_NoEntry_NoEntry
  have exm_NoEntry_NoEntry := T.exm_NoEntry_NoEntry
  refine ⟨_, (pss_cons (ps_set (i := 1) sc_Table_pieces.nd rfl (Or.inl rfl) (pe_lst pa_nil))
      (pss_cons (ps_for PassesOwn.never rfl (kpEnum K (by rfl) T.n_enumerate (pa_cons (pe_fld (pv 0) rfl) pa_nil)) (kgTup K (by rfl) (pgs_cons (pg_name (i := 2) sc_Table_pieces.nd rfl (Or.inl rfl)) (pgs_cons (kgTup K (by rfl) (pgs_cons (pg_name (i := 3) sc_Table_pieces.nd rfl (Or.inl rfl)) (pgs_cons (pg_name (i := 4) sc_Table_pieces.nd rfl (Or.inl rfl)) pgs_nil))) pgs_nil))) (pss_cons (ps_set (i := 5) sc_Table_pieces.nd rfl (Or.inl rfl) (pe_gco rfl T.c_LAST))
      (pss_cons (ps_if (pt_cmpR g_lt (pe_op (kAdd K) (pv 2) pe_int) (pe_callB (kLen K) (by rfl) T.n_len (by decide +kernel) (pa_cons (pe_fld (pv 0) rfl) pa_nil)) (nomark _)) (pss_one (ps_set (i := 5) sc_Table_pieces.nd rfl (Or.inl rfl) (pe_op g_sub (pe_ix (kIx K) (pe_ix (kIx K) (pe_fld (pv 0) rfl) (pe_op (kAdd K) (pv 2) pe_int) (fun _ _ => rfl)) pe_int (fun _ _ => rfl)) pe_int))) pss_nil)
      (pss_one (ps_expr (pe_bm PySem.F.plainAttrs_list PySem.F.slot_list_append PySem.F.type_list_append mt_append (pv 1) (pa_cons (pe_tup (pa_cons (pv 3) (pa_cons (pv 5) (pa_cons (pv 4) pa_nil)))) pa_nil)))))))
      (pss_one (ps_ret (pv 1))))), ?_⟩
  rw [st_Table_pieces]
  obtain ⟨R, ⟨x, dx, y, rfl, sx, hR⟩, hok, k⟩ := h
  obtain ⟨q, vs, rfl, sq, ra⟩ := hR.list_inv
  have la := ra.length
  rw [List.length_map] at la
  have hl := hok.l
  ((with_reducible refine s_seq ?_); (with_reducible refine s_asg ?_); (with_reducible refine t_lst ?_); (with_reducible refine s_nil ?_); (with_reducible refine' t_newL ?q31 ?q32); (case q31 => simp only [ List.length , sizeLine_eq ]; omega); intro _ _ _ _ _; (with_reducible refine' s_gname ?q33 ?q34); (case q33 => simp only [ List.set_cons_succ , List.set_cons_zero ]; exact rfl); (with_reducible refine s_seq ?_); (with_reducible refine s_for ?_); (with_reducible refine s_iEnum ?_); (with_reducible refine s_cons ?_); (with_reducible refine s_fld ?_); (with_reducible refine' s_var ?q35 ?q36); (case q35 => exact rfl); (with_reducible refine' s_rfld ?q37 ?q38 ?q39 ?q40 ?q41); (case q37 => refine' Wd.ok _ _ _ ?q42; (case q42 => refine' st_go ( by assumption ) ?q43; (case q43 => assumption))); (case q38 => assumption); (case q39 => assumption); (case q40 => exact lk_hd); (with_reducible refine s_nil ?_))
  rename_i D v1 e1 n1 o1
  refine ⟨q, vs, rfl, SqL.of (v1.ok _ _ (st_go e1 sq)), ?_⟩
  refine forW (ww_enum (xs := vs)) (fun i σ u => Ext (One D) v1 u ∧ ∃ (fs : List V) (g1 g2 g3 g4 : Option V), σ = [some (.ref x), some (.ref D), g1, g2, g3, g4] ∧ Own u D (.lst fs) ∧ RpA u.S fs (((List.range i).map (pcAt R)).map trD3)) ⟨Ext.refl _ _, [], _, _, _, _, rfl, o1, .nil⟩ (fun i σ u _ p => sql_of (st_go p.1 (st_go e1 sq))) ?_ ?_
  · rintro i z σ u v hi ⟨eu, fs, g1, g2, g3, g4, rfl, o, rf⟩ ⟨T, z1, rfl, ev, hT, sT, hz⟩
    obtain ⟨p, t, hp, rfl, st0⟩ := rpa_pr ra hz
    have lf := rf.length
    rw [List.length_map, List.length_map, List.length_range] at lf
    have epc : pcAt R i = (p.1, lastOf R i, p.2) := by
      unfold pcAt
      rw [List.getD_eq_getElem?_getD, hp]
      rfl
    have stv : v.S t = some (.tup [.int p.1, .int p.2]) := by (refine' st_go ( by assumption ) ?q44; (case q44 => refine' st_go ( by assumption ) ?q45; (case q45 => refine' st_go ( by assumption ) ?q46; (case q46 => assumption))))
    have sxv : v.S x = some (.ins C_Table dx [("kept_rows", .ref q)]) := by (refine' st_go ( by assumption ) ?q47; (case q47 => refine' st_go ( by assumption ) ?q48; (case q48 => refine' st_go ( by assumption ) ?q49; (case q49 => assumption))))
    have sqv : v.S q = some (.lst vs) := by (refine' st_go ( by assumption ) ?q50; (case q50 => refine' st_go ( by assumption ) ?q51; (case q51 => refine' st_go ( by assumption ) ?q52; (case q52 => assumption))))
    ((with_reducible refine' s_gtup ?q53 ?q54 ?q55); (case q53 => assumption); (case q54 => exact rfl); (with_reducible refine s_gcons ?_); (with_reducible refine' s_gname ?q56 ?q57); (case q56 => simp only [ List.set_cons_succ , List.set_cons_zero ]; exact rfl); (with_reducible refine s_gcons ?_); (with_reducible refine' s_gtup ?q58 ?q59 ?q60); (case q58 => assumption); (case q59 => exact rfl); (with_reducible refine s_gcons ?_); (with_reducible refine' s_gname ?q61 ?q62); (case q61 => simp only [ List.set_cons_succ , List.set_cons_zero ]; exact rfl); (with_reducible refine s_gcons ?_); (with_reducible refine' s_gname ?q63 ?q64); (case q63 => simp only [ List.set_cons_succ , List.set_cons_zero ]; exact rfl); (with_reducible refine s_gnil ?_); (with_reducible refine s_gnil ?_); (with_reducible refine s_seq ?_); (with_reducible refine s_asg ?_); (with_reducible refine s_c ?_); (with_reducible refine' s_gname ?q65 ?q66); (case q65 => simp only [ List.set_cons_succ , List.set_cons_zero ]; exact rfl); (with_reducible refine s_seq ?_))
    refine s_ifJ (fun σ u2 => Ext Non v u2 ∧ σ = [some (.ref x), some (.ref D), some (.int (i : Nat)), some (.int p.1), some (.int p.2), some (.int (lastOf R i))]) (fun Z hZ => ?_) ?_
    · ((with_reducible refine s_ifS ?_); (with_reducible refine s_test ?_); (with_reducible refine s_op ?_); (with_reducible refine s_op ?_); (with_reducible refine' s_var ?q67 ?q68); (case q67 => exact rfl); (with_reducible refine s_c ?_); (with_reducible refine s_add ?_); (with_reducible refine s_CB ?_); (with_reducible refine s_cons ?_); (with_reducible refine s_fld ?_); (with_reducible refine' s_var ?q69 ?q70); (case q69 => exact rfl); (with_reducible refine' s_rfld ?q71 ?q72 ?q73 ?q74 ?q75); (case q71 => refine' Wd.ok _ _ _ ?q76; (case q76 => assumption)); (case q72 => assumption); (case q73 => assumption); (case q74 => exact lk_hd); (with_reducible refine s_nil ?_); (with_reducible refine' s_lenL ?q82 ?q83); (case q82 => assumption); (with_reducible refine s_lt ?_); (with_reducible refine s_bl ?_))
      refine ite_d (fun c1 => ?_) (fun c1 => ?_)
      · have hq : R[i + 1]? = some R[i + 1] := List.getElem?_eq_getElem (by omega)
        generalize R[i + 1] = p2 at hq
        obtain ⟨z2, hz2, hzr⟩ := ra.get' (i := i + 1) (d := prD p2) (by rw [List.getElem?_map, hq]; rfl)
        obtain ⟨t2, rfl, st2⟩ := pr_inv (show Rp w.S z2 (prD p2) from hzr)
        have elast : lastOf R i = p2.1 - 1 := by unfold lastOf; rw [hq]
        have st2v : v.S t2 = some (.tup [.int p2.1, .int p2.2]) := by (refine' st_go ( by assumption ) ?q84; (case q84 => refine' st_go ( by assumption ) ?q85; (case q85 => refine' st_go ( by assumption ) ?q86; (case q86 => assumption))))
        ((with_reducible refine s_asg ?_); (with_reducible refine s_op ?_); (with_reducible refine s_op ?_); (with_reducible refine s_op ?_); (with_reducible refine s_fld ?_); (with_reducible refine' s_var ?q87 ?q88); (case q87 => exact rfl); (with_reducible refine' s_rfld ?q89 ?q90 ?q91 ?q92 ?q93); (case q89 => refine' Wd.ok _ _ _ ?q94; (case q94 => assumption)); (case q90 => assumption); (case q91 => assumption); (case q92 => exact lk_hd); (with_reducible refine s_op ?_); (with_reducible refine' s_var ?q95 ?q96); (case q95 => exact rfl); (with_reducible refine s_c ?_); (with_reducible refine s_add ?_))
        refine s_ixL sqv (show atI vs _ = some (V.ref t2) by rw [atI_nn (by omega) (by omega), show (((i : Nat) : Int) + 1).toNat = i + 1 by omega]; exact hz2) ?_
        ((with_reducible refine s_c ?_); (with_reducible refine' s_ixT ?q160 ?q161 ?q162); (case q160 => assumption); (case q161 => exact rfl); (with_reducible refine s_c ?_); (with_reducible refine s_sub ?_); (with_reducible refine' s_gname ?q163 ?q164); (case q163 => simp only [ List.set_cons_succ , List.set_cons_zero ]; exact rfl))
        rw [← elast]
        exact hZ _ _ ⟨by (exact Ext.refl _ _), rfl⟩
      · have elast : lastOf R i = 1000000000 := by
          unfold lastOf
          rw [List.getElem?_eq_none (by omega)]
        ((with_reducible refine s_next ?_))
        rw [← elast]
        exact hZ _ _ ⟨by (exact Ext.refl _ _), rfl⟩
    · rintro σ u2 ⟨eu2, rfl⟩
      ((with_reducible refine s_drop ?_); (with_reducible refine s_BM ?_); (with_reducible refine' s_var ?q165 ?q166); (case q165 => exact rfl); (with_reducible refine' s_ty ?q167 ?q168); (case q167 => refine' Own.ext ( by assumption ) ?q169 ?q170; (case q169 => exact fun h => h); (case q170 => refine' Own.ext ( by assumption ) ?q171 ?q172; (case q171 => exact fun h => h); (case q172 => assumption))); (with_reducible refine s_cons ?_); (with_reducible refine t_tup ?_); (with_reducible refine s_cons ?_); (with_reducible refine' s_var ?q173 ?q174); (case q173 => exact rfl); (with_reducible refine s_cons ?_); (with_reducible refine' s_var ?q175 ?q176); (case q175 => exact rfl); (with_reducible refine s_cons ?_); (with_reducible refine' s_var ?q177 ?q178); (case q177 => exact rfl); (with_reducible refine s_nil ?_); (with_reducible refine' t_newT ?q179 ?q180); (case q179 => simp only [ List.length , sizeLine_eq ]; omega); intro _ _ _ _ _; (with_reducible refine s_nil ?_); (with_reducible refine' s_app ?q181 ?q182 ?q183); (case q181 => refine' Own.ext ( by assumption ) ?q184 ?q185; (case q184 => exact fun h => h); (case q185 => refine' Own.ext ( by assumption ) ?q186 ?q187; (case q186 => exact fun h => h); (case q187 => refine' Own.ext ( by assumption ) ?q188 ?q189; (case q188 => exact fun h => h); (case q189 => assumption)))); (case q182 => simp only [ List.length_append , List.length_cons , List.length_nil , List.length_map , List.length_reverse , List.length_replicate , sizeLine_eq ]; omega); intro _ _ _; (with_reducible refine wds_i ?_))
      refine ⟨by (refine' Ext.step ?q190 ?q191 ?q192; (case q191 => assumption); (case q190 => refine' Ext.step ?q193 ?q194 ?q195; (case q194 => assumption); (case q193 => refine' Ext.step ?q196 ?q197 ?q198; (case q197 => assumption); (case q196 => refine' Ext.step ?q199 ?q200 ?q201; (case q200 => assumption); (case q199 => assumption); (case q201 => exact fun _ z => z.elim)); (case q198 => exact fun _ z => z.elim)); (case q195 => exact fun _ z => z.elim)); (case q192 => refine tch_one ?q202; refine Or.inr ?_; rfl)), _, _, _, _, _, rfl, by (assumption), ?_⟩
      rw [List.range_succ, List.map_append, List.map_append]
      refine RpA.append (by (refine' RpA.go ( by assumption ) ?q203; (case q203 => refine' RpA.go ( by assumption ) ?q204; (case q204 => refine' RpA.go ( by assumption ) ?q205; (case q205 => refine' RpA.go ( by assumption ) ?q206; (case q206 => assumption)))))) ?_
      show RpA _ _ [trD3 (pcAt R i)]
      rw [epc]
      exact .cons (.tup (by (refine' st_go ( by assumption ) ?q207; (case q207 => assumption))) (.cons (.int _) (.cons (.int _) (.cons (.int _) .nil)))) .nil
  · rintro σ u ⟨eu, fs, g1, g2, g3, g4, rfl, o, rf⟩
    rw [la] at rf
    ((with_reducible refine s_ret ?_); (with_reducible refine' s_var ?q208 ?q209); (case q208 => exact rfl))
    exact k _ _ _ (by (refine' Ext.step ?q210 ?q211 ?q212; (case q211 => assumption); (case q210 => assumption); (case q212 => refine tch_one ?q213; refine Or.inl ?_; assumption))) n1 o rf
abbrev nm_spans_of : List Str := ["stretches", "at", "stretch", "low", "high"]
theorem sc_spans_of : FnScope nm_spans_of ["stretches"] (defScope s_spans_of) := ⟨rfl, rfl, rfl, by decide +kernel, rfl, by decide +kernel, by decide +kernel⟩
theorem st_spans_of (a : V) : start nm_spans_of [a] = [some a, none, none, none, none] := rfl
def p_spans_of (w : Wd) (a : V) (Q : VK) (_ : XK) : Prop := ∃ rows, Ls w a rows ∧ rows.length < 1000 ∧ Tells w Q fun out => Sp none out ∧ out.length ≤ rows.length ∧ ∀ n, ins out n ↔ ins (rows.filter ne2) n
theorem ok_spans_of {f : Addr} {fd : FuncData} {C_Entry C_Within C_At C_Between C_Table C_Read C_Log C_LogError C_NoEntry C_NoMoment C_NoName C_NoPlace C_NoReading : Addr} (F : Fun K "spans_of" "spans_of" s_spans_of f fd) (T : Txt K mg C_Entry C_Within C_At C_Between C_Table C_Read C_Log C_LogError C_NoEntry C_NoMoment C_NoName C_NoPlace C_NoReading) (c_is_stretch : Fnc P ww K mg base CX0 1 "is_stretch" (pr1 (p_is_stretch))) (c_joined : Fnc P ww K mg base CX0 1 "joined" (pr1 (p_joined))) : FnOk P ww K mg base CX0 2 f fd ["stretches"] (pr1 (p_spans_of)) := by
  refine F.ok sc_spans_of (fun vs H Q E h => len1 h) (fun cdv A outer s H vs Q E hr h => ?_)
  obtain ⟨w, x0,  rfl, rfl, h⟩ := h
  have ekT := ek_T T
  have oex_NoEntry := T.oex_NoEntry; have xf_NoEntry := T.xf_NoEntry; have ec_NoEntry := T.ec_NoEntry; have xn_NoEntry := T.xn_NoEntry
  have oex_NoMoment := T.oex_NoMoment; have xf_NoMoment := T.xf_NoMoment; have ec_NoMoment := T.ec_NoMoment; have xn_NoMoment := T.xn_NoMoment
  have oex_NoName := T.oex_NoName; have xf_NoName := T.xf_NoName; have ec_NoName := T.ec_NoName; have xn_NoName := T.xn_NoName
  have oex_NoPlace := T.oex_NoPlace; have xf_NoPlace := T.xf_NoPlace; have ec_NoPlace := T.ec_NoPlace; have xn_NoPlace := T.xn_NoPlace
  have oex_NoReading := T.oex_NoReading; have xf_NoReading := T.xf_NoReading; have ec_NoReading := T.ec_NoReading; have xn_NoReading := T.xn_NoReading
  have rel_NoEntry_NoEntry := T.rel_NoEntry_NoEntry
  have exm_NoEntry_NoEntry := T.exm_NoEntry_NoEntry
  refine ⟨_, (pss_cons (ps_if (pt_not (pt_val (pe_callB (kIsi K) (by rfl) T.n_isinstance (by decide +kernel) (pa_cons (pv 0) (pa_cons (pe_bltn (v := .ty "list") (u := .type "list") rfl T.n_list (by decide +kernel) rfl) pa_nil))))) (pss_one ps_no) pss_nil)
      (pss_cons (ps_for PassesOwn.never rfl (kpEnum K (by rfl) T.n_enumerate (pa_cons (pv 0) pa_nil)) (kgTup K (by rfl) (pgs_cons (pg_name (i := 1) sc_spans_of.nd rfl (Or.inl rfl)) (pgs_cons (pg_name (i := 2) sc_spans_of.nd rfl (Or.inl rfl)) pgs_nil))) (pss_one (ps_if (pt_not (pt_val (pe_fn c_is_stretch hr (by decide) pass0 (pa_cons (pv 2) pa_nil)))) (pss_one ps_no) pss_nil)))
      (pss_one (ps_ret (pe_fn c_joined hr (by decide) pass0 (pa_cons (pe_lc (own := [("low", 3), ("high", 4)]) (g := (gTup K 2 (gCons (gName 3) (gCons (gName 4) gNil)))) (tt := _) (by rfl) sc_spans_of.nd (kpList K (pv 0)) (blkOk_by (own := [("low", 3), ("high", 4)]) (N := nm_spans_of) (sc := defScope s_spans_of) (by decide +kernel)) (fun _ _ _ _ _ => (kgTup K (by rfl) (pgs_cons (pg_name (i := 3) sc_spans_of.nd rfl (Or.inl rfl)) (pgs_cons (pg_name (i := 4) sc_spans_of.nd rfl (Or.inl rfl)) pgs_nil)))) (fun _ _ _ _ _ => (pts_one (pt_cmpR g_le (pv 3) (pv 4) (nomark _)))) (fun _ _ _ _ _ => (pe_tup (pa_cons (pv 3) (pa_cons (pv 4) pa_nil))))) pa_nil)))))), ?_⟩
  rw [st_spans_of]
  obtain ⟨rows, ⟨p, vs, rfl, rd, ra⟩, hl, k⟩ := h
  have la := ra.length
  rw [List.length_map] at la
  ((with_reducible refine s_seq ?_); (with_reducible refine s_ifS ?_); (with_reducible refine s_not ?_); (with_reducible refine s_B ?_); (with_reducible refine s_CB ?_); (with_reducible refine s_cons ?_); (with_reducible refine' s_var ?q0 ?q1); (case q0 => exact rfl); (with_reducible refine s_cons ?_); (with_reducible refine s_c ?_); (with_reducible refine s_nil ?_); (with_reducible refine' si_rd ?q18 ?q19 ?q20); (case q18 => assumption); (case q19 => exact kb_bool_int); (with_reducible refine s_bl ?_); (with_reducible refine ite_nt ?_); (with_reducible refine s_next ?_); (with_reducible refine s_seq ?_); (with_reducible refine s_for ?_); (with_reducible refine s_iEnum ?_); (with_reducible refine s_cons ?_); (with_reducible refine' s_var ?q24 ?q25); (case q24 => exact rfl); (with_reducible refine s_nil ?_))
  refine ⟨p, vs, rfl, SqL.of rd.h, ?_⟩
  refine forW (ww_enum (xs := vs)) (fun i σ u => Ext Non w u ∧ ∃ (g h : Option V), σ = [some (.ref p), g, h, none, none]) ⟨Ext.refl _ _, _, _, rfl⟩ (fun i σ u _ p => SqL.of (Rd.h (rd.go p.1 fun z => z))) ?_ ?_
  · rintro i x σ u v hi ⟨eu, g, h, rfl⟩ ⟨T, x1, rfl, ev, hT, sT, hx⟩
    obtain ⟨r, t, hr, rfl, st⟩ := rpa_pr ra hx
    have h5 : Rp v.S (.ref t) (prD r) := .tup (by (refine' st_go ( by assumption ) ?q26; (case q26 => refine' st_go ( by assumption ) ?q27; (case q27 => assumption)))) (.cons (.int _) (.cons (.int _) .nil))
    have ewv : Ext Non w v := by (refine' Ext.step ?q28 ?q29 ?q30; (case q29 => assumption); (case q28 => assumption); (case q30 => exact fun _ z => z.elim))
    clear eu ev
    ((with_reducible refine' s_gtup ?q31 ?q32 ?q33); (case q31 => assumption); (case q32 => exact rfl); (with_reducible refine s_gcons ?_); (with_reducible refine' s_gname ?q34 ?q35); (case q34 => simp only [ List.set_cons_succ , List.set_cons_zero ]; exact rfl); (with_reducible refine s_gcons ?_); (with_reducible refine' s_gname ?q36 ?q37); (case q36 => simp only [ List.set_cons_succ , List.set_cons_zero ]; exact rfl); (with_reducible refine s_gnil ?_); (with_reducible refine s_ifS ?_); (with_reducible refine s_not ?_); (with_reducible refine s_B ?_); (with_reducible refine s_call ?_); (with_reducible refine s_cons ?_); (with_reducible refine' s_var ?q38 ?q39); (case q38 => exact rfl); (with_reducible refine s_nil ?_); (with_reducible refine s_pr1 ?_))
    refine ⟨prD r, h5, fun v1 e1 => ?_⟩
    rw [show isStretch (prD r) = true from rfl]
    ((with_reducible refine s_bl ?_); (with_reducible refine ite_nt ?_); (with_reducible refine s_next ?_); (with_reducible refine wds_i ?_))
    exact ⟨by (refine' Ext.step ?q43 ?q44 ?q45; (case q44 => assumption); (case q43 => assumption); (case q45 => exact fun _ z => z.elim)), _, _, rfl⟩
  · rintro σ u ⟨eu, g, h, rfl⟩
    have rdu : Rd u p (.lst vs) := rd.go eu fun z => z
    have rau : RpA u.S vs (rows.map prD) := ra.go eu
    ((with_reducible refine s_ret ?_); (with_reducible refine s_call ?_); (with_reducible refine s_cons ?_); (with_reducible refine s_Lc ?_); (with_reducible refine s_iList ?_); (with_reducible refine' s_var ?q46 ?q47); (case q46 => exact rfl); refine' ⟨ _ , rfl , ⟨ _ , ?q48 ⟩ , ?q49 ⟩; (case q48 => refine' SqL.of ( Rd.h ?q55 ); (case q55 => assumption)))
    intro D hD
    have nwD : w.H D = none := eu.back hD
    refine lc_rows (ww_list (xs := vs)) ne2 prD hD rau rfl (by rw [sizeLine_eq]; omega) (fun u e => SqL.of (Rd.h (rdu.go e (rdu.ne hD)))) ?_ ?_
    · intro i z q u5 hi hx hq hr e R' Z hR' hZ
      obtain ⟨t, rfl, ht⟩ := pr_inv hr
      ((with_reducible refine' s_gtup ?q56 ?q57 ?q58); (case q56 => assumption); (case q57 => exact rfl); (with_reducible refine s_gcons ?_); (with_reducible refine' s_gname ?q59 ?q60); (case q59 => exact rfl); (with_reducible refine s_gcons ?_); (with_reducible refine' s_gname ?q61 ?q62); (case q61 => exact rfl); (with_reducible refine s_gnil ?_))
      refine ⟨rfl, ?_⟩
      ((with_reducible refine s_test ?_); (with_reducible refine s_op ?_); (with_reducible refine' s_var ?q63 ?q64); (case q63 => exact rfl); (with_reducible refine' s_var ?q65 ?q66); (case q65 => exact rfl); (with_reducible refine s_le ?_); (with_reducible refine s_bl ?_))
      refine ite_d (fun c1 => ?_) (fun c1 => ?_)
      · ((with_reducible refine t_tup ?_); (with_reducible refine s_cons ?_); (with_reducible refine' s_var ?q67 ?q68); (case q67 => exact rfl); (with_reducible refine s_cons ?_); (with_reducible refine' s_var ?q69 ?q70); (case q69 => exact rfl); (with_reducible refine s_nil ?_); (with_reducible refine' t_newT ?q71 ?q72); (case q71 => simp only [ List.length , sizeLine_eq ]; omega); intro _ _ _ _ _)
        exact hR' _ _ (by (assumption)) (by unfold ne2; simpa using c1) (.tup (by (assumption)) (.cons (.int _) (.cons (.int _) .nil)))
      · exact hZ _ (Ext.refl _ _) (by unfold ne2; simpa using c1)
    · intro u5 acc eu5 hD' oD ha2
      have lfl := List.length_filter_le ne2 rows
      have ew5 : Ext Non w u5 := eu.trans eu5
      ((with_reducible refine s_nil ?_); (with_reducible refine s_pr1 ?_))
      refine ⟨rows.filter ne2, ⟨D, acc, rfl, .inr oD, ha2⟩, fun q hq => by simpa [ne2] using (List.mem_filter.mp hq).2, by omega, fun v r vs out e n o h p => ?_⟩
      exact k v r vs out (ew5.trans e) (ew5.back n) o h ⟨p.1, by have := p.2.1; omega, p.2.2⟩
abbrev nm_Table_moments_between : List Str := ["self", "low", "high", "bound", "stretches", "first", "last", "shift"]
theorem sc_Table_moments_between : FnScope nm_Table_moments_between ["self", "low", "high"] (defScope s_Table_moments_between) := ⟨rfl, rfl, rfl, by decide +kernel, rfl, by decide +kernel, by decide +kernel⟩
theorem st_Table_moments_between (a b c : V) : start nm_Table_moments_between [a, b, c] = [some a, some b, some c, none, none, none, none, none] := rfl
def p_Table_moments_between (C N : Addr) (w : Wd) (a b c : V) (Q : VK) (E : XK) : Prop := ∃ R d f, TbS C w.S a R ∧ TabOk R ∧ Rp w.S b d ∧ Rp w.S c f ∧
  (∀ lo hi, d = .int lo → f = .int hi → -10000000000 ≤ lo → lo ≤ 10000000000 → -10000000000 ≤ hi → hi ≤ 10000000000 → Tells w Q fun out => Sp none out ∧ out.length ≤ 21 ∧ ∀ n, ins out n ↔ ins ((strsR R lo hi R.length).filter ne2) n) ∧
  (wholeB d (0 - 10000000000) 10000000000 = false → ∀ v e, Ext Non w v → w.H e = none → Own v e (.xd [(Str.ofString "found", b)]) → E (.ref N) (some e) v.H) ∧
  (wholeB d (0 - 10000000000) 10000000000 = true → wholeB f (0 - 10000000000) 10000000000 = false → ∀ v e, Ext Non w v → w.H e = none → Own v e (.xd [(Str.ofString "found", c)]) → E (.ref N) (some e) v.H)
theorem ok_Table_moments_between {f : Addr} {fd : FuncData} {C_Entry C_Within C_At C_Between C_Table C_Read C_Log C_LogError C_NoEntry C_NoMoment C_NoName C_NoPlace C_NoReading : Addr} (F : Fun K "moments_between" "Table.moments_between" s_Table_moments_between f fd) (T : Txt K mg C_Entry C_Within C_At C_Between C_Table C_Read C_Log C_LogError C_NoEntry C_NoMoment C_NoName C_NoPlace C_NoReading) (c_NoReading_init : Mxr P ww K mg base C_NoReading 1 (pr2 (p_NoReading_init C_NoReading))) (c_Table_pieces : Mth P ww K mg base CX0 C_Table 1 "pieces" (pr1 (p_Table_pieces C_Table))) (c_is_reading : Fnc P ww K mg base CX0 2 "is_reading" (pr1 (p_is_reading))) (c_spans_of : Fnc P ww K mg base CX0 2 "spans_of" (pr1 (p_spans_of))) : FnOk P ww K mg base (L2.CX P ww) 3 f fd ["self", "low", "high"] (pr3 (p_Table_moments_between C_Table C_NoReading)) := by
  refine F.okX sc_Table_moments_between (fun vs H Q E h => len3 h) (fun cdv A outer s H vs Q E hr h => ?_)
  obtain ⟨w, x0, x1, x2,  rfl, rfl, h⟩ := h
  have ekT := ek_T T
  have cl_Table := T.cl_Table
  have na_Table_kept_rows := T.na_Table_kept_rows
  have cl_Log := T.cl_Log
  have na_Log_bound := T.na_Log_bound
  have na_Log_clocks := T.na_Log_clocks
  have na_Log_line := T.na_Log_line
  have na_Log_name := T.na_Log_name
  have oex_NoEntry := T.oex_NoEntry; have xf_NoEntry := T.xf_NoEntry; have ec_NoEntry := T.ec_NoEntry; have xn_NoEntry := T.xn_NoEntry
  have oex_NoMoment := T.oex_NoMoment; have xf_NoMoment := T.xf_NoMoment; have ec_NoMoment := T.ec_NoMoment; have xn_NoMoment := T.xn_NoMoment
  have oex_NoName := T.oex_NoName; have xf_NoName := T.xf_NoName; have ec_NoName := T.ec_NoName; have xn_NoName := T.xn_NoName
  have oex_NoPlace := T.oex_NoPlace; have xf_NoPlace := T.xf_NoPlace; have ec_NoPlace := T.ec_NoPlace; have xn_NoPlace := T.xn_NoPlace
  have oex_NoReading := T.oex_NoReading; have xf_NoReading := T.xf_NoReading; have ec_NoReading := T.ec_NoReading; have xn_NoReading := T.xn_NoReading
  have rel_NoEntry_NoEntry := T.rel_NoEntry_NoEntry
  have exm_NoEntry_NoEntry := T.exm_NoEntry_NoEntry
  refine ⟨_, (pss_cons (ps_for (passes_of rfl) rfl (kpTup K (pe_tup (pa_cons (pv 1) (pa_cons (pv 2) pa_nil)))) (pg_name (i := 3) sc_Table_moments_between.nd rfl (Or.inl rfl)) (pss_one (ps_if (pt_not (pt_val (pe_fn c_is_reading hr (by decide) pass0 (pa_cons (pv 3) pa_nil)))) (pss_one (ps_raiseX rfl (takes_of rfl rfl rfl rfl) c_NoReading_init hr (by decide) T.g_NoReading (pa_cons (pv 3) pa_nil))) pss_nil)))
      (pss_cons (ps_set (i := 4) sc_Table_moments_between.nd rfl (Or.inl rfl) (pe_lst pa_nil))
      (pss_cons (ps_for (passes_of rfl) rfl (kpList K (pe_mth0 c_Table_pieces T.cl_Table hr (by decide) pass0 (pv 0))) (kgTup K (by rfl) (pgs_cons (pg_name (i := 5) sc_Table_moments_between.nd rfl (Or.inl rfl)) (pgs_cons (pg_name (i := 6) sc_Table_moments_between.nd rfl (Or.inl rfl)) (pgs_cons (pg_name (i := 7) sc_Table_moments_between.nd rfl (Or.inl rfl)) pgs_nil)))) (pss_one (ps_expr (pe_bm PySem.F.plainAttrs_list PySem.F.slot_list_append PySem.F.type_list_append mt_append (pv 4) (pa_cons (pe_tup (pa_cons (pe_callB (kMax K rfl) (by rfl) T.n_max (by decide +kernel) (pa_cons (pv 5) (pa_cons (pe_op g_sub (pv 1) (pv 7)) pa_nil))) (pa_cons (pe_callB (kMin K rfl) (by rfl) T.n_min (by decide +kernel) (pa_cons (pv 6) (pa_cons (pe_op g_sub (pv 2) (pv 7)) pa_nil))) pa_nil))) pa_nil)))))
      (pss_one (ps_ret (pe_fn c_spans_of hr (by decide) pass0 (pa_cons (pv 4) pa_nil))))))), ?_⟩
  rw [st_Table_moments_between]
  obtain ⟨R, d, f, hT, hok, hd, hf, k1, k2, k3⟩ := h
  obtain ⟨x, dx, y, rfl, sx, hR⟩ := id hT
  ((with_reducible refine s_seq ?_); (with_reducible refine s_for ?_); (with_reducible refine s_iTup ?_); (with_reducible refine t_tup ?_); (with_reducible refine s_cons ?_); (with_reducible refine' s_var ?q73 ?q74); (case q73 => exact rfl); (with_reducible refine s_cons ?_); (with_reducible refine' s_var ?q75 ?q76); (case q75 => exact rfl); (with_reducible refine s_nil ?_); (with_reducible refine' t_newT ?q77 ?q78); (case q77 => simp only [ List.length , sizeLine_eq ]; omega); intro _ _ _ _ _; refine' ⟨ _ , rfl , ⟨ _ , ?q79 ⟩ , ?q80 ⟩; (case q79 => refine' sqt_of ?q81; (case q81 => assumption)))
  rename_i T v0 e0 n0 s0
  refine forW (ww_tup (xs := [x1, x2])) (fun i σ u => Ext Non v0 u ∧ ∃ g, σ = [some (.ref x), some x1, some x2, g, none, none, none, none] ∧ (1 ≤ i → wholeB d (0 - 10000000000) 10000000000 = true) ∧ (2 ≤ i → wholeB f (0 - 10000000000) 10000000000 = true)) ⟨Ext.refl _ _, _, rfl, (fun z => absurd z (by decide)), (fun z => absurd z (by decide))⟩ (fun i σ u _ hh => sqt_of (st_go hh.1 s0)) ?_ ?_
  · rintro i z σ _ u hi ⟨eu, g, rfl, h1, h2⟩ ⟨rfl, hz⟩
    have hi2 : i < 2 := hi
    have hcase : (i = 0 ∧ z = x1) ∨ (i = 1 ∧ z = x2) := by
      match i, hi2 with
      | 0, _ => exact .inl ⟨rfl, by simpa using hz.symm⟩
      | 1, _ => exact .inr ⟨rfl, by simpa using hz.symm⟩
    rcases hcase with ⟨rfl, rfl⟩ | ⟨rfl, rfl⟩
    · ((with_reducible refine' s_gname ?q82 ?q83); (case q82 => simp only [ List.set_cons_succ , List.set_cons_zero ]; exact rfl); (with_reducible refine s_ifS ?_); (with_reducible refine s_not ?_); (with_reducible refine s_B ?_); (with_reducible refine s_call ?_); (with_reducible refine s_cons ?_); (with_reducible refine' s_var ?q84 ?q85); (case q84 => exact rfl); (with_reducible refine s_nil ?_); (with_reducible refine s_pr1 ?_))
      refine ⟨d, by (refine' Rp.go ( by assumption ) ?q86; (case q86 => refine' Rp.go ( by assumption ) ?q87; (case q87 => assumption))), fun v1 e1 => ?_⟩
      ((with_reducible refine s_bl ?_))
      refine ite_n (fun hb => ?_) (fun hb => ?_)
      · skip
        refine s_raiseX rfl ?_
        ((with_reducible refine s_cons ?_); (with_reducible refine' s_var ?q88 ?q89); (case q88 => exact rfl); (with_reducible refine s_nil ?_))
        exact s_raised (W := fun cls d _ H => E cls d H) (σ := []) fun e v ev n o => k2 hb v e (by (refine' Ext.step ?q90 ?q91 ?q92; (case q91 => assumption); (case q90 => refine' Ext.step ?q93 ?q94 ?q95; (case q94 => assumption); (case q93 => refine' Ext.step ?q96 ?q97 ?q98; (case q97 => assumption); (case q96 => assumption); (case q98 => exact fun _ z => z.elim)); (case q95 => exact fun _ z => z.elim)); (case q92 => exact fun _ z => z.elim))) ((show Ext Non w v1 by (refine' Ext.step ?q99 ?q100 ?q101; (case q100 => assumption); (case q99 => refine' Ext.step ?q102 ?q103 ?q104; (case q103 => assumption); (case q102 => assumption); (case q104 => exact fun _ z => z.elim)); (case q101 => exact fun _ z => z.elim))).back n) o
      · ((with_reducible refine s_next ?_); (with_reducible refine wds_i ?_))
        exact ⟨by (refine' Ext.step ?q105 ?q106 ?q107; (case q106 => assumption); (case q105 => assumption); (case q107 => exact fun _ z => z.elim)), _, rfl, (fun _ => hb), (fun z => absurd z (by decide))⟩
    · have hd1 := h1 (by decide)
      ((with_reducible refine' s_gname ?q108 ?q109); (case q108 => simp only [ List.set_cons_succ , List.set_cons_zero ]; exact rfl); (with_reducible refine s_ifS ?_); (with_reducible refine s_not ?_); (with_reducible refine s_B ?_); (with_reducible refine s_call ?_); (with_reducible refine s_cons ?_); (with_reducible refine' s_var ?q110 ?q111); (case q110 => exact rfl); (with_reducible refine s_nil ?_); (with_reducible refine s_pr1 ?_))
      refine ⟨f, by (refine' Rp.go ( by assumption ) ?q112; (case q112 => refine' Rp.go ( by assumption ) ?q113; (case q113 => assumption))), fun v1 e1 => ?_⟩
      ((with_reducible refine s_bl ?_))
      refine ite_n (fun hb => ?_) (fun hb => ?_)
      · skip
        refine s_raiseX rfl ?_
        ((with_reducible refine s_cons ?_); (with_reducible refine' s_var ?q114 ?q115); (case q114 => exact rfl); (with_reducible refine s_nil ?_))
        exact s_raised (W := fun cls d _ H => E cls d H) (σ := []) fun e v ev n o => k3 hd1 hb v e (by (refine' Ext.step ?q116 ?q117 ?q118; (case q117 => assumption); (case q116 => refine' Ext.step ?q119 ?q120 ?q121; (case q120 => assumption); (case q119 => refine' Ext.step ?q122 ?q123 ?q124; (case q123 => assumption); (case q122 => assumption); (case q124 => exact fun _ z => z.elim)); (case q121 => exact fun _ z => z.elim)); (case q118 => exact fun _ z => z.elim))) ((show Ext Non w v1 by (refine' Ext.step ?q125 ?q126 ?q127; (case q126 => assumption); (case q125 => refine' Ext.step ?q128 ?q129 ?q130; (case q129 => assumption); (case q128 => assumption); (case q130 => exact fun _ z => z.elim)); (case q127 => exact fun _ z => z.elim))).back n) o
      · ((with_reducible refine s_next ?_); (with_reducible refine wds_i ?_))
        exact ⟨by (refine' Ext.step ?q131 ?q132 ?q133; (case q132 => assumption); (case q131 => assumption); (case q133 => exact fun _ z => z.elim)), _, rfl, (fun _ => hd1), (fun _ => hb)⟩
  rintro σ u ⟨eu, g, rfl, h1, h2⟩
  obtain ⟨lo, rfl, lo0, lo1⟩ := whole_yes (h1 (show 1 ≤ 2 by decide))
  obtain ⟨hi, rfl, hi0, hi1⟩ := whole_yes (h2 (show 2 ≤ 2 by decide))
  obtain rfl := hd.int_inv
  obtain rfl := hf.int_inv
  have k1 := k1 lo hi rfl rfl (by omega) lo1 (by omega) hi1
  have hl := hok.l
  ((with_reducible refine s_seq ?_); (with_reducible refine s_asg ?_); (with_reducible refine t_lst ?_); (with_reducible refine s_nil ?_); (with_reducible refine' t_newL ?q134 ?q135); (case q134 => simp only [ List.length , sizeLine_eq ]; omega); intro _ _ _ _ _; (with_reducible refine' s_gname ?q136 ?q137); (case q136 => simp only [ List.set_cons_succ , List.set_cons_zero ]; exact rfl); (with_reducible refine s_seq ?_); (with_reducible refine s_for ?_); (with_reducible refine s_iList ?_); (with_reducible refine s_meth ?_); (with_reducible refine' s_var ?q138 ?q139); (case q138 => exact rfl); (with_reducible refine' s_rmeth ?q140 ?q141 ?q142); (case q140 => refine' Wd.ok _ _ _ ?q143; (case q143 => refine' st_go ( by assumption ) ?q144; (case q144 => refine' st_go ( by assumption ) ?q145; (case q145 => refine' st_go ( by assumption ) ?q146; (case q146 => assumption))))); (case q141 => refine' lk_tl ?q147 ?q148; (case q147 => decide +kernel); (case q148 => exact lk_nil)); (with_reducible refine s_nil ?_); (with_reducible refine s_pm1 ?_))
  rename_i D v2 e2 n2 o2
  refine ⟨R, by (refine' TbS.go ( by assumption ) ?q149; (case q149 => refine' TbS.go ( by assumption ) ?q150; (case q150 => refine' TbS.go ( by assumption ) ?q151; (case q151 => assumption)))), hok, fun v3 r vs3 e3 n3 o3 ra3 => ?_⟩
  have nD : w.H D = none := (show Ext Non w u by (refine' Ext.step ?q152 ?q153 ?q154; (case q153 => assumption); (case q152 => assumption); (case q154 => exact fun _ z => z.elim))).back n2
  have hDr : r ≠ D := (o2.ne n3).symm
  have rr3 : Rd v3 r (.lst vs3) := .inr o3
  have oD3 : Own v3 D (.lst []) := by (refine' Own.ext ( by assumption ) ?q155 ?q156; (case q155 => exact fun h => h); (case q156 => assumption))
  have ew3 : Ext Non w v3 := by (refine' Ext.step ?q157 ?q158 ?q159; (case q158 => assumption); (case q157 => refine' Ext.step ?q160 ?q161 ?q162; (case q161 => assumption); (case q160 => refine' Ext.step ?q163 ?q164 ?q165; (case q164 => assumption); (case q163 => assumption); (case q165 => exact fun _ z => z.elim)); (case q162 => exact fun _ z => z.elim)); (case q159 => exact fun _ z => z.elim))
  have l3 := ra3.length
  have lp : (pcsI R).length = R.length := by unfold pcsI; rw [List.length_map, List.length_range]
  rw [List.length_map] at l3
  clear e0 eu e2 e3 o2
  (refine' ⟨ _ , rfl , ⟨ _ , ?q166 ⟩ , ?q167 ⟩; (case q166 => refine' SqL.of ( Own.h ?q170 ); (case q170 => assumption)))
  refine forW (ww_list (xs := vs3)) (fun i σ u => Ext (One D) v3 u ∧ ∃ (us : List V) (g1 g2 g3 : Option V), σ = [some (.ref x), some (.int lo), some (.int hi), g, some (.ref D), g1, g2, g3] ∧ Own u D (.lst us) ∧ RpA u.S us ((strsR R lo hi i).map prD)) ⟨Ext.refl _ _, [], _, _, _, rfl, oD3, .nil⟩ (fun i σ u _ hh => SqL.of (Rd.h (rr3.go hh.1 hDr))) ?_ ?_
  · rintro i z σ _ u hi' ⟨eu, us, g1, g2, g3, rfl, o, ru⟩ ⟨rfl, hz⟩
    obtain ⟨d, h3, h4⟩ := ra3.get hz
    rw [List.getElem?_map] at h3
    obtain ⟨t, ht, rfl⟩ := Option.map_eq_some_iff.mp h3
    have hti : t = pcAt R i := by
      unfold pcsI at ht
      rw [List.getElem?_map, List.getElem?_range (by omega)] at ht
      exact (Option.some.inj ht).symm
    obtain ⟨tt, vt, rfl, st, rt⟩ := h4.tuple_inv
    obtain rfl : vt = [.int t.1, .int t.2.1, .int t.2.2] := by
      cases rt with
      | cons a1 r1 => cases r1 with
        | cons a2 r2 => cases r2 with
          | cons a3 r3 =>
            cases r3
            rw [a1.int_inv, a2.int_inv, a3.int_inv]
    have lu := ru.length
    have lss : (strsR R lo hi i).length = i := by unfold strsR; rw [List.length_map, List.length_range]
    rw [List.length_map, lss] at lu
    have hus : us.length < sizeLine := by rw [sizeLine_eq]; omega
    ((with_reducible refine' s_gtup ?q171 ?q172 ?q173); (case q171 => refine' st_go ( by assumption ) ?q174; (case q174 => assumption)); (case q172 => exact rfl); (with_reducible refine s_gcons ?_); (with_reducible refine' s_gname ?q175 ?q176); (case q175 => simp only [ List.set_cons_succ , List.set_cons_zero ]; exact rfl); (with_reducible refine s_gcons ?_); (with_reducible refine' s_gname ?q177 ?q178); (case q177 => simp only [ List.set_cons_succ , List.set_cons_zero ]; exact rfl); (with_reducible refine s_gcons ?_); (with_reducible refine' s_gname ?q179 ?q180); (case q179 => simp only [ List.set_cons_succ , List.set_cons_zero ]; exact rfl); (with_reducible refine s_gnil ?_); (with_reducible refine s_drop ?_); (with_reducible refine s_BM ?_); (with_reducible refine' s_var ?q181 ?q182); (case q181 => exact rfl); (with_reducible refine' s_ty ?q183 ?q184); (case q183 => assumption); (with_reducible refine s_cons ?_); (with_reducible refine t_tup ?_); (with_reducible refine s_cons ?_); (with_reducible refine s_CB ?_); (with_reducible refine s_cons ?_); (with_reducible refine' s_var ?q185 ?q186); (case q185 => exact rfl); (with_reducible refine s_cons ?_); (with_reducible refine s_op ?_); (with_reducible refine' s_var ?q187 ?q188); (case q187 => exact rfl); (with_reducible refine' s_var ?q189 ?q190); (case q189 => exact rfl); (with_reducible refine s_sub ?_); (with_reducible refine s_nil ?_); (with_reducible refine s_max ?_); (with_reducible refine s_cons ?_); (with_reducible refine s_CB ?_); (with_reducible refine s_cons ?_); (with_reducible refine' s_var ?q191 ?q192); (case q191 => exact rfl); (with_reducible refine s_cons ?_); (with_reducible refine s_op ?_); (with_reducible refine' s_var ?q193 ?q194); (case q193 => exact rfl); (with_reducible refine' s_var ?q195 ?q196); (case q195 => exact rfl); (with_reducible refine s_sub ?_); (with_reducible refine s_nil ?_); (with_reducible refine s_min ?_); (with_reducible refine s_nil ?_); (with_reducible refine' t_newT ?q197 ?q198); (case q197 => simp only [ List.length , sizeLine_eq ]; omega); intro _ _ _ _ _; (with_reducible refine s_nil ?_); (with_reducible refine' s_app ?q199 ?q200 ?q201); (case q199 => refine' Own.ext ( by assumption ) ?q202 ?q203; (case q202 => exact fun h => h); (case q203 => assumption)); (case q200 => assumption); intro _ _ _; (with_reducible refine wds_i ?_))
    refine ⟨by (refine' Ext.step ?q204 ?q205 ?q206; (case q205 => assumption); (case q204 => refine' Ext.step ?q207 ?q208 ?q209; (case q208 => assumption); (case q207 => assumption); (case q209 => exact fun _ z => z.elim)); (case q206 => refine tch_one ?q210; refine Or.inr ?_; rfl)), _, _, _, _, rfl, by (assumption), ?_⟩
    rw [strs_succ, List.map_append]
    refine RpA.append (by (refine' RpA.go ( by assumption ) ?q211; (case q211 => refine' RpA.go ( by assumption ) ?q212; (case q212 => assumption)))) (.one ?_)
    have e9 : stR R lo hi i = (max t.1 (lo - t.2.2), min t.2.1 (hi - t.2.2)) := by unfold stR; rw [hti]
    rw [e9]
    exact .tup (by (refine' st_go ( by assumption ) ?q213; (case q213 => assumption))) (.cons (.int _) (.cons (.int _) .nil))
  · rintro σ u ⟨eu, us, g1, g2, g3, rfl, o, ru⟩
    have ewu : Ext Non w u := ew3.step eu fun b hb => .inl (by rw [show b = D from hb]; exact nD)
    rw [show vs3.length = R.length by omega] at ru
    clear eu
    ((with_reducible refine s_ret ?_); (with_reducible refine s_call ?_); (with_reducible refine s_cons ?_); (with_reducible refine' s_var ?q214 ?q215); (case q214 => exact rfl); (with_reducible refine s_nil ?_); (with_reducible refine s_pr1 ?_))
    refine ⟨strsR R lo hi R.length, ⟨D, us, rfl, .inr o, ru⟩, by unfold strsR; rw [List.length_map, List.length_range]; omega, fun v r vs out e n o h p => ?_⟩
    exact k1 v r vs out (ewu.trans e) (ewu.back n) o h ⟨p.1, by have := p.2.1; unfold strsR at this; rw [List.length_map, List.length_range] at this; omega, p.2.2⟩
def letters : List Nat := (Str.ofString "abcdefghijklmnopqrstuvwxyz").cps.toList
def nameB : PyData → Bool
  | .str z => decide ((1 : Int) ≤ z.length) && (decide ((z.length : Int) ≤ 8) && z.cps.toList.all fun c => decide (c ∈ letters))
  | _ => false
def TxD (d : PyData) : Prop := ∀ z, d = .str z → Tx 1000 z
theorem z_at {z : Str} {i : Nat} {x : V} {c : Nat} (h : (zV z)[i]? = some x) (k : z.cps.toList[i]? = some c) : x = .str ⟨#[c]⟩ := by
  unfold zV at h
  rw [List.getElem?_map, k] at h
  exact (Option.some.inj h).symm
abbrev nm_is_name : List Str := ["thing", "sign"]
theorem sc_is_name : FnScope nm_is_name ["thing"] (defScope s_is_name) := ⟨rfl, rfl, rfl, by decide +kernel, rfl, by decide +kernel, by decide +kernel⟩
theorem st_is_name (a : V) : start nm_is_name [a] = [some a, none] := rfl
def p_is_name (w : Wd) (a : V) (Q : VK) (_ : XK) : Prop := ∃ d, Rp w.S a d ∧ TxD d ∧ ∀ v, Ext Non w v → Q (.bl (nameB d)) v.H
theorem ok_is_name {f : Addr} {fd : FuncData} {C_Entry C_Within C_At C_Between C_Table C_Read C_Log C_LogError C_NoEntry C_NoMoment C_NoName C_NoPlace C_NoReading : Addr} (F : Fun K "is_name" "is_name" s_is_name f fd) (T : Txt K mg C_Entry C_Within C_At C_Between C_Table C_Read C_Log C_LogError C_NoEntry C_NoMoment C_NoName C_NoPlace C_NoReading)  : FnOk P ww K mg base CX0 1 f fd ["thing"] (pr1 (p_is_name)) := by
  refine F.ok sc_is_name (fun vs H Q E h => len1 h) (fun cdv A outer s H vs Q E hr h => ?_)
  obtain ⟨w, x0,  rfl, rfl, h⟩ := h
  have ekT := ek_T T
  have oex_NoEntry := T.oex_NoEntry; have xf_NoEntry := T.xf_NoEntry; have ec_NoEntry := T.ec_NoEntry; have xn_NoEntry := T.xn_NoEntry
  have oex_NoMoment := T.oex_NoMoment; have xf_NoMoment := T.xf_NoMoment; have ec_NoMoment := T.ec_NoMoment; have xn_NoMoment := T.xn_NoMoment
  have oex_NoName := T.oex_NoName; have xf_NoName := T.xf_NoName; have ec_NoName := T.ec_NoName; have xn_NoName := T.xn_NoName
  have oex_NoPlace := T.oex_NoPlace; have xf_NoPlace := T.xf_NoPlace; have ec_NoPlace := T.ec_NoPlace; have xn_NoPlace := T.xn_NoPlace
  have oex_NoReading := T.oex_NoReading; have xf_NoReading := T.xf_NoReading; have ec_NoReading := T.ec_NoReading; have xn_NoReading := T.xn_NoReading
  have rel_NoEntry_NoEntry := T.rel_NoEntry_NoEntry
  have exm_NoEntry_NoEntry := T.exm_NoEntry_NoEntry
  refine ⟨_, (pss_cons (ps_if (PW.pt (pw_or (pt_not (pt_val (pe_callB (kIsi K) (by rfl) T.n_isinstance (by decide +kernel) (pa_cons (pv 0) (pa_cons (pe_bltn (v := .ty "str") (u := .type "str") rfl T.n_str (by decide +kernel) rfl) pa_nil))))) (pw_or1 (pt_not (pt_chain g_le g_le pe_int (pe_callB (kLen K) (by rfl) T.n_len (by decide +kernel) (pa_cons (pv 0) pa_nil)) (pe_gco rfl T.c_LONGEST_NAME)))))) (pss_one (ps_ret pe_bl)) pss_nil)
      (pss_one (ps_ret (pe_callB (kAll K rfl) (by rfl) T.n_all (by decide +kernel) (pa_cons (pe_lc (own := [("sign", 1)]) (g := (gName 1)) (tt := tYes) (by rfl) sc_is_name.nd (pi_str (pv 0)) (blkOk_by (own := [("sign", 1)]) (N := nm_is_name) (sc := defScope s_is_name) (by decide +kernel)) (fun _ _ _ _ _ => (pg_name (i := 1) sc_is_name.nd rfl (Or.inl rfl))) (fun _ _ _ _ _ => pts_nil) (fun _ _ _ _ _ => (pe_cmpR (kIn K) (pv 1) (pe_gco rfl T.c_LETTERS) (by rfl)))) pa_nil))))), ?_⟩
  rw [st_is_name]
  obtain ⟨d, hd, hT, k⟩ := h
  ((with_reducible refine s_seq ?_); (with_reducible refine s_ifS ?_); (with_reducible refine s_or ?_); (with_reducible refine s_not ?_); (with_reducible refine s_B ?_); (with_reducible refine s_CB ?_); (with_reducible refine s_cons ?_); (with_reducible refine' s_var ?q0 ?q1); (case q0 => exact rfl); (with_reducible refine s_cons ?_); (with_reducible refine s_c ?_); (with_reducible refine s_nil ?_); (with_reducible refine' sd_str ?q2 ?q3); (case q2 => assumption); (with_reducible refine s_bl ?_))
  refine ite_n (fun hb => ?_) (fun hb => ?_)
  · ((with_reducible refine ite_tt ?_); (with_reducible refine s_ret ?_); (with_reducible refine s_c ?_))
    have e : nameB d = false := by cases d <;> first | rfl | cases hb
    exact e ▸ k w (Ext.refl _ _)
  · obtain ⟨z, rfl⟩ := isStr_inv hb
    obtain rfl := hd.str_inv
    have tz : Tx 1000 z := hT z rfl
    have hzs : z.cps.size ≤ 1000 := tz.1
    ((with_reducible refine s_not ?_); (with_reducible refine s_test ?_); (with_reducible refine s_chain ?_); (with_reducible refine s_c ?_); (with_reducible refine s_CB ?_); (with_reducible refine s_cons ?_); (with_reducible refine' s_var ?q4 ?q5); (case q4 => exact rfl); (with_reducible refine s_nil ?_); (with_reducible refine' s_lenZ ?q6 ?q7); (case q6 => refine' Tx.sz ?q8 ?q9; (case q8 => assumption); (case q9 => decide)); (with_reducible refine s_le ?_); (with_reducible refine s_bl ?_))
    refine ite_d (fun c1 => ?_) (fun c1 => ?_)
    · ((with_reducible refine s_c ?_); (with_reducible refine s_le ?_); (with_reducible refine s_bl ?_))
      refine ite_nd (fun c2 => ?_) (fun c2 => ?_)
      · ((with_reducible refine s_ret ?_); (with_reducible refine s_c ?_))
        have e : nameB (.str z) = false := by simp only [nameB]; rw [decide_eq_false c2]; simp
        exact e ▸ k w (Ext.refl _ _)
      · ((with_reducible refine s_next ?_); (with_reducible refine s_ret ?_); (with_reducible refine s_CB ?_); (with_reducible refine s_cons ?_); (with_reducible refine s_Lc ?_); (with_reducible refine s_iStr ?_); (with_reducible refine' s_var ?q10 ?q11); (case q10 => exact rfl))
        refine ⟨z, rfl, ?_⟩
        intro D hD
        refine lc_gen (rows := z.cps.toList) (ww_strI (z := z)) (fun _ => true) (fun c => .bool (decide (c ∈ letters))) hD (by rw [Array.length_toList]) (by rw [sizeLine_eq]; omega) (fun _ _ => trivial) ?_ ?_
        · intro i x c u hi hx hq e R Z hR hZ
          obtain rfl := z_at hx hq
          ((with_reducible refine' s_gname ?q12 ?q13); (case q12 => exact rfl))
          refine ⟨rfl, s_yes (ite_tt ?_)⟩
          ((with_reducible refine s_op ?_); (with_reducible refine' s_var ?q14 ?q15); (case q14 => exact rfl); (with_reducible refine s_c ?_); (with_reducible refine s_inZ ?_))
          exact hR _ _ (Ext.refl _ _) rfl (.bl _)
        · intro u acc eu hD' o ha2
          rw [filter_all] at ha2
          obtain rfl := RpA.bools_inv ha2
          ((with_reducible refine s_nil ?_); (with_reducible refine' s_allO ?q16 ?q17); (case q16 => assumption))
          have e : nameB (.str z) = (z.cps.toList.map fun c => decide (c ∈ letters)).all id := by
            simp only [nameB]
            rw [decide_eq_true c1, decide_eq_true c2, List.all_map]
            rfl
          rw [← e]
          exact k _ (by (assumption))
    · ((with_reducible refine s_bl ?_); (with_reducible refine ite_nf ?_); (with_reducible refine s_ret ?_); (with_reducible refine s_c ?_))
      have e : nameB (.str z) = false := by simp only [nameB]; rw [decide_eq_false c1]; simp
      exact e ▸ k w (Ext.refl _ _)
local macro_rules | `(tactic| wtm_at "go1") => `(tactic| first
  | with_reducible refine s_pr5 ?_
  | with_reducible refine s_pm4 ?_
  | with_reducible refine s_pm5 ?_
  | with_reducible refine s_pq1 ?_
  | with_reducible refine s_pq2 ?_
  | fail "go1e")
abbrev nm_NoName_init : List Str := ["self", "found"]
theorem sc_NoName_init : FnScope nm_NoName_init ["self", "found"] (defScope s_NoName_init) := ⟨rfl, rfl, rfl, by decide +kernel, rfl, by decide +kernel, by decide +kernel⟩
theorem st_NoName_init (a b : V) : start nm_NoName_init [a, b] = [some a, some b] := rfl
abbrev p_NoName_init (C : Addr) := initX (Str.ofString "found") C
theorem ok_NoName_init {f : Addr} {fd : FuncData} {C_Entry C_Within C_At C_Between C_Table C_Read C_Log C_LogError C_NoEntry C_NoMoment C_NoName C_NoPlace C_NoReading : Addr} (F : Fun K "__init__" "NoName.__init__" s_NoName_init f fd) (T : Txt K mg C_Entry C_Within C_At C_Between C_Table C_Read C_Log C_LogError C_NoEntry C_NoMoment C_NoName C_NoPlace C_NoReading)  : FnOk P ww K mg base CX0 1 f fd ["self", "found"] (pr2 (p_NoName_init C_NoName)) := by
  refine F.ok sc_NoName_init (fun vs H Q E h => len2 h) (fun cdv A outer s H vs Q E hr h => ?_)
  obtain ⟨w, x0, x1,  rfl, rfl, h⟩ := h
  have ekT := ek_T T
  have cl_Table := T.cl_Table
  have na_Table_kept_rows := T.na_Table_kept_rows
  have cl_Log := T.cl_Log
  have na_Log_bound := T.na_Log_bound
  have na_Log_clocks := T.na_Log_clocks
  have na_Log_line := T.na_Log_line
  have na_Log_name := T.na_Log_name
  have oex_NoEntry := T.oex_NoEntry; have xf_NoEntry := T.xf_NoEntry; have ec_NoEntry := T.ec_NoEntry; have xn_NoEntry := T.xn_NoEntry
  have oex_NoMoment := T.oex_NoMoment; have xf_NoMoment := T.xf_NoMoment; have ec_NoMoment := T.ec_NoMoment; have xn_NoMoment := T.xn_NoMoment
  have oex_NoName := T.oex_NoName; have xf_NoName := T.xf_NoName; have ec_NoName := T.ec_NoName; have xn_NoName := T.xn_NoName
  have oex_NoPlace := T.oex_NoPlace; have xf_NoPlace := T.xf_NoPlace; have ec_NoPlace := T.ec_NoPlace; have xn_NoPlace := T.xn_NoPlace
  have oex_NoReading := T.oex_NoReading; have xf_NoReading := T.xf_NoReading; have ec_NoReading := T.ec_NoReading; have xn_NoReading := T.xn_NoReading
  have rel_NoEntry_NoEntry := T.rel_NoEntry_NoEntry
  have exm_NoEntry_NoEntry := T.exm_NoEntry_NoEntry
  refine ⟨_, (pss_cons (ps_expr (pe_xinit (pe_glob (v := .ref C_LogError) (u := .ref C_LogError) rfl T.g_LogError rfl) T.rd_LogError T.gs_LogError T.vv_LogError (pa_cons (pv 0) (pa_cons pe_str pa_nil))))
      (pss_one (ps_ost (pv 0) (pv 1)))), ?_⟩
  rw [st_NoName_init]
  obtain ⟨x, rfl, hx, k⟩ := h
  ((with_reducible refine s_seq ?_); (with_reducible refine s_drop ?_); (with_reducible refine s_veI ?_); (with_reducible refine s_cons ?_); (with_reducible refine' s_var ?q18 ?q19); (case q18 => exact rfl); (with_reducible refine s_cons ?_); (with_reducible refine s_c ?_); (with_reducible refine s_nil ?_))
  refine ⟨x, _, _, rfl, by simp, oex_NoName, hx, ?_⟩
  ((with_reducible refine s_ost ?_); (with_reducible refine' s_var ?q20 ?q21); (case q20 => exact rfl); (with_reducible refine' s_var ?q22 ?q23); (case q22 => exact rfl))
  exact ⟨x, C_NoName, rfl, oex_NoName, xn_NoName, .inl ⟨hx, fun dx h1 h2 => k dx h1 h2⟩⟩
abbrev nm_NoPlace_init : List Str := ["self", "found"]
theorem sc_NoPlace_init : FnScope nm_NoPlace_init ["self", "found"] (defScope s_NoPlace_init) := ⟨rfl, rfl, rfl, by decide +kernel, rfl, by decide +kernel, by decide +kernel⟩
theorem st_NoPlace_init (a b : V) : start nm_NoPlace_init [a, b] = [some a, some b] := rfl
abbrev p_NoPlace_init (C : Addr) := initX (Str.ofString "found") C
theorem ok_NoPlace_init {f : Addr} {fd : FuncData} {C_Entry C_Within C_At C_Between C_Table C_Read C_Log C_LogError C_NoEntry C_NoMoment C_NoName C_NoPlace C_NoReading : Addr} (F : Fun K "__init__" "NoPlace.__init__" s_NoPlace_init f fd) (T : Txt K mg C_Entry C_Within C_At C_Between C_Table C_Read C_Log C_LogError C_NoEntry C_NoMoment C_NoName C_NoPlace C_NoReading)  : FnOk P ww K mg base CX0 1 f fd ["self", "found"] (pr2 (p_NoPlace_init C_NoPlace)) := by
  refine F.ok sc_NoPlace_init (fun vs H Q E h => len2 h) (fun cdv A outer s H vs Q E hr h => ?_)
  obtain ⟨w, x0, x1,  rfl, rfl, h⟩ := h
  have ekT := ek_T T
  have cl_Table := T.cl_Table
  have na_Table_kept_rows := T.na_Table_kept_rows
  have cl_Log := T.cl_Log
  have na_Log_bound := T.na_Log_bound
  have na_Log_clocks := T.na_Log_clocks
  have na_Log_line := T.na_Log_line
  have na_Log_name := T.na_Log_name
  have oex_NoEntry := T.oex_NoEntry; have xf_NoEntry := T.xf_NoEntry; have ec_NoEntry := T.ec_NoEntry; have xn_NoEntry := T.xn_NoEntry
  have oex_NoMoment := T.oex_NoMoment; have xf_NoMoment := T.xf_NoMoment; have ec_NoMoment := T.ec_NoMoment; have xn_NoMoment := T.xn_NoMoment
  have oex_NoName := T.oex_NoName; have xf_NoName := T.xf_NoName; have ec_NoName := T.ec_NoName; have xn_NoName := T.xn_NoName
  have oex_NoPlace := T.oex_NoPlace; have xf_NoPlace := T.xf_NoPlace; have ec_NoPlace := T.ec_NoPlace; have xn_NoPlace := T.xn_NoPlace
  have oex_NoReading := T.oex_NoReading; have xf_NoReading := T.xf_NoReading; have ec_NoReading := T.ec_NoReading; have xn_NoReading := T.xn_NoReading
  have rel_NoEntry_NoEntry := T.rel_NoEntry_NoEntry
  have exm_NoEntry_NoEntry := T.exm_NoEntry_NoEntry
  refine ⟨_, (pss_cons (ps_expr (pe_xinit (pe_glob (v := .ref C_LogError) (u := .ref C_LogError) rfl T.g_LogError rfl) T.rd_LogError T.gs_LogError T.vv_LogError (pa_cons (pv 0) (pa_cons pe_str pa_nil))))
      (pss_one (ps_ost (pv 0) (pv 1)))), ?_⟩
  rw [st_NoPlace_init]
  obtain ⟨x, rfl, hx, k⟩ := h
  ((with_reducible refine s_seq ?_); (with_reducible refine s_drop ?_); (with_reducible refine s_veI ?_); (with_reducible refine s_cons ?_); (with_reducible refine' s_var ?q24 ?q25); (case q24 => exact rfl); (with_reducible refine s_cons ?_); (with_reducible refine s_c ?_); (with_reducible refine s_nil ?_))
  refine ⟨x, _, _, rfl, by simp, oex_NoPlace, hx, ?_⟩
  ((with_reducible refine s_ost ?_); (with_reducible refine' s_var ?q26 ?q27); (case q26 => exact rfl); (with_reducible refine' s_var ?q28 ?q29); (case q28 => exact rfl))
  exact ⟨x, C_NoPlace, rfl, oex_NoPlace, xn_NoPlace, .inl ⟨hx, fun dx h1 h2 => k dx h1 h2⟩⟩
abbrev nm_NoMoment_init : List Str := ["self", "found"]
theorem sc_NoMoment_init : FnScope nm_NoMoment_init ["self", "found"] (defScope s_NoMoment_init) := ⟨rfl, rfl, rfl, by decide +kernel, rfl, by decide +kernel, by decide +kernel⟩
theorem st_NoMoment_init (a b : V) : start nm_NoMoment_init [a, b] = [some a, some b] := rfl
abbrev p_NoMoment_init (C : Addr) := initX (Str.ofString "found") C
theorem ok_NoMoment_init {f : Addr} {fd : FuncData} {C_Entry C_Within C_At C_Between C_Table C_Read C_Log C_LogError C_NoEntry C_NoMoment C_NoName C_NoPlace C_NoReading : Addr} (F : Fun K "__init__" "NoMoment.__init__" s_NoMoment_init f fd) (T : Txt K mg C_Entry C_Within C_At C_Between C_Table C_Read C_Log C_LogError C_NoEntry C_NoMoment C_NoName C_NoPlace C_NoReading)  : FnOk P ww K mg base CX0 1 f fd ["self", "found"] (pr2 (p_NoMoment_init C_NoMoment)) := by
  refine F.ok sc_NoMoment_init (fun vs H Q E h => len2 h) (fun cdv A outer s H vs Q E hr h => ?_)
  obtain ⟨w, x0, x1,  rfl, rfl, h⟩ := h
  have ekT := ek_T T
  have cl_Table := T.cl_Table
  have na_Table_kept_rows := T.na_Table_kept_rows
  have cl_Log := T.cl_Log
  have na_Log_bound := T.na_Log_bound
  have na_Log_clocks := T.na_Log_clocks
  have na_Log_line := T.na_Log_line
  have na_Log_name := T.na_Log_name
  have oex_NoEntry := T.oex_NoEntry; have xf_NoEntry := T.xf_NoEntry; have ec_NoEntry := T.ec_NoEntry; have xn_NoEntry := T.xn_NoEntry
  have oex_NoMoment := T.oex_NoMoment; have xf_NoMoment := T.xf_NoMoment; have ec_NoMoment := T.ec_NoMoment; have xn_NoMoment := T.xn_NoMoment
  have oex_NoName := T.oex_NoName; have xf_NoName := T.xf_NoName; have ec_NoName := T.ec_NoName; have xn_NoName := T.xn_NoName
  have oex_NoPlace := T.oex_NoPlace; have xf_NoPlace := T.xf_NoPlace; have ec_NoPlace := T.ec_NoPlace; have xn_NoPlace := T.xn_NoPlace
  have oex_NoReading := T.oex_NoReading; have xf_NoReading := T.xf_NoReading; have ec_NoReading := T.ec_NoReading; have xn_NoReading := T.xn_NoReading
  have rel_NoEntry_NoEntry := T.rel_NoEntry_NoEntry
  have exm_NoEntry_NoEntry := T.exm_NoEntry_NoEntry
  refine ⟨_, (pss_cons (ps_expr (pe_xinit (pe_glob (v := .ref C_LogError) (u := .ref C_LogError) rfl T.g_LogError rfl) T.rd_LogError T.gs_LogError T.vv_LogError (pa_cons (pv 0) (pa_cons pe_str pa_nil))))
      (pss_one (ps_ost (pv 0) (pv 1)))), ?_⟩
  rw [st_NoMoment_init]
  obtain ⟨x, rfl, hx, k⟩ := h
  ((with_reducible refine s_seq ?_); (with_reducible refine s_drop ?_); (with_reducible refine s_veI ?_); (with_reducible refine s_cons ?_); (with_reducible refine' s_var ?q30 ?q31); (case q30 => exact rfl); (with_reducible refine s_cons ?_); (with_reducible refine s_c ?_); (with_reducible refine s_nil ?_))
  refine ⟨x, _, _, rfl, by simp, oex_NoMoment, hx, ?_⟩
  ((with_reducible refine s_ost ?_); (with_reducible refine' s_var ?q32 ?q33); (case q32 => exact rfl); (with_reducible refine' s_var ?q34 ?q35); (case q34 => exact rfl))
  exact ⟨x, C_NoMoment, rfl, oex_NoMoment, xn_NoMoment, .inl ⟨hx, fun dx h1 h2 => k dx h1 h2⟩⟩
abbrev nm_Entry_init : List Str := ["self", "name"]
theorem sc_Entry_init : FnScope nm_Entry_init ["self", "name"] (defScope s_Entry_init) := ⟨rfl, rfl, rfl, by decide +kernel, rfl, by decide +kernel, by decide +kernel⟩
theorem st_Entry_init (a b : V) : start nm_Entry_init [a, b] = [some a, some b] := rfl
def p_Entry_init (K : PySem.W.Frag) (N : Addr) (w : Wd) (a b : V) (Q : VK) (E : XK) : Prop := ∃ x C dx d, a = .ref x ∧ Own w x (.ins C dx []) ∧ Ecl K C ∧ Rp w.S b d ∧ TxD d ∧
  (∀ z, d = .str z → nameB d = true → ∀ v, Ext (One x) w v → Own v x (.ins C dx [("name", .str z)]) → Q .non v.H) ∧
  (nameB d = false → Rz (One x) w N b E)
theorem ok_Entry_init {f : Addr} {fd : FuncData} {C_Entry C_Within C_At C_Between C_Table C_Read C_Log C_LogError C_NoEntry C_NoMoment C_NoName C_NoPlace C_NoReading : Addr} (F : Fun K "__init__" "Entry.__init__" s_Entry_init f fd) (T : Txt K mg C_Entry C_Within C_At C_Between C_Table C_Read C_Log C_LogError C_NoEntry C_NoMoment C_NoName C_NoPlace C_NoReading) (c_NoName_init : Mxr P ww K mg base C_NoName 1 (pr2 (p_NoName_init C_NoName))) (c_is_name : Fnc P ww K mg base CX0 1 "is_name" (pr1 (p_is_name))) : FnOk P ww K mg base (L2.CX P ww) 3 f fd ["self", "name"] (pr2 (p_Entry_init K C_NoName)) := by
  refine F.okX sc_Entry_init (fun vs H Q E h => len2 h) (fun cdv A outer s H vs Q E hr h => ?_)
  obtain ⟨w, x0, x1,  rfl, rfl, h⟩ := h
  have ekT := ek_T T
  have cl_Table := T.cl_Table
  have na_Table_kept_rows := T.na_Table_kept_rows
  have cl_Log := T.cl_Log
  have na_Log_bound := T.na_Log_bound
  have na_Log_clocks := T.na_Log_clocks
  have na_Log_line := T.na_Log_line
  have na_Log_name := T.na_Log_name
  have oex_NoEntry := T.oex_NoEntry; have xf_NoEntry := T.xf_NoEntry; have ec_NoEntry := T.ec_NoEntry; have xn_NoEntry := T.xn_NoEntry
  have oex_NoMoment := T.oex_NoMoment; have xf_NoMoment := T.xf_NoMoment; have ec_NoMoment := T.ec_NoMoment; have xn_NoMoment := T.xn_NoMoment
  have oex_NoName := T.oex_NoName; have xf_NoName := T.xf_NoName; have ec_NoName := T.ec_NoName; have xn_NoName := T.xn_NoName
  have oex_NoPlace := T.oex_NoPlace; have xf_NoPlace := T.xf_NoPlace; have ec_NoPlace := T.ec_NoPlace; have xn_NoPlace := T.xn_NoPlace
  have oex_NoReading := T.oex_NoReading; have xf_NoReading := T.xf_NoReading; have ec_NoReading := T.ec_NoReading; have xn_NoReading := T.xn_NoReading
  have rel_NoEntry_NoEntry := T.rel_NoEntry_NoEntry
  have exm_NoEntry_NoEntry := T.exm_NoEntry_NoEntry
  refine ⟨_, (pss_cons (ps_if (pt_not (pt_val (pe_fn c_is_name hr (by decide) pass0 (pa_cons (pv 1) pa_nil)))) (pss_one (ps_raiseX rfl (takes_of rfl rfl rfl rfl) c_NoName_init hr (by decide) T.g_NoName (pa_cons (pv 1) pa_nil))) pss_nil)
      (pss_one (ps_fld (pv 0) (pv 1) rfl))), ?_⟩
  rw [st_Entry_init]
  obtain ⟨x, C, dx, d, rfl, o, ec, hd, tx, k1, k2⟩ := h
  have cl := ec.cl; have na := ec.name
  ((with_reducible refine s_seq ?_); (with_reducible refine s_ifS ?_); (with_reducible refine s_not ?_); (with_reducible refine s_B ?_); (with_reducible refine s_call ?_); (with_reducible refine s_cons ?_); (with_reducible refine' s_var ?q36 ?q37); (case q36 => exact rfl); (with_reducible refine s_nil ?_); (with_reducible refine s_pr1 ?_))
  refine ⟨d, hd, tx, fun v1 e1 => ?_⟩
  cases hn : nameB d with
  | false =>
    ((with_reducible refine s_bl ?_); (with_reducible refine ite_nf ?_))
    refine s_raiseX rfl ?_
    ((with_reducible refine s_cons ?_); (with_reducible refine' s_var ?q38 ?q39); (case q38 => exact rfl); (with_reducible refine s_nil ?_))
    exact s_raised (W := fun cls d _ H => E cls d H) (σ := []) fun e v ev n o => k2 hn v e (by (refine' Ext.step ?q40 ?q41 ?q42; (case q41 => assumption); (case q40 => refine' Ext.step ?q43 ?q44 ?q45; (case q44 => assumption); (case q43 => exact Ext.refl _ _); (case q45 => exact fun _ z => z.elim)); (case q42 => exact fun _ z => z.elim))) (e1.back n) o
  | true =>
    obtain ⟨z, rfl⟩ : ∃ z, d = .str z := by cases d <;> first | exact ⟨_, rfl⟩ | cases hn
    obtain rfl := hd.str_inv
    ((with_reducible refine s_bl ?_); (with_reducible refine ite_nt ?_); (with_reducible refine s_next ?_); (with_reducible refine s_sfld ?_); (with_reducible refine' s_var ?q49 ?q50); (case q49 => exact rfl); (with_reducible refine' s_var ?q51 ?q52); (case q51 => exact rfl); (with_reducible refine' s_rsfl ?q53 ?q54 ?q55 ?q56 ?q57 ?q58); (case q53 => refine' Own.ext ( by assumption ) ?q59 ?q60; (case q59 => exact fun h => h); (case q60 => assumption)); (case q54 => assumption); (case q55 => assumption); (case q56 => simp only [ List.length_cons , List.length_nil ]; omega); (case q57 => exact pf_nil); intro _ _ _)
    exact k1 z rfl hn _ (by (refine' Ext.step ?q61 ?q62 ?q63; (case q62 => assumption); (case q61 => refine' Ext.step ?q64 ?q65 ?q66; (case q65 => assumption); (case q64 => exact Ext.refl _ _); (case q66 => exact fun _ z => z.elim)); (case q63 => refine tch_one ?q67; refine Or.inr ?_; rfl))) (by (assumption))
abbrev nm_Within_init : List Str := ["self", "name", "low", "high", "moment"]
theorem sc_Within_init : FnScope nm_Within_init ["self", "name", "low", "high"] (defScope s_Within_init) := ⟨rfl, rfl, rfl, by decide +kernel, rfl, by decide +kernel, by decide +kernel⟩
theorem st_Within_init (a b c d : V) : start nm_Within_init [a, b, c, d] = [some a, some b, some c, some d, none] := rfl
def p_Within_init (K : PySem.W.Frag) (N M : Addr) (w : Wd) (a b c d : V) (Q : VK) (E : XK) : Prop := ∃ x C dx dn dl dh, a = .ref x ∧ Own w x (.ins C dx []) ∧ Ecl K C ∧ Rp w.S b dn ∧ TxD dn ∧ Rp w.S c dl ∧ Rp w.S d dh ∧
  (∀ z lo hi, dn = .str z → nameB dn = true → dl = .int lo → dh = .int hi → 0 ≤ lo → lo ≤ 1000000000 → 0 ≤ hi → hi ≤ 1000000000 → ∀ v, Ext (One x) w v → Own v x (.ins C dx [("name", .str z), ("low", .int lo), ("high", .int hi)]) → Q .non v.H) ∧
  (nameB dn = false → Rz (One x) w N b E) ∧ (nameB dn = true → wholeB dl 0 1000000000 = false → Rz (One x) w M c E) ∧ (nameB dn = true → wholeB dl 0 1000000000 = true → wholeB dh 0 1000000000 = false → Rz (One x) w M d E)
theorem ok_Within_init {f : Addr} {fd : FuncData} {C_Entry C_Within C_At C_Between C_Table C_Read C_Log C_LogError C_NoEntry C_NoMoment C_NoName C_NoPlace C_NoReading : Addr} (F : Fun K "__init__" "Within.__init__" s_Within_init f fd) (T : Txt K mg C_Entry C_Within C_At C_Between C_Table C_Read C_Log C_LogError C_NoEntry C_NoMoment C_NoName C_NoPlace C_NoReading) (c_NoMoment_init : Mxr P ww K mg base C_NoMoment 1 (pr2 (p_NoMoment_init C_NoMoment))) (c_is_moment : Fnc P ww K mg base CX0 2 "is_moment" (pr1 (p_is_moment))) (b_Entry_init : Bin P ww K mg base (L2.CX P ww) C_Entry 3 (pr2 (p_Entry_init K C_NoName))) : FnOk P ww K mg base (L2.CX P ww) 4 f fd ["self", "name", "low", "high"] (pr4 (p_Within_init K C_NoName C_NoMoment)) := by
  refine F.okX sc_Within_init (fun vs H Q E h => len4 h) (fun cdv A outer s H vs Q E hr h => ?_)
  obtain ⟨w, x0, x1, x2, x3,  rfl, rfl, h⟩ := h
  have ekT := ek_T T
  have cl_Table := T.cl_Table
  have na_Table_kept_rows := T.na_Table_kept_rows
  have cl_Log := T.cl_Log
  have na_Log_bound := T.na_Log_bound
  have na_Log_clocks := T.na_Log_clocks
  have na_Log_line := T.na_Log_line
  have na_Log_name := T.na_Log_name
  have oex_NoEntry := T.oex_NoEntry; have xf_NoEntry := T.xf_NoEntry; have ec_NoEntry := T.ec_NoEntry; have xn_NoEntry := T.xn_NoEntry
  have oex_NoMoment := T.oex_NoMoment; have xf_NoMoment := T.xf_NoMoment; have ec_NoMoment := T.ec_NoMoment; have xn_NoMoment := T.xn_NoMoment
  have oex_NoName := T.oex_NoName; have xf_NoName := T.xf_NoName; have ec_NoName := T.ec_NoName; have xn_NoName := T.xn_NoName
  have oex_NoPlace := T.oex_NoPlace; have xf_NoPlace := T.xf_NoPlace; have ec_NoPlace := T.ec_NoPlace; have xn_NoPlace := T.xn_NoPlace
  have oex_NoReading := T.oex_NoReading; have xf_NoReading := T.xf_NoReading; have ec_NoReading := T.ec_NoReading; have xn_NoReading := T.xn_NoReading
  have rel_NoEntry_NoEntry := T.rel_NoEntry_NoEntry
  have exm_NoEntry_NoEntry := T.exm_NoEntry_NoEntry
  refine ⟨_, (pss_cons (ps_expr (pe_bin (takes_of rfl rfl rfl rfl) b_Entry_init hr (by decide) (pe_glob (v := .ref C_Entry) (u := .ref C_Entry) rfl T.g_Entry rfl) (pa_cons (pv 0) (pa_cons (pv 1) pa_nil))))
      (pss_cons (ps_for (passes_of rfl) rfl (kpTup K (pe_tup (pa_cons (pv 2) (pa_cons (pv 3) pa_nil)))) (pg_name (i := 4) sc_Within_init.nd rfl (Or.inl rfl)) (pss_one (ps_if (pt_not (pt_val (pe_fn c_is_moment hr (by decide) pass0 (pa_cons (pv 4) pa_nil)))) (pss_one (ps_raiseX rfl (takes_of rfl rfl rfl rfl) c_NoMoment_init hr (by decide) T.g_NoMoment (pa_cons (pv 4) pa_nil))) pss_nil)))
      (pss_cons (ps_fld (pv 0) (pv 2) rfl)
      (pss_one (ps_fld (pv 0) (pv 3) rfl))))), ?_⟩
  rw [st_Within_init]
  obtain ⟨x, C, dx, dn, dl, dh, rfl, o, ec, hn, tx, hl, hh, k1, k2, k3, k4⟩ := h
  have cl := ec.cl; have na := ec.name; have nl := ec.low; have nh := ec.high
  ((with_reducible refine s_seq ?_); (with_reducible refine s_drop ?_); (with_reducible refine s_callX ?_); (with_reducible refine s_cons ?_); (with_reducible refine' s_var ?q68 ?q69); (case q68 => exact rfl); (with_reducible refine s_cons ?_); (with_reducible refine' s_var ?q70 ?q71); (case q70 => exact rfl); (with_reducible refine s_nil ?_); (with_reducible refine s_pr2 ?_))
  refine ⟨x, C, dx, dn, rfl, o, ec, hn, tx, fun z hz hb v1 e1 o1 => ?_, k2⟩
  subst hz
  ((with_reducible refine s_seq ?_); (with_reducible refine s_for ?_); (with_reducible refine s_iTup ?_); (with_reducible refine t_tup ?_); (with_reducible refine s_cons ?_); (with_reducible refine' s_var ?q72 ?q73); (case q72 => exact rfl); (with_reducible refine s_cons ?_); (with_reducible refine' s_var ?q74 ?q75); (case q74 => exact rfl); (with_reducible refine s_nil ?_); (with_reducible refine' t_newT ?q76 ?q77); (case q76 => simp only [ List.length , sizeLine_eq ]; omega); intro _ _ _ _ _; refine' ⟨ _ , rfl , ⟨ _ , ?q78 ⟩ , ?q79 ⟩; (case q78 => refine' sqt_of ?q80; (case q80 => assumption)))
  rename_i T v0 e0 n0 s0
  refine forW (ww_tup (xs := [x2, x3])) (fun i σ u => Ext Non v0 u ∧ ∃ g, σ = [some (.ref x), some x1, some x2, some x3, g] ∧ (1 ≤ i → wholeB dl 0 1000000000 = true) ∧ (2 ≤ i → wholeB dh 0 1000000000 = true)) ⟨Ext.refl _ _, _, rfl, (fun z => absurd z (by decide)), (fun z => absurd z (by decide))⟩ (fun i σ u _ hh => sqt_of (st_go hh.1 s0)) ?_ ?_
  · rintro i z σ _ u hi ⟨eu, g, rfl, h1, h2⟩ ⟨rfl, hz⟩
    have hi2 : i < 2 := hi
    have ew0 : Ext (One x) w u := e1.step (e0.trans eu) fun _ z => z.elim
    have hcase : (i = 0 ∧ z = x2) ∨ (i = 1 ∧ z = x3) := by
      match i, hi2 with
      | 0, _ => exact .inl ⟨rfl, by simpa using hz.symm⟩
      | 1, _ => exact .inr ⟨rfl, by simpa using hz.symm⟩
    rcases hcase with ⟨rfl, rfl⟩ | ⟨rfl, rfl⟩
    · ((with_reducible refine' s_gname ?q81 ?q82); (case q81 => simp only [ List.set_cons_succ , List.set_cons_zero ]; exact rfl); (with_reducible refine s_ifS ?_); (with_reducible refine s_not ?_); (with_reducible refine s_B ?_); (with_reducible refine s_call ?_); (with_reducible refine s_cons ?_); (with_reducible refine' s_var ?q83 ?q84); (case q83 => exact rfl); (with_reducible refine s_nil ?_); (with_reducible refine s_pr1 ?_))
      refine ⟨dl, hl.go ew0, fun v2 e2 => ?_⟩
      ((with_reducible refine s_bl ?_))
      refine ite_n (fun hb2 => ?_) (fun hb2 => ?_)
      · skip
        refine s_raiseX rfl ?_
        ((with_reducible refine s_cons ?_); (with_reducible refine' s_var ?q85 ?q86); (case q85 => exact rfl); (with_reducible refine s_nil ?_))
        exact s_raised (W := fun cls d _ H => E cls d H) (σ := []) fun e v ev n o => k3 hb hb2 v e (ew0.step (e2.trans ev) fun _ z => z.elim) (ew0.back (e2.back n)) o
      · ((with_reducible refine s_next ?_); (with_reducible refine wds_i ?_))
        exact ⟨eu.trans e2, _, rfl, (fun _ => hb2), (fun z => absurd z (by decide))⟩
    · have hd1 := h1 (by decide)
      ((with_reducible refine' s_gname ?q87 ?q88); (case q87 => simp only [ List.set_cons_succ , List.set_cons_zero ]; exact rfl); (with_reducible refine s_ifS ?_); (with_reducible refine s_not ?_); (with_reducible refine s_B ?_); (with_reducible refine s_call ?_); (with_reducible refine s_cons ?_); (with_reducible refine' s_var ?q89 ?q90); (case q89 => exact rfl); (with_reducible refine s_nil ?_); (with_reducible refine s_pr1 ?_))
      refine ⟨dh, hh.go ew0, fun v2 e2 => ?_⟩
      ((with_reducible refine s_bl ?_))
      refine ite_n (fun hb2 => ?_) (fun hb2 => ?_)
      · skip
        refine s_raiseX rfl ?_
        ((with_reducible refine s_cons ?_); (with_reducible refine' s_var ?q91 ?q92); (case q91 => exact rfl); (with_reducible refine s_nil ?_))
        exact s_raised (W := fun cls d _ H => E cls d H) (σ := []) fun e v ev n o => k4 hb hd1 hb2 v e (ew0.step (e2.trans ev) fun _ z => z.elim) (ew0.back (e2.back n)) o
      · ((with_reducible refine s_next ?_); (with_reducible refine wds_i ?_))
        exact ⟨eu.trans e2, _, rfl, (fun _ => hd1), (fun _ => hb2)⟩
  rintro σ u ⟨eu, g, rfl, h1, h2⟩
  obtain ⟨lo, rfl, lo0, lo1⟩ := whole_yes (h1 (show 1 ≤ 2 by decide))
  obtain ⟨hi, rfl, hi0, hi1⟩ := whole_yes (h2 (show 2 ≤ 2 by decide))
  obtain rfl := hl.int_inv
  obtain rfl := hh.int_inv
  have ou : Own u x _ := (o1.ext e0 fun z => z).ext eu fun z => z
  have ewu : Ext (One x) w u := e1.step (e0.trans eu) fun _ z => z.elim
  clear e0 eu e1 o1 o s0
  ((with_reducible refine s_seq ?_); (with_reducible refine s_sfld ?_); (with_reducible refine' s_var ?q93 ?q94); (case q93 => exact rfl); (with_reducible refine' s_var ?q95 ?q96); (case q95 => exact rfl); (with_reducible refine' s_rsfl ?q97 ?q98 ?q99 ?q100 ?q101 ?q102); (case q97 => assumption); (case q98 => assumption); (case q99 => assumption); (case q100 => simp only [ List.length_cons , List.length_nil ]; omega); (case q101 => refine' pf_tl ?q103 ?q104; (case q103 => decide +kernel); (case q104 => exact pf_nil)); intro _ _ _; (with_reducible refine s_sfld ?_); (with_reducible refine' s_var ?q105 ?q106); (case q105 => exact rfl); (with_reducible refine' s_var ?q107 ?q108); (case q107 => exact rfl); (with_reducible refine' s_rsfl ?q109 ?q110 ?q111 ?q112 ?q113 ?q114); (case q109 => assumption); (case q110 => assumption); (case q111 => assumption); (case q112 => simp only [ List.length_cons , List.length_nil ]; omega); (case q113 => refine' pf_tl ?q115 ?q116; (case q115 => decide +kernel); (case q116 => refine' pf_tl ?q117 ?q118; (case q117 => decide +kernel); (case q118 => exact pf_nil))); intro _ _ _)
  exact k1 z lo hi rfl hb rfl rfl (by omega) lo1 (by omega) hi1 _ (by (refine' Ext.step ?q119 ?q120 ?q121; (case q120 => assumption); (case q119 => refine' Ext.step ?q122 ?q123 ?q124; (case q123 => assumption); (case q122 => assumption); (case q124 => refine tch_one ?q125; refine Or.inr ?_; rfl)); (case q121 => refine tch_one ?q126; refine Or.inr ?_; rfl))) (by (assumption))
abbrev nm_At_init : List Str := ["self", "name", "moment"]
theorem sc_At_init : FnScope nm_At_init ["self", "name", "moment"] (defScope s_At_init) := ⟨rfl, rfl, rfl, by decide +kernel, rfl, by decide +kernel, by decide +kernel⟩
theorem st_At_init (a b c : V) : start nm_At_init [a, b, c] = [some a, some b, some c] := rfl
def p_At_init (K : PySem.W.Frag) (N M : Addr) (w : Wd) (a b c : V) (Q : VK) (E : XK) : Prop := ∃ x C dx dn dl, a = .ref x ∧ Own w x (.ins C dx []) ∧ Ecl K C ∧ Rp w.S b dn ∧ TxD dn ∧ Rp w.S c dl ∧
  (∀ z lo, dn = .str z → nameB dn = true → dl = .int lo → 0 ≤ lo → lo ≤ 1000000000 → ∀ v, Ext (One x) w v → Own v x (.ins C dx [("name", .str z), ("low", .int lo), ("high", .int lo)]) → Q .non v.H) ∧
  (nameB dn = false → Rz (One x) w N b E) ∧ (nameB dn = true → wholeB dl 0 1000000000 = false → Rz (One x) w M c E)
theorem ok_At_init {f : Addr} {fd : FuncData} {C_Entry C_Within C_At C_Between C_Table C_Read C_Log C_LogError C_NoEntry C_NoMoment C_NoName C_NoPlace C_NoReading : Addr} (F : Fun K "__init__" "At.__init__" s_At_init f fd) (T : Txt K mg C_Entry C_Within C_At C_Between C_Table C_Read C_Log C_LogError C_NoEntry C_NoMoment C_NoName C_NoPlace C_NoReading)  (b_Within_init : Bin P ww K mg base (L2.CX P ww) C_Within 4 (pr4 (p_Within_init K C_NoName C_NoMoment))) : FnOk P ww K mg base (L2.CX P ww) 5 f fd ["self", "name", "moment"] (pr3 (p_At_init K C_NoName C_NoMoment)) := by
  refine F.okX sc_At_init (fun vs H Q E h => len3 h) (fun cdv A outer s H vs Q E hr h => ?_)
  obtain ⟨w, x0, x1, x2,  rfl, rfl, h⟩ := h
  have ekT := ek_T T
  have cl_Table := T.cl_Table
  have na_Table_kept_rows := T.na_Table_kept_rows
  have cl_Log := T.cl_Log
  have na_Log_bound := T.na_Log_bound
  have na_Log_clocks := T.na_Log_clocks
  have na_Log_line := T.na_Log_line
  have na_Log_name := T.na_Log_name
  have oex_NoEntry := T.oex_NoEntry; have xf_NoEntry := T.xf_NoEntry; have ec_NoEntry := T.ec_NoEntry; have xn_NoEntry := T.xn_NoEntry
  have oex_NoMoment := T.oex_NoMoment; have xf_NoMoment := T.xf_NoMoment; have ec_NoMoment := T.ec_NoMoment; have xn_NoMoment := T.xn_NoMoment
  have oex_NoName := T.oex_NoName; have xf_NoName := T.xf_NoName; have ec_NoName := T.ec_NoName; have xn_NoName := T.xn_NoName
  have oex_NoPlace := T.oex_NoPlace; have xf_NoPlace := T.xf_NoPlace; have ec_NoPlace := T.ec_NoPlace; have xn_NoPlace := T.xn_NoPlace
  have oex_NoReading := T.oex_NoReading; have xf_NoReading := T.xf_NoReading; have ec_NoReading := T.ec_NoReading; have xn_NoReading := T.xn_NoReading
  have rel_NoEntry_NoEntry := T.rel_NoEntry_NoEntry
  have exm_NoEntry_NoEntry := T.exm_NoEntry_NoEntry
  refine ⟨_, (pss_one (ps_expr (pe_bin (takes_of rfl rfl rfl rfl) b_Within_init hr (by decide) (pe_glob (v := .ref C_Within) (u := .ref C_Within) rfl T.g_Within rfl) (pa_cons (pv 0) (pa_cons (pv 1) (pa_cons (pv 2) (pa_cons (pv 2) pa_nil))))))), ?_⟩
  rw [st_At_init]
  obtain ⟨x, C, dx, dn, dl, rfl, o, ec, hn, tx, hl, k1, k2, k3⟩ := h
  ((with_reducible refine s_drop ?_); (with_reducible refine s_callX ?_); (with_reducible refine s_cons ?_); (with_reducible refine' s_var ?q127 ?q128); (case q127 => exact rfl); (with_reducible refine s_cons ?_); (with_reducible refine' s_var ?q129 ?q130); (case q129 => exact rfl); (with_reducible refine s_cons ?_); (with_reducible refine' s_var ?q131 ?q132); (case q131 => exact rfl); (with_reducible refine s_cons ?_); (with_reducible refine' s_var ?q133 ?q134); (case q133 => exact rfl); (with_reducible refine s_nil ?_); (with_reducible refine s_pr4 ?_))
  refine ⟨x, C, dx, dn, dl, dl, rfl, o, ec, hn, tx, hl, hl, fun z lo hi hz hb h1 h2 a1 a2 a3 a4 v ev ov => ?_, k2, k3, fun a b c => absurd b (by rw [c]; decide)⟩
  subst h1
  cases h2
  skip
  exact k1 z lo hz hb rfl a1 a2 _ (by (assumption)) (by (assumption))
abbrev nm_Between_init : List Str := ["self", "name", "place", "low", "high", "reading"]
theorem sc_Between_init : FnScope nm_Between_init ["self", "name", "place", "low", "high"] (defScope s_Between_init) := ⟨rfl, rfl, rfl, by decide +kernel, rfl, by decide +kernel, by decide +kernel⟩
theorem st_Between_init (a b c d e : V) : start nm_Between_init [a, b, c, d, e] = [some a, some b, some c, some d, some e, none] := rfl
def p_Between_init (K : PySem.W.Frag) (N M : Addr) (w : Wd) (a b p c d : V) (Q : VK) (E : XK) : Prop := ∃ x C dx dn dp dl dh, a = .ref x ∧ Own w x (.ins C dx []) ∧ Ecl K C ∧ Rp w.S b dn ∧ TxD dn ∧ Rp w.S p dp ∧ TxD dp ∧ Rp w.S c dl ∧ Rp w.S d dh ∧
  (∀ z y lo hi, dn = .str z → nameB dn = true → dp = .str y → nameB dp = true → dl = .int lo → dh = .int hi → -10000000000 ≤ lo → lo ≤ 10000000000 → -10000000000 ≤ hi → hi ≤ 10000000000 → ∀ v, Ext (One x) w v → Own v x (.ins C dx [("name", .str z), ("place", .str y), ("low", .int lo), ("high", .int hi)]) → Q .non v.H) ∧
  (nameB dn = false → Rz (One x) w N b E) ∧ (nameB dn = true → nameB dp = false → Rz (One x) w N p E) ∧ (nameB dn = true → nameB dp = true → wholeB dl (0 - 10000000000) 10000000000 = false → Rz (One x) w M c E) ∧ (nameB dn = true → nameB dp = true → wholeB dl (0 - 10000000000) 10000000000 = true → wholeB dh (0 - 10000000000) 10000000000 = false → Rz (One x) w M d E)
theorem ok_Between_init {f : Addr} {fd : FuncData} {C_Entry C_Within C_At C_Between C_Table C_Read C_Log C_LogError C_NoEntry C_NoMoment C_NoName C_NoPlace C_NoReading : Addr} (F : Fun K "__init__" "Between.__init__" s_Between_init f fd) (T : Txt K mg C_Entry C_Within C_At C_Between C_Table C_Read C_Log C_LogError C_NoEntry C_NoMoment C_NoName C_NoPlace C_NoReading) (c_NoName_init : Mxr P ww K mg base C_NoName 1 (pr2 (p_NoName_init C_NoName))) (c_NoReading_init : Mxr P ww K mg base C_NoReading 1 (pr2 (p_NoReading_init C_NoReading))) (c_is_name : Fnc P ww K mg base CX0 1 "is_name" (pr1 (p_is_name))) (c_is_reading : Fnc P ww K mg base CX0 2 "is_reading" (pr1 (p_is_reading))) (b_Entry_init : Bin P ww K mg base (L2.CX P ww) C_Entry 3 (pr2 (p_Entry_init K C_NoName))) : FnOk P ww K mg base (L2.CX P ww) 4 f fd ["self", "name", "place", "low", "high"] (pr5 (p_Between_init K C_NoName C_NoReading)) := by
  refine F.okX sc_Between_init (fun vs H Q E h => len5 h) (fun cdv A outer s H vs Q E hr h => ?_)
  obtain ⟨w, x0, x1, x2, x3, x4,  rfl, rfl, h⟩ := h
  have ekT := ek_T T
  have cl_Table := T.cl_Table
  have na_Table_kept_rows := T.na_Table_kept_rows
  have cl_Log := T.cl_Log
  have na_Log_bound := T.na_Log_bound
  have na_Log_clocks := T.na_Log_clocks
  have na_Log_line := T.na_Log_line
  have na_Log_name := T.na_Log_name
  have oex_NoEntry := T.oex_NoEntry; have xf_NoEntry := T.xf_NoEntry; have ec_NoEntry := T.ec_NoEntry; have xn_NoEntry := T.xn_NoEntry
  have oex_NoMoment := T.oex_NoMoment; have xf_NoMoment := T.xf_NoMoment; have ec_NoMoment := T.ec_NoMoment; have xn_NoMoment := T.xn_NoMoment
  have oex_NoName := T.oex_NoName; have xf_NoName := T.xf_NoName; have ec_NoName := T.ec_NoName; have xn_NoName := T.xn_NoName
  have oex_NoPlace := T.oex_NoPlace; have xf_NoPlace := T.xf_NoPlace; have ec_NoPlace := T.ec_NoPlace; have xn_NoPlace := T.xn_NoPlace
  have oex_NoReading := T.oex_NoReading; have xf_NoReading := T.xf_NoReading; have ec_NoReading := T.ec_NoReading; have xn_NoReading := T.xn_NoReading
  have rel_NoEntry_NoEntry := T.rel_NoEntry_NoEntry
  have exm_NoEntry_NoEntry := T.exm_NoEntry_NoEntry
  refine ⟨_, (pss_cons (ps_expr (pe_bin (takes_of rfl rfl rfl rfl) b_Entry_init hr (by decide) (pe_glob (v := .ref C_Entry) (u := .ref C_Entry) rfl T.g_Entry rfl) (pa_cons (pv 0) (pa_cons (pv 1) pa_nil))))
      (pss_cons (ps_if (pt_not (pt_val (pe_fn c_is_name hr (by decide) pass0 (pa_cons (pv 2) pa_nil)))) (pss_one (ps_raiseX rfl (takes_of rfl rfl rfl rfl) c_NoName_init hr (by decide) T.g_NoName (pa_cons (pv 2) pa_nil))) pss_nil)
      (pss_cons (ps_for (passes_of rfl) rfl (kpTup K (pe_tup (pa_cons (pv 3) (pa_cons (pv 4) pa_nil)))) (pg_name (i := 5) sc_Between_init.nd rfl (Or.inl rfl)) (pss_one (ps_if (pt_not (pt_val (pe_fn c_is_reading hr (by decide) pass0 (pa_cons (pv 5) pa_nil)))) (pss_one (ps_raiseX rfl (takes_of rfl rfl rfl rfl) c_NoReading_init hr (by decide) T.g_NoReading (pa_cons (pv 5) pa_nil))) pss_nil)))
      (pss_cons (ps_fld (pv 0) (pv 2) rfl)
      (pss_cons (ps_fld (pv 0) (pv 3) rfl)
      (pss_one (ps_fld (pv 0) (pv 4) rfl))))))), ?_⟩
  rw [st_Between_init]
  obtain ⟨x, C, dx, dn, dp, dl, dh, rfl, o, ec, hn, tx, hp, tp, hl, hh, k1, k2, k5, k3, k4⟩ := h
  have cl := ec.cl; have na := ec.name; have nl := ec.low; have nh := ec.high; have np := ec.place
  ((with_reducible refine s_seq ?_); (with_reducible refine s_drop ?_); (with_reducible refine s_callX ?_); (with_reducible refine s_cons ?_); (with_reducible refine' s_var ?q135 ?q136); (case q135 => exact rfl); (with_reducible refine s_cons ?_); (with_reducible refine' s_var ?q137 ?q138); (case q137 => exact rfl); (with_reducible refine s_nil ?_); (with_reducible refine s_pr2 ?_))
  refine ⟨x, C, dx, dn, rfl, o, ec, hn, tx, fun z hz hb v1 e1 o1 => ?_, k2⟩
  subst hz
  ((with_reducible refine s_seq ?_); (with_reducible refine s_ifS ?_); (with_reducible refine s_not ?_); (with_reducible refine s_B ?_); (with_reducible refine s_call ?_); (with_reducible refine s_cons ?_); (with_reducible refine' s_var ?q139 ?q140); (case q139 => exact rfl); (with_reducible refine s_nil ?_); (with_reducible refine s_pr1 ?_))
  refine ⟨dp, hp.go e1, tp, fun v2 e2 => ?_⟩
  have e12 : Ext (One x) w v2 := e1.step e2 fun _ z => z.elim
  cases hbp : nameB dp with
  | false =>
    ((with_reducible refine s_bl ?_); (with_reducible refine ite_nf ?_))
    refine s_raiseX rfl ?_
    ((with_reducible refine s_cons ?_); (with_reducible refine' s_var ?q141 ?q142); (case q141 => exact rfl); (with_reducible refine s_nil ?_))
    exact s_raised (W := fun cls d _ H => E cls d H) (σ := []) fun e v ev n o => k5 hb hbp v e (e12.step ev fun _ z => z.elim) (e12.back n) o
  | true =>
  obtain ⟨y, rfl⟩ : ∃ z, dp = .str z := by cases dp <;> first | exact ⟨_, rfl⟩ | cases hbp
  obtain rfl := hp.str_inv
  have o2 : Own v2 x _ := o1.ext e2 fun z => z
  clear e1 e2 o1 o
  ((with_reducible refine s_bl ?_); (with_reducible refine ite_nt ?_); (with_reducible refine s_next ?_); (with_reducible refine s_seq ?_); (with_reducible refine s_for ?_); (with_reducible refine s_iTup ?_); (with_reducible refine t_tup ?_); (with_reducible refine s_cons ?_); (with_reducible refine' s_var ?q146 ?q147); (case q146 => exact rfl); (with_reducible refine s_cons ?_); (with_reducible refine' s_var ?q148 ?q149); (case q148 => exact rfl); (with_reducible refine s_nil ?_); (with_reducible refine' t_newT ?q150 ?q151); (case q150 => simp only [ List.length , sizeLine_eq ]; omega); intro _ _ _ _ _; refine' ⟨ _ , rfl , ⟨ _ , ?q152 ⟩ , ?q153 ⟩; (case q152 => refine' sqt_of ?q154; (case q154 => assumption)))
  rename_i T v0 e0 n0 s0
  refine forW (ww_tup (xs := [x3, x4])) (fun i σ u => Ext Non v0 u ∧ ∃ g, σ = [some (.ref x), some x1, some (.str y), some x3, some x4, g] ∧ (1 ≤ i → wholeB dl (0 - 10000000000) 10000000000 = true) ∧ (2 ≤ i → wholeB dh (0 - 10000000000) 10000000000 = true)) ⟨Ext.refl _ _, _, rfl, (fun z => absurd z (by decide)), (fun z => absurd z (by decide))⟩ (fun i σ u _ hh => sqt_of (st_go hh.1 s0)) ?_ ?_
  · rintro i z σ _ u hi ⟨eu, g, rfl, h1, h2⟩ ⟨rfl, hz⟩
    have hi2 : i < 2 := hi
    have ew0 : Ext (One x) w u := e12.step (e0.trans eu) fun _ z => z.elim
    have hcase : (i = 0 ∧ z = x3) ∨ (i = 1 ∧ z = x4) := by
      match i, hi2 with
      | 0, _ => exact .inl ⟨rfl, by simpa using hz.symm⟩
      | 1, _ => exact .inr ⟨rfl, by simpa using hz.symm⟩
    rcases hcase with ⟨rfl, rfl⟩ | ⟨rfl, rfl⟩
    · ((with_reducible refine' s_gname ?q155 ?q156); (case q155 => simp only [ List.set_cons_succ , List.set_cons_zero ]; exact rfl); (with_reducible refine s_ifS ?_); (with_reducible refine s_not ?_); (with_reducible refine s_B ?_); (with_reducible refine s_call ?_); (with_reducible refine s_cons ?_); (with_reducible refine' s_var ?q157 ?q158); (case q157 => exact rfl); (with_reducible refine s_nil ?_); (with_reducible refine s_pr1 ?_))
      refine ⟨dl, hl.go ew0, fun v2 e2 => ?_⟩
      ((with_reducible refine s_bl ?_))
      refine ite_n (fun hb2 => ?_) (fun hb2 => ?_)
      · skip
        refine s_raiseX rfl ?_
        ((with_reducible refine s_cons ?_); (with_reducible refine' s_var ?q159 ?q160); (case q159 => exact rfl); (with_reducible refine s_nil ?_))
        exact s_raised (W := fun cls d _ H => E cls d H) (σ := []) fun e v ev n o => k3 hb hbp hb2 v e (ew0.step (e2.trans ev) fun _ z => z.elim) (ew0.back (e2.back n)) o
      · ((with_reducible refine s_next ?_); (with_reducible refine wds_i ?_))
        exact ⟨eu.trans e2, _, rfl, (fun _ => hb2), (fun z => absurd z (by decide))⟩
    · have hd1 := h1 (by decide)
      ((with_reducible refine' s_gname ?q161 ?q162); (case q161 => simp only [ List.set_cons_succ , List.set_cons_zero ]; exact rfl); (with_reducible refine s_ifS ?_); (with_reducible refine s_not ?_); (with_reducible refine s_B ?_); (with_reducible refine s_call ?_); (with_reducible refine s_cons ?_); (with_reducible refine' s_var ?q163 ?q164); (case q163 => exact rfl); (with_reducible refine s_nil ?_); (with_reducible refine s_pr1 ?_))
      refine ⟨dh, hh.go ew0, fun v2 e2 => ?_⟩
      ((with_reducible refine s_bl ?_))
      refine ite_n (fun hb2 => ?_) (fun hb2 => ?_)
      · skip
        refine s_raiseX rfl ?_
        ((with_reducible refine s_cons ?_); (with_reducible refine' s_var ?q165 ?q166); (case q165 => exact rfl); (with_reducible refine s_nil ?_))
        exact s_raised (W := fun cls d _ H => E cls d H) (σ := []) fun e v ev n o => k4 hb hbp hd1 hb2 v e (ew0.step (e2.trans ev) fun _ z => z.elim) (ew0.back (e2.back n)) o
      · ((with_reducible refine s_next ?_); (with_reducible refine wds_i ?_))
        exact ⟨eu.trans e2, _, rfl, (fun _ => hd1), (fun _ => hb2)⟩
  rintro σ u ⟨eu, g, rfl, h1, h2⟩
  obtain ⟨lo, rfl, lo0, lo1⟩ := whole_yes (h1 (show 1 ≤ 2 by decide))
  obtain ⟨hi, rfl, hi0, hi1⟩ := whole_yes (h2 (show 2 ≤ 2 by decide))
  obtain rfl := hl.int_inv
  obtain rfl := hh.int_inv
  have ou : Own u x _ := (o2.ext e0 fun z => z).ext eu fun z => z
  have ewu : Ext (One x) w u := e12.step (e0.trans eu) fun _ z => z.elim
  clear e0 eu e12 o2 s0
  ((with_reducible refine s_seq ?_); (with_reducible refine s_sfld ?_); (with_reducible refine' s_var ?q167 ?q168); (case q167 => exact rfl); (with_reducible refine' s_var ?q169 ?q170); (case q169 => exact rfl); (with_reducible refine' s_rsfl ?q171 ?q172 ?q173 ?q174 ?q175 ?q176); (case q171 => assumption); (case q172 => assumption); (case q173 => assumption); (case q174 => simp only [ List.length_cons , List.length_nil ]; omega); (case q175 => refine' pf_tl ?q177 ?q178; (case q177 => decide +kernel); (case q178 => exact pf_nil)); intro _ _ _; (with_reducible refine s_seq ?_); (with_reducible refine s_sfld ?_); (with_reducible refine' s_var ?q179 ?q180); (case q179 => exact rfl); (with_reducible refine' s_var ?q181 ?q182); (case q181 => exact rfl); (with_reducible refine' s_rsfl ?q183 ?q184 ?q185 ?q186 ?q187 ?q188); (case q183 => assumption); (case q184 => assumption); (case q185 => assumption); (case q186 => simp only [ List.length_cons , List.length_nil ]; omega); (case q187 => refine' pf_tl ?q189 ?q190; (case q189 => decide +kernel); (case q190 => refine' pf_tl ?q191 ?q192; (case q191 => decide +kernel); (case q192 => exact pf_nil))); intro _ _ _; (with_reducible refine s_sfld ?_); (with_reducible refine' s_var ?q193 ?q194); (case q193 => exact rfl); (with_reducible refine' s_var ?q195 ?q196); (case q195 => exact rfl); (with_reducible refine' s_rsfl ?q197 ?q198 ?q199 ?q200 ?q201 ?q202); (case q197 => assumption); (case q198 => assumption); (case q199 => assumption); (case q200 => simp only [ List.length_cons , List.length_nil ]; omega); (case q201 => refine' pf_tl ?q203 ?q204; (case q203 => decide +kernel); (case q204 => refine' pf_tl ?q205 ?q206; (case q205 => decide +kernel); (case q206 => refine' pf_tl ?q207 ?q208; (case q207 => decide +kernel); (case q208 => exact pf_nil)))); intro _ _ _)
  exact k1 z y lo hi rfl hb rfl hbp rfl rfl (by omega) lo1 (by omega) hi1 _ (by (refine' Ext.step ?q209 ?q210 ?q211; (case q210 => assumption); (case q209 => refine' Ext.step ?q212 ?q213 ?q214; (case q213 => assumption); (case q212 => refine' Ext.step ?q215 ?q216 ?q217; (case q216 => assumption); (case q215 => assumption); (case q217 => refine tch_one ?q218; refine Or.inr ?_; rfl)); (case q214 => refine tch_one ?q219; refine Or.inr ?_; rfl)); (case q211 => refine tch_one ?q220; refine Or.inr ?_; rfl))) (by (assumption))
abbrev nm_Read_init : List Str := ["self", "name", "place", "reading"]
theorem sc_Read_init : FnScope nm_Read_init ["self", "name", "place", "reading"] (defScope s_Read_init) := ⟨rfl, rfl, rfl, by decide +kernel, rfl, by decide +kernel, by decide +kernel⟩
theorem st_Read_init (a b c d : V) : start nm_Read_init [a, b, c, d] = [some a, some b, some c, some d] := rfl
def p_Read_init (K : PySem.W.Frag) (N M : Addr) (w : Wd) (a b p c : V) (Q : VK) (E : XK) : Prop := ∃ x C dx dn dp dl, a = .ref x ∧ Own w x (.ins C dx []) ∧ Ecl K C ∧ Rp w.S b dn ∧ TxD dn ∧ Rp w.S p dp ∧ TxD dp ∧ Rp w.S c dl ∧
  (∀ z y lo, dn = .str z → nameB dn = true → dp = .str y → nameB dp = true → dl = .int lo → -10000000000 ≤ lo → lo ≤ 10000000000 → ∀ v, Ext (One x) w v → Own v x (.ins C dx [("name", .str z), ("place", .str y), ("low", .int lo), ("high", .int lo)]) → Q .non v.H) ∧
  (nameB dn = false → Rz (One x) w N b E) ∧ (nameB dn = true → nameB dp = false → Rz (One x) w N p E) ∧ (nameB dn = true → nameB dp = true → wholeB dl (0 - 10000000000) 10000000000 = false → Rz (One x) w M c E)
theorem ok_Read_init {f : Addr} {fd : FuncData} {C_Entry C_Within C_At C_Between C_Table C_Read C_Log C_LogError C_NoEntry C_NoMoment C_NoName C_NoPlace C_NoReading : Addr} (F : Fun K "__init__" "Read.__init__" s_Read_init f fd) (T : Txt K mg C_Entry C_Within C_At C_Between C_Table C_Read C_Log C_LogError C_NoEntry C_NoMoment C_NoName C_NoPlace C_NoReading)  (b_Between_init : Bin P ww K mg base (L2.CX P ww) C_Between 4 (pr5 (p_Between_init K C_NoName C_NoReading))) : FnOk P ww K mg base (L2.CX P ww) 5 f fd ["self", "name", "place", "reading"] (pr4 (p_Read_init K C_NoName C_NoReading)) := by
  refine F.okX sc_Read_init (fun vs H Q E h => len4 h) (fun cdv A outer s H vs Q E hr h => ?_)
  obtain ⟨w, x0, x1, x2, x3,  rfl, rfl, h⟩ := h
  have ekT := ek_T T
  have cl_Table := T.cl_Table
  have na_Table_kept_rows := T.na_Table_kept_rows
  have cl_Log := T.cl_Log
  have na_Log_bound := T.na_Log_bound
  have na_Log_clocks := T.na_Log_clocks
  have na_Log_line := T.na_Log_line
  have na_Log_name := T.na_Log_name
  have oex_NoEntry := T.oex_NoEntry; have xf_NoEntry := T.xf_NoEntry; have ec_NoEntry := T.ec_NoEntry; have xn_NoEntry := T.xn_NoEntry
  have oex_NoMoment := T.oex_NoMoment; have xf_NoMoment := T.xf_NoMoment; have ec_NoMoment := T.ec_NoMoment; have xn_NoMoment := T.xn_NoMoment
  have oex_NoName := T.oex_NoName; have xf_NoName := T.xf_NoName; have ec_NoName := T.ec_NoName; have xn_NoName := T.xn_NoName
  have oex_NoPlace := T.oex_NoPlace; have xf_NoPlace := T.xf_NoPlace; have ec_NoPlace := T.ec_NoPlace; have xn_NoPlace := T.xn_NoPlace
  have oex_NoReading := T.oex_NoReading; have xf_NoReading := T.xf_NoReading; have ec_NoReading := T.ec_NoReading; have xn_NoReading := T.xn_NoReading
  have rel_NoEntry_NoEntry := T.rel_NoEntry_NoEntry
  have exm_NoEntry_NoEntry := T.exm_NoEntry_NoEntry
  refine ⟨_, (pss_one (ps_expr (pe_bin (takes_of rfl rfl rfl rfl) b_Between_init hr (by decide) (pe_glob (v := .ref C_Between) (u := .ref C_Between) rfl T.g_Between rfl) (pa_cons (pv 0) (pa_cons (pv 1) (pa_cons (pv 2) (pa_cons (pv 3) (pa_cons (pv 3) pa_nil)))))))), ?_⟩
  rw [st_Read_init]
  obtain ⟨x, C, dx, dn, dp, dl, rfl, o, ec, hn, tx, hp, tp, hl, k1, k2, k5, k3⟩ := h
  ((with_reducible refine s_drop ?_); (with_reducible refine s_callX ?_); (with_reducible refine s_cons ?_); (with_reducible refine' s_var ?q221 ?q222); (case q221 => exact rfl); (with_reducible refine s_cons ?_); (with_reducible refine' s_var ?q223 ?q224); (case q223 => exact rfl); (with_reducible refine s_cons ?_); (with_reducible refine' s_var ?q225 ?q226); (case q225 => exact rfl); (with_reducible refine s_cons ?_); (with_reducible refine' s_var ?q227 ?q228); (case q227 => exact rfl); (with_reducible refine s_cons ?_); (with_reducible refine' s_var ?q229 ?q230); (case q229 => exact rfl); (with_reducible refine s_nil ?_); (with_reducible refine s_pr5 ?_))
  refine ⟨x, C, dx, dn, dp, dl, dl, rfl, o, ec, hn, tx, hp, tp, hl, hl, fun z y lo hi hz hb hy hbp h1 h2 a1 a2 a3 a4 v ev ov => ?_, k2, k5, k3, fun a a2 b c => absurd b (by rw [c]; decide)⟩
  subst h1
  cases h2
  skip
  exact k1 z y lo hz hb hy hbp rfl a1 a2 _ (by (assumption)) (by (assumption))
theorem nameB_ok {z : Str} (h : NmOk z) : nameB (.str z) = true := by
  obtain ⟨h1, h2, h3⟩ := h
  have hl := len_tl z
  have hp := List.length_pos_iff.mpr h2
  simp only [nameB, Bool.and_eq_true, decide_eq_true_eq]
  refine ⟨by omega, by omega, List.all_eq_true.mpr fun c hc => decide_eq_true ?_⟩
  have := h3 c hc
  show c ∈ tl (Str.ofString "abcdefghijklmnopqrstuvwxyz")
  rw [letters_tl]
  exact List.mem_map.mpr ⟨c - 97, List.mem_range.mpr (by omega), by omega⟩
theorem txd_ok {z : Str} (h : NmOk z) : TxD (.str z) := fun y e => by
  cases e
  exact h.tx.mono (by decide)
theorem fld_spans (e : Sim) : (fldS e).lookup ("spans" : Str) = none ∧ (fldS e).lookup ("word" : Str) = none ∧ (fldS e).lookup ("places" : Str) = none := by
  obtain ⟨k, n, p, lo, hi⟩ := e
  cases k <;> exact ⟨by wtm_at "lkp", by wtm_at "lkp", by wtm_at "lkp"⟩
abbrev nm_Entry_places : List Str := ["self"]
theorem sc_Entry_places : FnScope nm_Entry_places ["self"] (defScope s_Entry_places) := ⟨rfl, rfl, rfl, by decide +kernel, rfl, by decide +kernel, by decide +kernel⟩
theorem st_Entry_places (a : V) : start nm_Entry_places [a] = [some a] := rfl
def p_Entry_places (w : Wd) (a : V) (Q : VK) (_ : XK) : Prop := ∀ v r, Ext Non w v → w.H r = none → Own v r (.lst []) → Q (.ref r) v.H
theorem ok_Entry_places {f : Addr} {fd : FuncData} {C_Entry C_Within C_At C_Between C_Table C_Read C_Log C_LogError C_NoEntry C_NoMoment C_NoName C_NoPlace C_NoReading : Addr} (F : Fun K "places" "Entry.places" s_Entry_places f fd) (T : Txt K mg C_Entry C_Within C_At C_Between C_Table C_Read C_Log C_LogError C_NoEntry C_NoMoment C_NoName C_NoPlace C_NoReading)  : FnOk P ww K mg base (L2.CX P ww) 1 f fd ["self"] (pr1 (p_Entry_places)) := by
  refine F.okX sc_Entry_places (fun vs H Q E h => len1 h) (fun cdv A outer s H vs Q E hr h => ?_)
  obtain ⟨w, x0,  rfl, rfl, h⟩ := h
  have ekT := ek_T T
  have cl_Table := T.cl_Table
  have na_Table_kept_rows := T.na_Table_kept_rows
  have cl_Log := T.cl_Log
  have na_Log_bound := T.na_Log_bound
  have na_Log_clocks := T.na_Log_clocks
  have na_Log_line := T.na_Log_line
  have na_Log_name := T.na_Log_name
  have oex_NoEntry := T.oex_NoEntry; have xf_NoEntry := T.xf_NoEntry; have ec_NoEntry := T.ec_NoEntry; have xn_NoEntry := T.xn_NoEntry
  have oex_NoMoment := T.oex_NoMoment; have xf_NoMoment := T.xf_NoMoment; have ec_NoMoment := T.ec_NoMoment; have xn_NoMoment := T.xn_NoMoment
  have oex_NoName := T.oex_NoName; have xf_NoName := T.xf_NoName; have ec_NoName := T.ec_NoName; have xn_NoName := T.xn_NoName
  have oex_NoPlace := T.oex_NoPlace; have xf_NoPlace := T.xf_NoPlace; have ec_NoPlace := T.ec_NoPlace; have xn_NoPlace := T.xn_NoPlace
  have oex_NoReading := T.oex_NoReading; have xf_NoReading := T.xf_NoReading; have ec_NoReading := T.ec_NoReading; have xn_NoReading := T.xn_NoReading
  have rel_NoEntry_NoEntry := T.rel_NoEntry_NoEntry
  have exm_NoEntry_NoEntry := T.exm_NoEntry_NoEntry
  refine ⟨_, (pss_one (ps_ret (pe_lst pa_nil))), ?_⟩
  rw [st_Entry_places]
  ((with_reducible refine s_ret ?_); (with_reducible refine t_lst ?_); (with_reducible refine s_nil ?_); (with_reducible refine' t_newL ?q0 ?q1); (case q0 => simp only [ List.length , sizeLine_eq ]; omega); intro _ _ _ _ _)
  exact h _ _ (by assumption) (by assumption) (by assumption)
abbrev nm_Between_places : List Str := ["self"]
theorem sc_Between_places : FnScope nm_Between_places ["self"] (defScope s_Between_places) := ⟨rfl, rfl, rfl, by decide +kernel, rfl, by decide +kernel, by decide +kernel⟩
theorem st_Between_places (a : V) : start nm_Between_places [a] = [some a] := rfl
def p_Between_places (K : PySem.W.Frag) (w : Wd) (a : V) (Q : VK) (_ : XK) : Prop := ∃ x C dx, ∃ fs : List (Str × V), ∃ z : Str, a = .ref x ∧ w.S x = some (.ins C dx fs) ∧ Ecl K C ∧ fs.lookup ("place" : Str) = some (.str z) ∧ ∀ v r, Ext Non w v → w.H r = none → Own v r (.lst [.str z]) → Q (.ref r) v.H
theorem ok_Between_places {f : Addr} {fd : FuncData} {C_Entry C_Within C_At C_Between C_Table C_Read C_Log C_LogError C_NoEntry C_NoMoment C_NoName C_NoPlace C_NoReading : Addr} (F : Fun K "places" "Between.places" s_Between_places f fd) (T : Txt K mg C_Entry C_Within C_At C_Between C_Table C_Read C_Log C_LogError C_NoEntry C_NoMoment C_NoName C_NoPlace C_NoReading)  : FnOk P ww K mg base (L2.CX P ww) 1 f fd ["self"] (pr1 (p_Between_places K)) := by
  refine F.okX sc_Between_places (fun vs H Q E h => len1 h) (fun cdv A outer s H vs Q E hr h => ?_)
  obtain ⟨w, x0,  rfl, rfl, h⟩ := h
  have ekT := ek_T T
  have cl_Table := T.cl_Table
  have na_Table_kept_rows := T.na_Table_kept_rows
  have cl_Log := T.cl_Log
  have na_Log_bound := T.na_Log_bound
  have na_Log_clocks := T.na_Log_clocks
  have na_Log_line := T.na_Log_line
  have na_Log_name := T.na_Log_name
  have oex_NoEntry := T.oex_NoEntry; have xf_NoEntry := T.xf_NoEntry; have ec_NoEntry := T.ec_NoEntry; have xn_NoEntry := T.xn_NoEntry
  have oex_NoMoment := T.oex_NoMoment; have xf_NoMoment := T.xf_NoMoment; have ec_NoMoment := T.ec_NoMoment; have xn_NoMoment := T.xn_NoMoment
  have oex_NoName := T.oex_NoName; have xf_NoName := T.xf_NoName; have ec_NoName := T.ec_NoName; have xn_NoName := T.xn_NoName
  have oex_NoPlace := T.oex_NoPlace; have xf_NoPlace := T.xf_NoPlace; have ec_NoPlace := T.ec_NoPlace; have xn_NoPlace := T.xn_NoPlace
  have oex_NoReading := T.oex_NoReading; have xf_NoReading := T.xf_NoReading; have ec_NoReading := T.ec_NoReading; have xn_NoReading := T.xn_NoReading
  have rel_NoEntry_NoEntry := T.rel_NoEntry_NoEntry
  have exm_NoEntry_NoEntry := T.exm_NoEntry_NoEntry
  refine ⟨_, (pss_one (ps_ret (pe_lst (pa_cons (pe_fld (pv 0) rfl) pa_nil)))), ?_⟩
  rw [st_Between_places]
  obtain ⟨x, C, dx, fs, z, rfl, sx, ec, lk, k⟩ := h
  have cl := ec.cl; have np := ec.place
  ((with_reducible refine s_ret ?_); (with_reducible refine t_lst ?_); (with_reducible refine s_cons ?_); (with_reducible refine s_fld ?_); (with_reducible refine' s_var ?q2 ?q3); (case q2 => exact rfl))
  refine s_rfld (w.ok _ _ sx) cl np lk ?_
  ((with_reducible refine s_nil ?_); (with_reducible refine' t_newL ?q10 ?q11); (case q10 => simp only [ List.length , sizeLine_eq ]; omega); intro _ _ _ _ _)
  exact k _ _ (by assumption) (by assumption) (by assumption)
abbrev nm_Entry_spans : List Str := ["self", "tables"]
theorem sc_Entry_spans : FnScope nm_Entry_spans ["self", "tables"] (defScope s_Entry_spans) := ⟨rfl, rfl, rfl, by decide +kernel, rfl, by decide +kernel, by decide +kernel⟩
theorem st_Entry_spans (a b : V) : start nm_Entry_spans [a, b] = [some a, some b] := rfl
def p_Entry_spans (w : Wd) (a b : V) (Q : VK) (_ : XK) : Prop := Tells w Q fun out => out = [(0, 1000000000)]
theorem ok_Entry_spans {f : Addr} {fd : FuncData} {C_Entry C_Within C_At C_Between C_Table C_Read C_Log C_LogError C_NoEntry C_NoMoment C_NoName C_NoPlace C_NoReading : Addr} (F : Fun K "spans" "Entry.spans" s_Entry_spans f fd) (T : Txt K mg C_Entry C_Within C_At C_Between C_Table C_Read C_Log C_LogError C_NoEntry C_NoMoment C_NoName C_NoPlace C_NoReading)  : FnOk P ww K mg base (L2.CX P ww) 1 f fd ["self", "tables"] (pr2 (p_Entry_spans)) := by
  refine F.okX sc_Entry_spans (fun vs H Q E h => len2 h) (fun cdv A outer s H vs Q E hr h => ?_)
  obtain ⟨w, x0, x1,  rfl, rfl, h⟩ := h
  have ekT := ek_T T
  have cl_Table := T.cl_Table
  have na_Table_kept_rows := T.na_Table_kept_rows
  have cl_Log := T.cl_Log
  have na_Log_bound := T.na_Log_bound
  have na_Log_clocks := T.na_Log_clocks
  have na_Log_line := T.na_Log_line
  have na_Log_name := T.na_Log_name
  have oex_NoEntry := T.oex_NoEntry; have xf_NoEntry := T.xf_NoEntry; have ec_NoEntry := T.ec_NoEntry; have xn_NoEntry := T.xn_NoEntry
  have oex_NoMoment := T.oex_NoMoment; have xf_NoMoment := T.xf_NoMoment; have ec_NoMoment := T.ec_NoMoment; have xn_NoMoment := T.xn_NoMoment
  have oex_NoName := T.oex_NoName; have xf_NoName := T.xf_NoName; have ec_NoName := T.ec_NoName; have xn_NoName := T.xn_NoName
  have oex_NoPlace := T.oex_NoPlace; have xf_NoPlace := T.xf_NoPlace; have ec_NoPlace := T.ec_NoPlace; have xn_NoPlace := T.xn_NoPlace
  have oex_NoReading := T.oex_NoReading; have xf_NoReading := T.xf_NoReading; have ec_NoReading := T.ec_NoReading; have xn_NoReading := T.xn_NoReading
  have rel_NoEntry_NoEntry := T.rel_NoEntry_NoEntry
  have exm_NoEntry_NoEntry := T.exm_NoEntry_NoEntry
  refine ⟨_, (pss_one (ps_ret (pe_lst (pa_cons (pe_tup (pa_cons pe_int (pa_cons (pe_gco rfl T.c_LAST) pa_nil))) pa_nil)))), ?_⟩
  rw [st_Entry_spans]
  ((with_reducible refine s_ret ?_); (with_reducible refine t_lst ?_); (with_reducible refine s_cons ?_); (with_reducible refine t_tup ?_); (with_reducible refine s_cons ?_); (with_reducible refine s_c ?_); (with_reducible refine s_cons ?_); (with_reducible refine s_c ?_); (with_reducible refine s_nil ?_); (with_reducible refine' t_newT ?q12 ?q13); (case q12 => simp only [ List.length , sizeLine_eq ]; omega); intro _ _ _ _ _; (with_reducible refine s_nil ?_); (with_reducible refine' t_newL ?q14 ?q15); (case q14 => simp only [ List.length , sizeLine_eq ]; omega); intro _ _ _ _ _)
  rename_i p v e n s p2 v2 e2 n2 o2
  exact h _ _ _ [(0, 1000000000)] (e.trans e2) (e.back n2) o2 (.cons (.tup (by (refine' st_go ( by assumption ) ?q16; (case q16 => assumption))) (.cons (.int _) (.cons (.int _) .nil))) .nil) rfl
abbrev nm_Within_spans : List Str := ["self", "tables"]
theorem sc_Within_spans : FnScope nm_Within_spans ["self", "tables"] (defScope s_Within_spans) := ⟨rfl, rfl, rfl, by decide +kernel, rfl, by decide +kernel, by decide +kernel⟩
theorem st_Within_spans (a b : V) : start nm_Within_spans [a, b] = [some a, some b] := rfl
def p_Within_spans (K : PySem.W.Frag) (w : Wd) (a b : V) (Q : VK) (_ : XK) : Prop := ∃ x C dx, ∃ fs : List (Str × V), ∃ lo hi : Int, a = .ref x ∧ w.S x = some (.ins C dx fs) ∧ Ecl K C ∧ fs.lookup ("low" : Str) = some (.int lo) ∧ fs.lookup ("high" : Str) = some (.int hi) ∧ Tells w Q fun out => Sp none out ∧ out.length ≤ 21 ∧ ∀ n, ins out n ↔ lo ≤ n ∧ n ≤ hi
theorem ok_Within_spans {f : Addr} {fd : FuncData} {C_Entry C_Within C_At C_Between C_Table C_Read C_Log C_LogError C_NoEntry C_NoMoment C_NoName C_NoPlace C_NoReading : Addr} (F : Fun K "spans" "Within.spans" s_Within_spans f fd) (T : Txt K mg C_Entry C_Within C_At C_Between C_Table C_Read C_Log C_LogError C_NoEntry C_NoMoment C_NoName C_NoPlace C_NoReading) (c_spans_of : Fnc P ww K mg base CX0 2 "spans_of" (pr1 (p_spans_of))) : FnOk P ww K mg base (L2.CX P ww) 3 f fd ["self", "tables"] (pr2 (p_Within_spans K)) := by
  refine F.okX sc_Within_spans (fun vs H Q E h => len2 h) (fun cdv A outer s H vs Q E hr h => ?_)
  obtain ⟨w, x0, x1,  rfl, rfl, h⟩ := h
  have ekT := ek_T T
  have cl_Table := T.cl_Table
  have na_Table_kept_rows := T.na_Table_kept_rows
  have cl_Log := T.cl_Log
  have na_Log_bound := T.na_Log_bound
  have na_Log_clocks := T.na_Log_clocks
  have na_Log_line := T.na_Log_line
  have na_Log_name := T.na_Log_name
  have oex_NoEntry := T.oex_NoEntry; have xf_NoEntry := T.xf_NoEntry; have ec_NoEntry := T.ec_NoEntry; have xn_NoEntry := T.xn_NoEntry
  have oex_NoMoment := T.oex_NoMoment; have xf_NoMoment := T.xf_NoMoment; have ec_NoMoment := T.ec_NoMoment; have xn_NoMoment := T.xn_NoMoment
  have oex_NoName := T.oex_NoName; have xf_NoName := T.xf_NoName; have ec_NoName := T.ec_NoName; have xn_NoName := T.xn_NoName
  have oex_NoPlace := T.oex_NoPlace; have xf_NoPlace := T.xf_NoPlace; have ec_NoPlace := T.ec_NoPlace; have xn_NoPlace := T.xn_NoPlace
  have oex_NoReading := T.oex_NoReading; have xf_NoReading := T.xf_NoReading; have ec_NoReading := T.ec_NoReading; have xn_NoReading := T.xn_NoReading
  have rel_NoEntry_NoEntry := T.rel_NoEntry_NoEntry
  have exm_NoEntry_NoEntry := T.exm_NoEntry_NoEntry
  refine ⟨_, (pss_one (ps_ret (pe_fn c_spans_of hr (by decide) pass0 (pa_cons (pe_lst (pa_cons (pe_tup (pa_cons (pe_fld (pv 0) rfl) (pa_cons (pe_fld (pv 0) rfl) pa_nil))) pa_nil)) pa_nil)))), ?_⟩
  rw [st_Within_spans]
  obtain ⟨x, C, dx, fs, lo, hi, rfl, sx, ec, l1, l2, k⟩ := h
  have cl := ec.cl; have nl := ec.low; have nh := ec.high
  ((with_reducible refine s_ret ?_); (with_reducible refine s_call ?_); (with_reducible refine s_cons ?_); (with_reducible refine t_lst ?_); (with_reducible refine s_cons ?_); (with_reducible refine t_tup ?_); (with_reducible refine s_cons ?_); (with_reducible refine s_fld ?_); (with_reducible refine' s_var ?q17 ?q18); (case q17 => exact rfl))
  refine s_rfld (w.ok _ _ sx) cl nl l1 ?_
  ((with_reducible refine s_cons ?_); (with_reducible refine s_fld ?_); (with_reducible refine' s_var ?q25 ?q26); (case q25 => exact rfl))
  refine s_rfld (w.ok _ _ sx) cl nh l2 ?_
  ((with_reducible refine s_nil ?_); (with_reducible refine' t_newT ?q33 ?q34); (case q33 => simp only [ List.length , sizeLine_eq ]; omega); intro _ _ _ _ _; (with_reducible refine s_nil ?_); (with_reducible refine' t_newLS ?q35 ?q36); (case q35 => simp only [ List.length , sizeLine_eq ]; omega); intro _ _ _ _ _; (with_reducible refine s_nil ?_); (with_reducible refine s_pr1 ?_))
  rename_i p v e n s p2 v2 e2 n2 s2
  have ew : Ext Non w v2 := e.trans e2
  refine ⟨[(lo, hi)], ⟨p2, _, rfl, .inl s2, .cons (.tup (st_go e2 s) (.cons (.int _) (.cons (.int _) .nil))) .nil⟩, by simp, fun v3 r vs out e3 n3 o3 r3 ⟨hs, hl, hm⟩ => ?_⟩
  exact k v3 r vs out (ew.trans e3) (ew.back n3) o3 r3 ⟨hs, Nat.le_trans hl (by simp), fun n => (hm n).trans ins_lohi⟩
abbrev nm_Between_spans : List Str := ["self", "tables"]
theorem sc_Between_spans : FnScope nm_Between_spans ["self", "tables"] (defScope s_Between_spans) := ⟨rfl, rfl, rfl, by decide +kernel, rfl, by decide +kernel, by decide +kernel⟩
theorem st_Between_spans (a b : V) : start nm_Between_spans [a, b] = [some a, some b] := rfl
def p_Between_spans (K : PySem.W.Frag) (C N : Addr) (w : Wd) (a b : V) (Q : VK) (E : XK) : Prop := ∃ x Ce dx, ∃ fs : List (Str × V), ∃ (z : Str) (lo hi : Int) (T : Tabs), a = .ref x ∧ w.S x = some (.ins Ce dx fs) ∧ Ecl K Ce ∧ fs.lookup ("place" : Str) = some (.str z) ∧ fs.lookup ("low" : Str) = some (.int lo) ∧ fs.lookup ("high" : Str) = some (.int hi) ∧
  -10000000000 ≤ lo ∧ lo ≤ 10000000000 ∧ -10000000000 ≤ hi ∧ hi ≤ 10000000000 ∧ TabsD C w b T ∧ (∀ R, getT T z = some R → Tells w Q fun out => Sp none out ∧ out.length ≤ 21 ∧ ∀ n, ins out n ↔ ins ((strsR R lo hi R.length).filter ne2) n) ∧ (getT T z = none → Rz Non w N (.str z) E)
theorem ok_Between_spans {f : Addr} {fd : FuncData} {C_Entry C_Within C_At C_Between C_Table C_Read C_Log C_LogError C_NoEntry C_NoMoment C_NoName C_NoPlace C_NoReading : Addr} (F : Fun K "spans" "Between.spans" s_Between_spans f fd) (T : Txt K mg C_Entry C_Within C_At C_Between C_Table C_Read C_Log C_LogError C_NoEntry C_NoMoment C_NoName C_NoPlace C_NoReading) (c_NoPlace_init : Mxr P ww K mg base C_NoPlace 1 (pr2 (p_NoPlace_init C_NoPlace))) (c_Table_moments_between : Mth P ww K mg base (L2.CX P ww) C_Table 3 "moments_between" (pr3 (p_Table_moments_between C_Table C_NoReading))) : FnOk P ww K mg base (L2.CX P ww) 4 f fd ["self", "tables"] (pr2 (p_Between_spans K C_Table C_NoPlace)) := by
  refine F.okX sc_Between_spans (fun vs H Q E h => len2 h) (fun cdv A outer s H vs Q E hr h => ?_)
  obtain ⟨w, x0, x1,  rfl, rfl, h⟩ := h
  have ekT := ek_T T
  have cl_Table := T.cl_Table
  have na_Table_kept_rows := T.na_Table_kept_rows
  have cl_Log := T.cl_Log
  have na_Log_bound := T.na_Log_bound
  have na_Log_clocks := T.na_Log_clocks
  have na_Log_line := T.na_Log_line
  have na_Log_name := T.na_Log_name
  have oex_NoEntry := T.oex_NoEntry; have xf_NoEntry := T.xf_NoEntry; have ec_NoEntry := T.ec_NoEntry; have xn_NoEntry := T.xn_NoEntry
  have oex_NoMoment := T.oex_NoMoment; have xf_NoMoment := T.xf_NoMoment; have ec_NoMoment := T.ec_NoMoment; have xn_NoMoment := T.xn_NoMoment
  have oex_NoName := T.oex_NoName; have xf_NoName := T.xf_NoName; have ec_NoName := T.ec_NoName; have xn_NoName := T.xn_NoName
  have oex_NoPlace := T.oex_NoPlace; have xf_NoPlace := T.xf_NoPlace; have ec_NoPlace := T.ec_NoPlace; have xn_NoPlace := T.xn_NoPlace
  have oex_NoReading := T.oex_NoReading; have xf_NoReading := T.xf_NoReading; have ec_NoReading := T.ec_NoReading; have xn_NoReading := T.xn_NoReading
  have rel_NoEntry_NoEntry := T.rel_NoEntry_NoEntry
  have exm_NoEntry_NoEntry := T.exm_NoEntry_NoEntry
  refine ⟨_, (pss_cons (ps_if (pt_cmp (pc_dnotin (hu_of hr) (pe_fld (pv 0) rfl) (pv 1)) (by rfl)) (pss_one (ps_raiseX rfl (takes_of rfl rfl rfl rfl) c_NoPlace_init hr (by decide) T.g_NoPlace (pa_cons (pe_fld (pv 0) rfl) pa_nil))) pss_nil)
      (pss_one (ps_ret (pe_mthX (takes_of rfl rfl rfl rfl) c_Table_moments_between T.cl_Table hr (by decide) (pe_dget (hu_of hr) (pv 1) (pe_fld (pv 0) rfl) (fun _ _ => rfl)) (pa_cons (pe_fld (pv 0) rfl) (pa_cons (pe_fld (pv 0) rfl) pa_nil)))))), ?_⟩
  rw [st_Between_spans]
  obtain ⟨x, Ce, dx, fs, z, lo, hi, T, rfl, sx, ec, l1, l2, l3, b1, b2, b3, b4, ⟨t, kvs, rfl, rt, ta⟩, k1, k2⟩ := h
  have cl := ec.cl; have np := ec.place; have nl := ec.low; have nh := ec.high
  have hx := w.ok _ _ sx
  ((with_reducible refine s_seq ?_); (with_reducible refine s_ifS ?_); (with_reducible refine s_B ?_))
  unfold tDNotIn
  ((with_reducible refine s_fld ?_); (with_reducible refine' s_var ?q40 ?q41); (case q40 => exact rfl))
  refine s_rfld hx cl np l1 ?_
  ((with_reducible refine' s_var ?q48 ?q49); (case q48 => exact rfl))
  refine ⟨t, _, rfl, dgetR (.inl rt.h) (.inr z), ?_⟩
  cases hg : getT T z with
  | none =>
    rw [DicR.miss ta hg, show (!(none : Option V).isSome) = true from rfl]
    ((with_reducible refine s_bl ?_); (with_reducible refine ite_tt ?_))
    refine s_raiseX rfl ?_
    ((with_reducible refine s_cons ?_); (with_reducible refine s_fld ?_); (with_reducible refine' s_var ?q59 ?q60); (case q59 => exact rfl))
    refine s_rfld hx cl np l1 ?_
    ((with_reducible refine s_nil ?_))
    exact s_raised (W := fun cls d _ H => E cls d H) (σ := []) fun e v ev n o => k2 hg v e ev n o
  | some R =>
    obtain ⟨y, hy, hT, hok⟩ := DicR.hit ta hg
    rw [hy]
    obtain ⟨xt, dt, yt, rfl, st, ht⟩ := id hT
    rw [show (!(some (V.ref xt)).isSome) = false from rfl]
    ((with_reducible refine s_bl ?_); (with_reducible refine ite_ff ?_); (with_reducible refine s_next ?_); (with_reducible refine s_ret ?_); (with_reducible refine s_methX ?_); (with_reducible refine s_dget ?_); (with_reducible refine' s_var ?q70 ?q71); (case q70 => exact rfl); (with_reducible refine s_fld ?_); (with_reducible refine' s_var ?q72 ?q73); (case q72 => exact rfl))
    refine s_rfld hx cl np l1 ?_
    have hdg : DGet w.H t (.str z) (some (V.ref xt)) := by
      have := dgetR (.inl rt.h) (.inr z)
      rw [hy] at this
      exact this
    refine ⟨t, _, rfl, hdg, ?_⟩
    refine s_rmeth (w.ok _ _ st) (by (refine' lk_tl ?q80 ?q81; (case q80 => decide +kernel); (case q81 => exact lk_nil))) ?_
    ((with_reducible refine s_cons ?_); (with_reducible refine s_fld ?_); (with_reducible refine' s_var ?q82 ?q83); (case q82 => exact rfl))
    refine s_rfld hx cl nl l2 ?_
    ((with_reducible refine s_cons ?_); (with_reducible refine s_fld ?_); (with_reducible refine' s_var ?q90 ?q91); (case q90 => exact rfl))
    refine s_rfld hx cl nh l3 ?_
    ((with_reducible refine s_nil ?_); (with_reducible refine s_pm3 ?_))
    refine ⟨R, .int lo, .int hi, hT, hok, .int _, .int _, fun lo' hi' h1 h2 _ _ _ _ => ?_, fun h1 => absurd h1 ?_, fun _ h1 => absurd h1 ?_⟩
    · cases h1
      cases h2
      exact k1 R hg
    · rw [show wholeB (.int lo) (0 - 10000000000) 10000000000 = true from by unfold wholeB; simp; omega]
      decide
    · rw [show wholeB (.int hi) (0 - 10000000000) 10000000000 = true from by unfold wholeB; simp; omega]
      decide
def plV (e : Sim) : List V := if placed e.k then [.str e.p] else []
def pE_places (K : PySem.W.Frag) (ec : EC) (k : Kd) (w : Wd) (a : V) (Q : VK) (_ : XK) : Prop := ∃ e, e.k = k ∧ SimS K ec w.S a e ∧ ∀ v r, Ext Non w v → w.H r = none → Own v r (.lst (plV e)) → Q (.ref r) v.H
def pE_spans (K : PySem.W.Frag) (ec : EC) (C N : Addr) (k : Kd) (w : Wd) (a b : V) (Q : VK) (E : XK) : Prop := ∃ e T, e.k = k ∧ SimS K ec w.S a e ∧ e.ok ∧ (placed e.k → TabsD C w b T) ∧
  ((placed e.k → ∃ R, getT T e.p = some R) → Tells w Q fun out => Sp none out ∧ out.length ≤ 21 ∧ ∀ n, ins out n ↔ inE e T n) ∧ (placed e.k → getT T e.p = none → Rz Non w N (.str e.p) E)
section
variable {ec : EC} {C N : Addr} {w : Wd} {a b : V} {Q : VK} {E : XK}
theorem pl_no {e : Sim} (h : ¬ placed e.k) : plV e = [] := if_neg h
theorem pl_yes {e : Sim} (h : placed e.k) : plV e = [.str e.p] := if_pos h
theorem wk_places_any (h : pE_places K ec .any w a Q E) : p_Entry_places w a Q E := by obtain ⟨e, he, _, k⟩ := h; rw [pl_no (by rw [he]; exact id)] at k; exact k
theorem wk_places_within (h : pE_places K ec .within w a Q E) : p_Entry_places w a Q E := by obtain ⟨e, he, _, k⟩ := h; rw [pl_no (by rw [he]; exact id)] at k; exact k
theorem wk_places_att (h : pE_places K ec .att w a Q E) : p_Entry_places w a Q E := by obtain ⟨e, he, _, k⟩ := h; rw [pl_no (by rw [he]; exact id)] at k; exact k
theorem fld_place {e : Sim} (h : placed e.k) : (fldS e).lookup ("place" : Str) = some (.str e.p) ∧ (fldS e).lookup ("low" : Str) = some (.int e.lo) ∧ (fldS e).lookup ("high" : Str) = some (.int e.hi) := by
  obtain ⟨k, n, p, lo, hi⟩ := e
  cases k <;> first | exact h.elim | exact ⟨by wtm_at "lkp", by wtm_at "lkp", by wtm_at "lkp"⟩
theorem wk_places_between (h : pE_places K ec .between w a Q E) : p_Between_places K w a Q E := by
  obtain ⟨e, he, ⟨ek, x, dx, rfl, sx⟩, k⟩ := h
  have hp : placed e.k := by rw [he]; trivial
  rw [pl_yes hp] at k
  exact ⟨x, _, dx, _, _, rfl, sx, ek.cl _ (by rw [he]; trivial), (fld_place hp).1, k⟩
theorem wk_places_read (h : pE_places K ec .read w a Q E) : p_Between_places K w a Q E := by
  obtain ⟨e, he, ⟨ek, x, dx, rfl, sx⟩, k⟩ := h
  have hp : placed e.k := by rw [he]; trivial
  rw [pl_yes hp] at k
  exact ⟨x, _, dx, _, _, rfl, sx, ek.cl _ (by rw [he]; trivial), (fld_place hp).1, k⟩
theorem wk_spans_any (h : pE_spans K ec C N .any w a b Q E) : p_Entry_spans w a b Q E := by
  obtain ⟨e, T, he, _, _, _, k, _⟩ := h
  intro v r vs out e1 n1 o1 r1 ho
  subst ho
  refine k (fun z => by rw [he] at z; exact z.elim) v r vs _ e1 n1 o1 r1 ⟨⟨by decide, (fun x hx => by cases hx), trivial⟩, by decide, fun n => ?_⟩
  unfold inE ins
  rw [he]
  simp
theorem wk_spans_lohi {k : Kd} (hk : k = .within ∨ k = .att) (h : pE_spans K ec C N k w a b Q E) : p_Within_spans K w a b Q E := by
  obtain ⟨e, T, he, ⟨ek, x, dx, rfl, sx⟩, _, _, k1, _⟩ := h
  have hk' : e.k = .within ∨ e.k = .att := he ▸ hk
  have hl : (fldS e).lookup ("low" : Str) = some (.int e.lo) ∧ (fldS e).lookup ("high" : Str) = some (.int e.hi) := by
    obtain ⟨k, n, p, lo, hi⟩ := e
    rcases hk' with rfl | rfl <;> exact ⟨by wtm_at "lkp", by wtm_at "lkp"⟩
  refine ⟨x, _, dx, _, e.lo, e.hi, rfl, sx, ek.cl _ (by rcases hk' with h | h <;> rw [h] <;> trivial), hl.1, hl.2, fun v r vs out e1 n1 o1 r1 ⟨hs, hl, hm⟩ => k1 (fun z => by rcases hk' with h | h <;> rw [h] at z <;> exact z.elim) v r vs out e1 n1 o1 r1 ⟨hs, hl, fun n => (hm n).trans ?_⟩⟩
  unfold inE
  rcases hk' with h | h <;> rw [h]
theorem wk_spans_within (h : pE_spans K ec C N .within w a b Q E) : p_Within_spans K w a b Q E := wk_spans_lohi (.inl rfl) h
theorem wk_spans_att (h : pE_spans K ec C N .att w a b Q E) : p_Within_spans K w a b Q E := wk_spans_lohi (.inr rfl) h
theorem wk_spans_pl {k : Kd} (hk : placed k) (h : pE_spans K ec C N k w a b Q E) : p_Between_spans K C N w a b Q E := by
  obtain ⟨e, T, rfl, ⟨ek, x, dx, rfl, sx⟩, ok, td, k1, k2⟩ := h
  obtain ⟨l1, l2, l3⟩ := fld_place hk
  obtain ⟨b1, b2, b3, b4⟩ := ok.2.1 hk
  refine ⟨x, _, dx, _, e.p, e.lo, e.hi, T, rfl, sx, ek.cl _ ok.1, l1, l2, l3, b1, b2, b3, b4, td hk, fun R hR v r vs out e1 n1 o1 r1 ⟨hs, hl, hm⟩ => k1 (fun _ => ⟨R, hR⟩) v r vs out e1 n1 o1 r1 ⟨hs, hl, fun n => (hm n).trans ?_⟩, k2 hk⟩
  have hi : inE e T n ↔ ∃ R, getT T e.p = some R ∧ ins ((strsR R e.lo e.hi R.length).filter ne2) n := by
    unfold inE
    obtain ⟨k, n', p, lo, hi⟩ := e
    cases k <;> first | exact hk.elim | exact Iff.rfl
  rw [hi]
  exact ⟨fun z => ⟨R, hR, z⟩, fun ⟨R', h1, h2⟩ => by rw [hR] at h1; cases h1; exact h2⟩
theorem wk_spans_between (h : pE_spans K ec C N .between w a b Q E) : p_Between_spans K C N w a b Q E := wk_spans_pl (k := .between) trivial h
theorem wk_spans_read (h : pE_spans K ec C N .read w a b Q E) : p_Between_spans K C N w a b Q E := wk_spans_pl (k := .read) trivial h
end
local macro_rules | `(tactic| wtm_at "kl") => `(tactic| first
  | exact KitL.nil
  | (refine' KitL.cons ?a ?b; (case a => assumption); (case b => wtm_at "kl"))
  | fail "kl")
local macro_rules | `(tactic| wtm_at "go1") => `(tactic| first
  | with_reducible refine s_xk ?_
  | with_reducible refine s_methD ?_
  | ((with_reducible refine' s_isiCC ?h ?c ?i ?e ?k); (case h => wtm_at "hh"); (case c => assumption); (case i => assumption); (case e => assumption))
  | ((with_reducible refine' s_isKc ?c ?e ?h1 ?h2 ?k); (case h1 => wtm_at "hh"); (case c => assumption); (case e => assumption); (case h2 => wtm_at "hh"))
  | ((with_reducible refine' s_isKt ?c ?e ?h1 ?h2 ?k); (case h1 => wtm_at "hh"); (case c => assumption); (case e => assumption); (case h2 => wtm_at "hh"))
  | ((with_reducible refine' s_isKT ?c ?s ?e ?h1 ?h2 ?k); (case h1 => wtm_at "hh"); (case c => assumption); (case s => wtm_at "stb"); (case e => wtm_at "kl"); (case h2 => wtm_at "hh"))
  | ((with_reducible refine' s_xkv ?c ?e ?h1 ?h2 ?k); (case h1 => wtm_at "hh"); (case c => assumption); (case e => assumption); (case h2 => wtm_at "hh"))
  | fail "go1k")
theorem s_popA {w : Wd} {a : Addr} {vs : List V} {y : V} {i : Nat} {Q : VK} (o : Own w a (.lst vs)) (hi : vs[i]? = some y) (h2 : vs.length < 2 ^ 60) (k : ∀ v, Ext (One a) w v → Own v a (.lst (vs.eraseIdx i)) → Q y v.H) : rPopAt (.ref a) [.int (i : Int)] w.H Q := by
  have hl : i < vs.length := by
    obtain ⟨h, _⟩ := List.getElem?_eq_some_iff.mp hi
    exact h
  refine ⟨a, vs, i, i, y, rfl, rfl, o.h, by omega, by omega, ?_, hi, put (R := fun H => Q y H) o k⟩
  unfold seqIndex?
  simp
  omega
local macro_rules | `(tactic| wtm_at "go1") => `(tactic| first
  | with_reducible refine s_du ?_
  | with_reducible refine s_dp ?_
  | fail "go1l")
abbrev nm_Log_init : List Str := ["self"]
theorem sc_Log_init : FnScope nm_Log_init ["self"] (defScope s_Log_init) := ⟨rfl, rfl, rfl, by decide +kernel, rfl, by decide +kernel, by decide +kernel⟩
theorem st_Log_init (a : V) : start nm_Log_init [a] = [some a] := rfl
def p_Log_init (K : PySem.W.Frag) (ec : EC) (CL CT : Addr) (w : Wd) (a : V) (Q : VK) (_ : XK) : Prop := ∃ x dx, a = .ref x ∧ Own w x (.ins CL dx []) ∧ ∀ v cs, Ext (One x) w v → LogO K ec CL CT v (.ref x) ⟨[], [], []⟩ cs → (∀ y, cs y → y = x ∨ w.H y = none) → Q .non v.H
theorem ok_Log_init {f : Addr} {fd : FuncData} {C_Entry C_Within C_At C_Between C_Table C_Read C_Log C_LogError C_NoEntry C_NoMoment C_NoName C_NoPlace C_NoReading : Addr} (F : Fun K "__init__" "Log.__init__" s_Log_init f fd) (T : Txt K mg C_Entry C_Within C_At C_Between C_Table C_Read C_Log C_LogError C_NoEntry C_NoMoment C_NoName C_NoPlace C_NoReading)  : FnOk P ww K mg base CX0 1 f fd ["self"] (pr1 (p_Log_init K (EC.mk C_Entry C_Within C_At C_Between C_Read C_Entry C_Entry) C_Log C_Table)) := by
  refine F.ok sc_Log_init (fun vs H Q E h => len1 h) (fun cdv A outer s H vs Q E hr h => ?_)
  obtain ⟨w, x0,  rfl, rfl, h⟩ := h
  have ekT := ek_T T
  have cl_Table := T.cl_Table
  have na_Table_kept_rows := T.na_Table_kept_rows
  have cl_Log := T.cl_Log
  have na_Log_bound := T.na_Log_bound
  have na_Log_clocks := T.na_Log_clocks
  have na_Log_line := T.na_Log_line
  have na_Log_name := T.na_Log_name
  have oex_NoEntry := T.oex_NoEntry; have xf_NoEntry := T.xf_NoEntry; have ec_NoEntry := T.ec_NoEntry; have xn_NoEntry := T.xn_NoEntry
  have oex_NoMoment := T.oex_NoMoment; have xf_NoMoment := T.xf_NoMoment; have ec_NoMoment := T.ec_NoMoment; have xn_NoMoment := T.xn_NoMoment
  have oex_NoName := T.oex_NoName; have xf_NoName := T.xf_NoName; have ec_NoName := T.ec_NoName; have xn_NoName := T.xn_NoName
  have oex_NoPlace := T.oex_NoPlace; have xf_NoPlace := T.xf_NoPlace; have ec_NoPlace := T.ec_NoPlace; have xn_NoPlace := T.xn_NoPlace
  have oex_NoReading := T.oex_NoReading; have xf_NoReading := T.xf_NoReading; have ec_NoReading := T.ec_NoReading; have xn_NoReading := T.xn_NoReading
  have rel_NoEntry_NoEntry := T.rel_NoEntry_NoEntry
  have exm_NoEntry_NoEntry := T.exm_NoEntry_NoEntry
  refine ⟨_, (pss_cons (ps_fld (pv 0) pe_dnewK rfl)
      (pss_cons (ps_fld (pv 0) pe_dnewK rfl)
      (pss_one (ps_fld (pv 0) (pe_lst pa_nil) rfl)))), ?_⟩
  rw [st_Log_init]
  obtain ⟨x, dx, rfl, o, k⟩ := h
  ((with_reducible refine s_seq ?_); (with_reducible refine s_sfld ?_); (with_reducible refine' s_dnew ?q0); intro _ _ _ _ _; (with_reducible refine' s_var ?q1 ?q2); (case q1 => exact rfl); (with_reducible refine' s_rsfl ?q3 ?q4 ?q5 ?q6 ?q7 ?q8); (case q3 => refine' Own.ext ( by assumption ) ?q9 ?q10; (case q9 => exact fun h => h); (case q10 => assumption)); (case q4 => assumption); (case q5 => assumption); (case q6 => simp only [ List.length_cons , List.length_nil ]; omega); (case q7 => exact pf_nil); intro _ _ _; (with_reducible refine s_seq ?_); (with_reducible refine s_sfld ?_); (with_reducible refine' s_dnew ?q11); intro _ _ _ _ _; (with_reducible refine' s_var ?q12 ?q13); (case q12 => exact rfl); (with_reducible refine' s_rsfl ?q14 ?q15 ?q16 ?q17 ?q18 ?q19); (case q14 => refine' Own.ext ( by assumption ) ?q20 ?q21; (case q20 => exact fun h => h); (case q21 => assumption)); (case q15 => assumption); (case q16 => assumption); (case q17 => simp only [ List.length_cons , List.length_nil ]; omega); (case q18 => refine' pf_tl ?q22 ?q23; (case q22 => decide +kernel); (case q23 => exact pf_nil)); intro _ _ _; (with_reducible refine s_sfld ?_); (with_reducible refine t_lst ?_); (with_reducible refine s_nil ?_); (with_reducible refine' t_newL ?q24 ?q25); (case q24 => simp only [ List.length , sizeLine_eq ]; omega); intro _ _ _ _ _; (with_reducible refine' s_var ?q26 ?q27); (case q26 => exact rfl); (with_reducible refine' s_rsfl ?q28 ?q29 ?q30 ?q31 ?q32 ?q33); (case q28 => refine' Own.ext ( by assumption ) ?q34 ?q35; (case q34 => exact fun h => h); (case q35 => assumption)); (case q29 => assumption); (case q30 => assumption); (case q31 => simp only [ List.length_cons , List.length_nil ]; omega); (case q32 => refine' pf_tl ?q36 ?q37; (case q36 => decide +kernel); (case q37 => refine' pf_tl ?q38 ?q39; (case q38 => decide +kernel); (case q39 => exact pf_nil))); intro _ _ _)
  rename_i c v1 e1 n1 o1 v2 e2 o2 l v3 e3 n3 o3 v4 e4 o4 b v5 e5 n5 o5 v6 e6 o6
  have hxc : x ≠ c := o.ne n1
  have hxl : x ≠ l := o2.ne n3
  have hxb : x ≠ b := o4.ne n5
  have oc2 : Own v2 c _ := o1.ext e2 fun z => hxc z.symm
  have hcl : c ≠ l := oc2.ne n3
  have oc6 : Own v6 c _ := (((oc2.ext e3 fun z => z).ext e4 fun z => hxc z.symm).ext e5 fun z => z).ext e6 fun z => hxc z.symm
  have ol6 : Own v6 l _ := ((o3.ext e4 fun z => hxl z.symm).ext e5 fun z => z).ext e6 fun z => hxl z.symm
  have ob6 : Own v6 b _ := o5.ext e6 fun z => hxb z.symm
  have e14 : Ext (One x) w v4 := ((e1.more fun _ z => z.elim).trans e2).trans ((e3.more fun _ z => z.elim).trans e4)
  have e16 : Ext (One x) w v6 := e14.trans ((e5.more fun _ z => z.elim).trans e6)
  have nl : w.H l = none := ((e1.more fun _ z => z.elim).trans e2).back n3
  refine k v6 (fun y => y = x ∨ y = c ∨ y = l ∨ y = b) e16 ⟨x, dx, c, l, b, [], [], [], rfl, o6, oc6, .nil, ol6, .nil, ob6, .nil, hcl, fun y => Iff.rfl⟩ fun y hy => ?_
  rcases hy with rfl | rfl | rfl | rfl
  · exact .inl rfl
  · exact .inr n1
  · exact .inr nl
  · exact .inr (e14.back n5)
abbrev nm_Log_names : List Str := ["self"]
theorem sc_Log_names : FnScope nm_Log_names ["self"] (defScope s_Log_names) := ⟨rfl, rfl, rfl, by decide +kernel, rfl, by decide +kernel, by decide +kernel⟩
theorem st_Log_names (a : V) : start nm_Log_names [a] = [some a] := rfl
def p_Log_names (K : PySem.W.Frag) (ec : EC) (CL CT : Addr) (w : Wd) (a : V) (Q : VK) (_ : XK) : Prop := ∃ L cs, LogO K ec CL CT w a L cs ∧ ∀ v r, Ext Non w v → w.H r = none → Own v r (.lst ((L.E.map (·.1)).map V.str)) → Q (.ref r) v.H
theorem ok_Log_names {f : Addr} {fd : FuncData} {C_Entry C_Within C_At C_Between C_Table C_Read C_Log C_LogError C_NoEntry C_NoMoment C_NoName C_NoPlace C_NoReading : Addr} (F : Fun K "names" "Log.names" s_Log_names f fd) (T : Txt K mg C_Entry C_Within C_At C_Between C_Table C_Read C_Log C_LogError C_NoEntry C_NoMoment C_NoName C_NoPlace C_NoReading)  : FnOk P ww K mg base CX0 1 f fd ["self"] (pr1 (p_Log_names K (EC.mk C_Entry C_Within C_At C_Between C_Read C_Entry C_Entry) C_Log C_Table)) := by
  refine F.ok sc_Log_names (fun vs H Q E h => len1 h) (fun cdv A outer s H vs Q E hr h => ?_)
  obtain ⟨w, x0,  rfl, rfl, h⟩ := h
  have ekT := ek_T T
  have cl_Table := T.cl_Table
  have na_Table_kept_rows := T.na_Table_kept_rows
  have cl_Log := T.cl_Log
  have na_Log_bound := T.na_Log_bound
  have na_Log_clocks := T.na_Log_clocks
  have na_Log_line := T.na_Log_line
  have na_Log_name := T.na_Log_name
  have oex_NoEntry := T.oex_NoEntry; have xf_NoEntry := T.xf_NoEntry; have ec_NoEntry := T.ec_NoEntry; have xn_NoEntry := T.xn_NoEntry
  have oex_NoMoment := T.oex_NoMoment; have xf_NoMoment := T.xf_NoMoment; have ec_NoMoment := T.ec_NoMoment; have xn_NoMoment := T.xn_NoMoment
  have oex_NoName := T.oex_NoName; have xf_NoName := T.xf_NoName; have ec_NoName := T.ec_NoName; have xn_NoName := T.xn_NoName
  have oex_NoPlace := T.oex_NoPlace; have xf_NoPlace := T.xf_NoPlace; have ec_NoPlace := T.ec_NoPlace; have xn_NoPlace := T.xn_NoPlace
  have oex_NoReading := T.oex_NoReading; have xf_NoReading := T.xf_NoReading; have ec_NoReading := T.ec_NoReading; have xn_NoReading := T.xn_NoReading
  have rel_NoEntry_NoEntry := T.rel_NoEntry_NoEntry
  have exm_NoEntry_NoEntry := T.exm_NoEntry_NoEntry
  refine ⟨_, (pss_one (ps_ret (pe_callTy (kListDK rfl) (by rfl) T.n_list (by decide +kernel) (pa_cons (pe_fld (pv 0) rfl) pa_nil)))), ?_⟩
  rw [st_Log_names]
  obtain ⟨L, cs, ⟨x, dx, c, l, b, kc, kl, bs, rfl, ox, oc, tc, ol, tl, ob, rb, hcl, hcs⟩, k⟩ := h
  ((with_reducible refine s_ret ?_); (with_reducible refine s_CB ?_); (with_reducible refine s_cons ?_); (with_reducible refine s_fld ?_); (with_reducible refine' s_var ?q40 ?q41); (case q40 => exact rfl); (with_reducible refine' s_rfld ?q42 ?q43 ?q44 ?q45 ?q46); (case q42 => refine' Own.h ?q48; (case q48 => assumption)); (case q43 => assumption); (case q44 => assumption); (case q45 => refine' lk_tl ?q49 ?q50; (case q49 => decide +kernel); (case q50 => exact lk_hd)); (with_reducible refine s_nil ?_))
  refine s_listDKo ol fun p v e n o => ?_
  rw [DicR.kVs tl] at o
  exact k v p e n o
abbrev nm_Log_bonds : List Str := ["self"]
theorem sc_Log_bonds : FnScope nm_Log_bonds ["self"] (defScope s_Log_bonds) := ⟨rfl, rfl, rfl, by decide +kernel, rfl, by decide +kernel, by decide +kernel⟩
theorem st_Log_bonds (a : V) : start nm_Log_bonds [a] = [some a] := rfl
def p_Log_bonds (K : PySem.W.Frag) (ec : EC) (CL CT : Addr) (w : Wd) (a : V) (Q : VK) (_ : XK) : Prop := ∃ L cs, LogO K ec CL CT w a L cs ∧ ∀ v r vs, Ext Non w v → w.H r = none → Own v r (.lst vs) → RpA v.S vs (L.B.map bondD) → Q (.ref r) v.H
theorem ok_Log_bonds {f : Addr} {fd : FuncData} {C_Entry C_Within C_At C_Between C_Table C_Read C_Log C_LogError C_NoEntry C_NoMoment C_NoName C_NoPlace C_NoReading : Addr} (F : Fun K "bonds" "Log.bonds" s_Log_bonds f fd) (T : Txt K mg C_Entry C_Within C_At C_Between C_Table C_Read C_Log C_LogError C_NoEntry C_NoMoment C_NoName C_NoPlace C_NoReading)  : FnOk P ww K mg base CX0 1 f fd ["self"] (pr1 (p_Log_bonds K (EC.mk C_Entry C_Within C_At C_Between C_Read C_Entry C_Entry) C_Log C_Table)) := by
  refine F.ok sc_Log_bonds (fun vs H Q E h => len1 h) (fun cdv A outer s H vs Q E hr h => ?_)
  obtain ⟨w, x0,  rfl, rfl, h⟩ := h
  have ekT := ek_T T
  have cl_Table := T.cl_Table
  have na_Table_kept_rows := T.na_Table_kept_rows
  have cl_Log := T.cl_Log
  have na_Log_bound := T.na_Log_bound
  have na_Log_clocks := T.na_Log_clocks
  have na_Log_line := T.na_Log_line
  have na_Log_name := T.na_Log_name
  have oex_NoEntry := T.oex_NoEntry; have xf_NoEntry := T.xf_NoEntry; have ec_NoEntry := T.ec_NoEntry; have xn_NoEntry := T.xn_NoEntry
  have oex_NoMoment := T.oex_NoMoment; have xf_NoMoment := T.xf_NoMoment; have ec_NoMoment := T.ec_NoMoment; have xn_NoMoment := T.xn_NoMoment
  have oex_NoName := T.oex_NoName; have xf_NoName := T.xf_NoName; have ec_NoName := T.ec_NoName; have xn_NoName := T.xn_NoName
  have oex_NoPlace := T.oex_NoPlace; have xf_NoPlace := T.xf_NoPlace; have ec_NoPlace := T.ec_NoPlace; have xn_NoPlace := T.xn_NoPlace
  have oex_NoReading := T.oex_NoReading; have xf_NoReading := T.xf_NoReading; have ec_NoReading := T.ec_NoReading; have xn_NoReading := T.xn_NoReading
  have rel_NoEntry_NoEntry := T.rel_NoEntry_NoEntry
  have exm_NoEntry_NoEntry := T.exm_NoEntry_NoEntry
  refine ⟨_, (pss_one (ps_ret (pe_callTy (kList K) (by rfl) T.n_list (by decide +kernel) (pa_cons (pe_fld (pv 0) rfl) pa_nil)))), ?_⟩
  rw [st_Log_bonds]
  obtain ⟨L, cs, ⟨x, dx, c, l, b, kc, kl, bs, rfl, ox, oc, tc, ol, tl, ob, rb, hcl, hcs⟩, k⟩ := h
  ((with_reducible refine s_ret ?_); (with_reducible refine s_CB ?_); (with_reducible refine s_cons ?_); (with_reducible refine s_fld ?_); (with_reducible refine' s_var ?q51 ?q52); (case q51 => exact rfl); (with_reducible refine' s_rfld ?q53 ?q54 ?q55 ?q56 ?q57); (case q53 => refine' Own.h ?q59; (case q59 => assumption)); (case q54 => assumption); (case q55 => assumption); (case q56 => refine' lk_tl ?q60 ?q61; (case q60 => decide +kernel); (case q61 => refine' lk_tl ?q62 ?q63; (case q62 => decide +kernel); (case q63 => exact lk_hd))); (with_reducible refine s_nil ?_))
  refine s_listO (.inl (SqL.of ob.h)) fun p v e n o => ?_
  exact k v p bs e n o (rb.go e)
abbrev nm_Log_places : List Str := ["self"]
theorem sc_Log_places : FnScope nm_Log_places ["self"] (defScope s_Log_places) := ⟨rfl, rfl, rfl, by decide +kernel, rfl, by decide +kernel, by decide +kernel⟩
theorem st_Log_places (a : V) : start nm_Log_places [a] = [some a] := rfl
def p_Log_places (K : PySem.W.Frag) (ec : EC) (CL CT : Addr) (w : Wd) (a : V) (Q : VK) (_ : XK) : Prop := ∃ L cs, LogO K ec CL CT w a L cs ∧ L.T.length < 64 ∧ ∀ v r ys, ys.Perm (L.T.map (·.1)) → PyProof.Rows.sortedS ys = true → Ext Non w v → w.H r = none → Own v r (.lst (ys.map V.str)) → Q (.ref r) v.H
theorem ok_Log_places {f : Addr} {fd : FuncData} {C_Entry C_Within C_At C_Between C_Table C_Read C_Log C_LogError C_NoEntry C_NoMoment C_NoName C_NoPlace C_NoReading : Addr} (F : Fun K "places" "Log.places" s_Log_places f fd) (T : Txt K mg C_Entry C_Within C_At C_Between C_Table C_Read C_Log C_LogError C_NoEntry C_NoMoment C_NoName C_NoPlace C_NoReading)  : FnOk P ww K mg base CX0 1 f fd ["self"] (pr1 (p_Log_places K (EC.mk C_Entry C_Within C_At C_Between C_Read C_Entry C_Entry) C_Log C_Table)) := by
  refine F.ok sc_Log_places (fun vs H Q E h => len1 h) (fun cdv A outer s H vs Q E hr h => ?_)
  obtain ⟨w, x0,  rfl, rfl, h⟩ := h
  have ekT := ek_T T
  have cl_Table := T.cl_Table
  have na_Table_kept_rows := T.na_Table_kept_rows
  have cl_Log := T.cl_Log
  have na_Log_bound := T.na_Log_bound
  have na_Log_clocks := T.na_Log_clocks
  have na_Log_line := T.na_Log_line
  have na_Log_name := T.na_Log_name
  have oex_NoEntry := T.oex_NoEntry; have xf_NoEntry := T.xf_NoEntry; have ec_NoEntry := T.ec_NoEntry; have xn_NoEntry := T.xn_NoEntry
  have oex_NoMoment := T.oex_NoMoment; have xf_NoMoment := T.xf_NoMoment; have ec_NoMoment := T.ec_NoMoment; have xn_NoMoment := T.xn_NoMoment
  have oex_NoName := T.oex_NoName; have xf_NoName := T.xf_NoName; have ec_NoName := T.ec_NoName; have xn_NoName := T.xn_NoName
  have oex_NoPlace := T.oex_NoPlace; have xf_NoPlace := T.xf_NoPlace; have ec_NoPlace := T.ec_NoPlace; have xn_NoPlace := T.xn_NoPlace
  have oex_NoReading := T.oex_NoReading; have xf_NoReading := T.xf_NoReading; have ec_NoReading := T.ec_NoReading; have xn_NoReading := T.xn_NoReading
  have rel_NoEntry_NoEntry := T.rel_NoEntry_NoEntry
  have exm_NoEntry_NoEntry := T.exm_NoEntry_NoEntry
  refine ⟨_, (pss_one (ps_ret (pe_callB (kSortDT rfl) (by rfl) T.n_sorted (by decide +kernel) (pa_cons (pe_fld (pv 0) rfl) pa_nil)))), ?_⟩
  rw [st_Log_places]
  obtain ⟨L, cs, ⟨x, dx, c, l, b, kc, kl, bs, rfl, ox, oc, tc, ol, tl, ob, rb, hcl, hcs⟩, hl, k⟩ := h
  ((with_reducible refine s_ret ?_); (with_reducible refine s_CB ?_); (with_reducible refine s_cons ?_); (with_reducible refine s_fld ?_); (with_reducible refine' s_var ?q64 ?q65); (case q64 => exact rfl); (with_reducible refine' s_rfld ?q66 ?q67 ?q68 ?q69 ?q70); (case q66 => refine' Own.h ?q72; (case q72 => assumption)); (case q67 => assumption); (case q68 => assumption); (case q69 => exact lk_hd); (with_reducible refine s_nil ?_))
  refine s_sortDTo oc.h (DicR.keys tc) (by rw [List.length_map]; exact hl) fun ys p v h1 h2 e n o => ?_
  exact k v p ys h1 h2 e n o
abbrev nm_NoEntry_init : List Str := ["self", "found"]
theorem sc_NoEntry_init : FnScope nm_NoEntry_init ["self", "found"] (defScope s_NoEntry_init) := ⟨rfl, rfl, rfl, by decide +kernel, rfl, by decide +kernel, by decide +kernel⟩
theorem st_NoEntry_init (a b : V) : start nm_NoEntry_init [a, b] = [some a, some b] := rfl
abbrev p_NoEntry_init (C : Addr) := initX (Str.ofString "found") C
theorem ok_NoEntry_init {f : Addr} {fd : FuncData} {C_Entry C_Within C_At C_Between C_Table C_Read C_Log C_LogError C_NoEntry C_NoMoment C_NoName C_NoPlace C_NoReading : Addr} (F : Fun K "__init__" "NoEntry.__init__" s_NoEntry_init f fd) (T : Txt K mg C_Entry C_Within C_At C_Between C_Table C_Read C_Log C_LogError C_NoEntry C_NoMoment C_NoName C_NoPlace C_NoReading)  : FnOk P ww K mg base CX0 1 f fd ["self", "found"] (pr2 (p_NoEntry_init C_NoEntry)) := by
  refine F.ok sc_NoEntry_init (fun vs H Q E h => len2 h) (fun cdv A outer s H vs Q E hr h => ?_)
  obtain ⟨w, x0, x1,  rfl, rfl, h⟩ := h
  have ekT := ek_T T
  have cl_Table := T.cl_Table
  have na_Table_kept_rows := T.na_Table_kept_rows
  have cl_Log := T.cl_Log
  have na_Log_bound := T.na_Log_bound
  have na_Log_clocks := T.na_Log_clocks
  have na_Log_line := T.na_Log_line
  have na_Log_name := T.na_Log_name
  have oex_NoEntry := T.oex_NoEntry; have xf_NoEntry := T.xf_NoEntry; have ec_NoEntry := T.ec_NoEntry; have xn_NoEntry := T.xn_NoEntry
  have oex_NoMoment := T.oex_NoMoment; have xf_NoMoment := T.xf_NoMoment; have ec_NoMoment := T.ec_NoMoment; have xn_NoMoment := T.xn_NoMoment
  have oex_NoName := T.oex_NoName; have xf_NoName := T.xf_NoName; have ec_NoName := T.ec_NoName; have xn_NoName := T.xn_NoName
  have oex_NoPlace := T.oex_NoPlace; have xf_NoPlace := T.xf_NoPlace; have ec_NoPlace := T.ec_NoPlace; have xn_NoPlace := T.xn_NoPlace
  have oex_NoReading := T.oex_NoReading; have xf_NoReading := T.xf_NoReading; have ec_NoReading := T.ec_NoReading; have xn_NoReading := T.xn_NoReading
  have rel_NoEntry_NoEntry := T.rel_NoEntry_NoEntry
  have exm_NoEntry_NoEntry := T.exm_NoEntry_NoEntry
  refine ⟨_, (pss_cons (ps_expr (pe_xinit (pe_glob (v := .ref C_LogError) (u := .ref C_LogError) rfl T.g_LogError rfl) T.rd_LogError T.gs_LogError T.vv_LogError (pa_cons (pv 0) (pa_cons pe_str pa_nil))))
      (pss_one (ps_ost (pv 0) (pv 1)))), ?_⟩
  rw [st_NoEntry_init]
  obtain ⟨x, rfl, hx, k⟩ := h
  ((with_reducible refine s_seq ?_); (with_reducible refine s_drop ?_); (with_reducible refine s_veI ?_); (with_reducible refine s_cons ?_); (with_reducible refine' s_var ?q73 ?q74); (case q73 => exact rfl); (with_reducible refine s_cons ?_); (with_reducible refine s_c ?_); (with_reducible refine s_nil ?_))
  refine ⟨x, _, _, rfl, by simp, oex_NoEntry, hx, ?_⟩
  ((with_reducible refine s_ost ?_); (with_reducible refine' s_var ?q75 ?q76); (case q75 => exact rfl); (with_reducible refine' s_var ?q77 ?q78); (case q77 => exact rfl))
  exact ⟨x, C_NoEntry, rfl, oex_NoEntry, xn_NoEntry, .inl ⟨hx, fun dx h1 h2 => k dx h1 h2⟩⟩
abbrev nm_Log_entry : List Str := ["self", "name"]
theorem sc_Log_entry : FnScope nm_Log_entry ["self", "name"] (defScope s_Log_entry) := ⟨rfl, rfl, rfl, by decide +kernel, rfl, by decide +kernel, by decide +kernel⟩
theorem st_Log_entry (a b : V) : start nm_Log_entry [a, b] = [some a, some b] := rfl
def p_Log_entry (K : PySem.W.Frag) (ec : EC) (CL CT N : Addr) (w : Wd) (a b : V) (Q : VK) (E : XK) : Prop := ∃ L cs d, LogO K ec CL CT w a L cs ∧ Rp w.S b d ∧
  (∀ z e, d = .str z → getT L.E z = some e → ∀ v y, Ext Non w v → SimS K ec v.S y e → e.ok → Q y v.H) ∧ ((∀ z, d = .str z → getT L.E z = none) → Rz Non w N b E)
theorem ok_Log_entry {f : Addr} {fd : FuncData} {C_Entry C_Within C_At C_Between C_Table C_Read C_Log C_LogError C_NoEntry C_NoMoment C_NoName C_NoPlace C_NoReading : Addr} (F : Fun K "entry" "Log.entry" s_Log_entry f fd) (T : Txt K mg C_Entry C_Within C_At C_Between C_Table C_Read C_Log C_LogError C_NoEntry C_NoMoment C_NoName C_NoPlace C_NoReading) (c_NoEntry_init : Mxr P ww K mg base C_NoEntry 1 (pr2 (p_NoEntry_init C_NoEntry))) : FnOk P ww K mg base (L2.CX P ww) 3 f fd ["self", "name"] (pr2 (p_Log_entry K (EC.mk C_Entry C_Within C_At C_Between C_Read C_Entry C_Entry) C_Log C_Table C_NoEntry)) := by
  refine F.okX sc_Log_entry (fun vs H Q E h => len2 h) (fun cdv A outer s H vs Q E hr h => ?_)
  obtain ⟨w, x0, x1,  rfl, rfl, h⟩ := h
  have ekT := ek_T T
  have cl_Table := T.cl_Table
  have na_Table_kept_rows := T.na_Table_kept_rows
  have cl_Log := T.cl_Log
  have na_Log_bound := T.na_Log_bound
  have na_Log_clocks := T.na_Log_clocks
  have na_Log_line := T.na_Log_line
  have na_Log_name := T.na_Log_name
  have oex_NoEntry := T.oex_NoEntry; have xf_NoEntry := T.xf_NoEntry; have ec_NoEntry := T.ec_NoEntry; have xn_NoEntry := T.xn_NoEntry
  have oex_NoMoment := T.oex_NoMoment; have xf_NoMoment := T.xf_NoMoment; have ec_NoMoment := T.ec_NoMoment; have xn_NoMoment := T.xn_NoMoment
  have oex_NoName := T.oex_NoName; have xf_NoName := T.xf_NoName; have ec_NoName := T.ec_NoName; have xn_NoName := T.xn_NoName
  have oex_NoPlace := T.oex_NoPlace; have xf_NoPlace := T.xf_NoPlace; have ec_NoPlace := T.ec_NoPlace; have xn_NoPlace := T.xn_NoPlace
  have oex_NoReading := T.oex_NoReading; have xf_NoReading := T.xf_NoReading; have ec_NoReading := T.ec_NoReading; have xn_NoReading := T.xn_NoReading
  have rel_NoEntry_NoEntry := T.rel_NoEntry_NoEntry
  have exm_NoEntry_NoEntry := T.exm_NoEntry_NoEntry
  refine ⟨_, (pss_cons (ps_if (PW.pt (pw_or (pt_not (pt_val (pe_callB (kIsi K) (by rfl) T.n_isinstance (by decide +kernel) (pa_cons (pv 1) (pa_cons (pe_bltn (v := .ty "str") (u := .type "str") rfl T.n_str (by decide +kernel) rfl) pa_nil))))) (pw_or1 (pt_cmp (pc_dnotin (hu_of hr) (pv 1) (pe_fld (pv 0) rfl)) (by rfl))))) (pss_one (ps_raiseX rfl (takes_of rfl rfl rfl rfl) c_NoEntry_init hr (by decide) T.g_NoEntry (pa_cons (pv 1) pa_nil))) pss_nil)
      (pss_one (ps_ret (pe_dget (hu_of hr) (pe_fld (pv 0) rfl) (pv 1) (fun _ _ => rfl))))), ?_⟩
  rw [st_Log_entry]
  obtain ⟨L, cs, d, ⟨x, dx, c, l, b, kc, kl, bs, rfl, ox, oc, tc, ol, tl, ob, rb, hcl, hcs⟩, hd, k1, k2⟩ := h
  ((with_reducible refine s_seq ?_); (with_reducible refine s_ifS ?_); (with_reducible refine s_or ?_); (with_reducible refine s_not ?_); (with_reducible refine s_B ?_); (with_reducible refine s_CB ?_); (with_reducible refine s_cons ?_); (with_reducible refine' s_var ?q79 ?q80); (case q79 => exact rfl); (with_reducible refine s_cons ?_); (with_reducible refine s_c ?_); (with_reducible refine s_nil ?_); (with_reducible refine' sd_str ?q81 ?q82); (case q81 => assumption); (with_reducible refine s_bl ?_))
  refine ite_n (fun hb => ?_) (fun hb => ?_)
  · ((with_reducible refine ite_tt ?_))
    refine s_raiseX rfl ?_
    ((with_reducible refine s_cons ?_); (with_reducible refine' s_var ?q83 ?q84); (case q83 => exact rfl); (with_reducible refine s_nil ?_))
    exact s_raised (W := fun cls d _ H => E cls d H) (σ := []) fun e v ev n o => k2 (fun z hz => by rw [hz] at hb; cases hb) v e ev n o
  · obtain ⟨z, rfl⟩ := isStr_inv hb
    obtain rfl := hd.str_inv
    ((with_reducible refine s_B ?_))
    unfold tDNotIn
    ((with_reducible refine' s_var ?q88 ?q89); (case q88 => exact rfl); (with_reducible refine s_fld ?_); (with_reducible refine' s_var ?q90 ?q91); (case q90 => exact rfl); (with_reducible refine' s_rfld ?q92 ?q93 ?q94 ?q95 ?q96); (case q92 => refine' Own.h ?q98; (case q98 => assumption)); (case q93 => assumption); (case q94 => assumption); (case q95 => refine' lk_tl ?q99 ?q100; (case q99 => decide +kernel); (case q100 => exact lk_hd)))
    refine ⟨l, _, rfl, dgetR (.inl ol.h) (.inr z), ?_⟩
    rw [DicR.isSome tl]
    cases hg : getT L.E z with
    | none =>
      rw [show (!(none : Option Sim).isSome) = true from rfl]
      ((with_reducible refine s_bl ?_); (with_reducible refine ite_tt ?_))
      refine s_raiseX rfl ?_
      ((with_reducible refine s_cons ?_); (with_reducible refine' s_var ?q104 ?q105); (case q104 => exact rfl); (with_reducible refine s_nil ?_))
      exact s_raised (W := fun cls d _ H => E cls d H) (σ := []) fun e v ev n o => k2 (fun y hy => by cases hy; exact hg) v e ev n o
    | some e =>
      obtain ⟨y, hy, hS, hok⟩ := DicR.hit tl hg
      rw [show (!(some e).isSome) = false from rfl]
      ((with_reducible refine s_bl ?_); (with_reducible refine ite_ff ?_); (with_reducible refine s_next ?_); (with_reducible refine s_ret ?_); (with_reducible refine s_dget ?_); (with_reducible refine s_fld ?_); (with_reducible refine' s_var ?q109 ?q110); (case q109 => exact rfl); (with_reducible refine' s_rfld ?q111 ?q112 ?q113 ?q114 ?q115); (case q111 => refine' Own.h ?q117; (case q117 => assumption)); (case q112 => assumption); (case q113 => assumption); (case q114 => refine' lk_tl ?q118 ?q119; (case q118 => decide +kernel); (case q119 => exact lk_hd)); (with_reducible refine' s_var ?q120 ?q121); (case q120 => exact rfl))
      have hdg : DGet w.H l (.str z) (some y) := by
        have := dgetR (.inl ol.h) (.inr z)
        rw [hy] at this
        exact this
      refine ⟨l, _, rfl, hdg, ?_⟩
      exact k1 z e rfl hg w y (Ext.refl _ _) hS hok
abbrev nm_Log_spans : List Str := ["self", "name"]
theorem sc_Log_spans : FnScope nm_Log_spans ["self", "name"] (defScope s_Log_spans) := ⟨rfl, rfl, rfl, by decide +kernel, rfl, by decide +kernel, by decide +kernel⟩
theorem st_Log_spans (a b : V) : start nm_Log_spans [a, b] = [some a, some b] := rfl
def p_Log_spans (K : PySem.W.Frag) (ec : EC) (CL CT N : Addr) (w : Wd) (a b : V) (Q : VK) (E : XK) : Prop := ∃ L cs d, LogO K ec CL CT w a L cs ∧ Rp w.S b d ∧
  (∀ z e, d = .str z → getT L.E z = some e → (placed e.k → ∃ R, getT L.T e.p = some R) ∧ Tells w Q fun out => Sp none out ∧ out.length ≤ 21 ∧ ∀ n, ins out n ↔ inE e L.T n) ∧ ((∀ z, d = .str z → getT L.E z = none) → Rz Non w N b E)
theorem ok_Log_spans {f : Addr} {fd : FuncData} {C_Entry C_Within C_At C_Between C_Table C_Read C_Log C_LogError C_NoEntry C_NoMoment C_NoName C_NoPlace C_NoReading : Addr} (F : Fun K "spans" "Log.spans" s_Log_spans f fd) (T : Txt K mg C_Entry C_Within C_At C_Between C_Table C_Read C_Log C_LogError C_NoEntry C_NoMoment C_NoName C_NoPlace C_NoReading) (c_Log_entry : Mth P ww K mg base (L2.CX P ww) C_Log 3 "entry" (pr2 (p_Log_entry K (EC.mk C_Entry C_Within C_At C_Between C_Read C_Entry C_Entry) C_Log C_Table C_NoEntry))) (d_spans : MthD P ww K mg base (L2.CX P ww) simple (EC.of (EC.mk C_Entry C_Within C_At C_Between C_Read C_Entry C_Entry)) 4 "spans" (fun k => pr2 (pE_spans K (EC.mk C_Entry C_Within C_At C_Between C_Read C_Entry C_Entry) C_Table C_NoPlace k))) : FnOk P ww K mg base (L2.CX P ww) 5 f fd ["self", "name"] (pr2 (p_Log_spans K (EC.mk C_Entry C_Within C_At C_Between C_Read C_Entry C_Entry) C_Log C_Table C_NoEntry)) := by
  refine F.okX sc_Log_spans (fun vs H Q E h => len2 h) (fun cdv A outer s H vs Q E hr h => ?_)
  obtain ⟨w, x0, x1,  rfl, rfl, h⟩ := h
  have ekT := ek_T T
  have cl_Table := T.cl_Table
  have na_Table_kept_rows := T.na_Table_kept_rows
  have cl_Log := T.cl_Log
  have na_Log_bound := T.na_Log_bound
  have na_Log_clocks := T.na_Log_clocks
  have na_Log_line := T.na_Log_line
  have na_Log_name := T.na_Log_name
  have oex_NoEntry := T.oex_NoEntry; have xf_NoEntry := T.xf_NoEntry; have ec_NoEntry := T.ec_NoEntry; have xn_NoEntry := T.xn_NoEntry
  have oex_NoMoment := T.oex_NoMoment; have xf_NoMoment := T.xf_NoMoment; have ec_NoMoment := T.ec_NoMoment; have xn_NoMoment := T.xn_NoMoment
  have oex_NoName := T.oex_NoName; have xf_NoName := T.xf_NoName; have ec_NoName := T.ec_NoName; have xn_NoName := T.xn_NoName
  have oex_NoPlace := T.oex_NoPlace; have xf_NoPlace := T.xf_NoPlace; have ec_NoPlace := T.ec_NoPlace; have xn_NoPlace := T.xn_NoPlace
  have oex_NoReading := T.oex_NoReading; have xf_NoReading := T.xf_NoReading; have ec_NoReading := T.ec_NoReading; have xn_NoReading := T.xn_NoReading
  have rel_NoEntry_NoEntry := T.rel_NoEntry_NoEntry
  have exm_NoEntry_NoEntry := T.exm_NoEntry_NoEntry
  refine ⟨_, (pss_one (ps_ret (pe_mthD (takes_of rfl rfl rfl rfl) d_spans hr (by decide) (pe_mthX (takes_of rfl rfl rfl rfl) c_Log_entry T.cl_Log hr (by decide) (pv 0) (pa_cons (pv 1) pa_nil)) (pa_cons (pe_fld (pv 0) rfl) pa_nil)))), ?_⟩
  rw [st_Log_spans]
  obtain ⟨L, cs, d, hL, hd, k1, k2⟩ := h
  obtain ⟨x, dx, c, l, b, kc, kl, bs, rfl, ox, oc, tc, ol, tl, ob, rb, hcl, hcs⟩ := id hL
  ((with_reducible refine s_ret ?_); (with_reducible refine s_methD ?_); (with_reducible refine s_methX ?_); (with_reducible refine' s_var ?q125 ?q126); (case q125 => exact rfl); (with_reducible refine' s_rmeth ?q127 ?q128 ?q129); (case q127 => refine' Own.h ?q131; (case q131 => assumption)); (case q128 => refine' lk_tl ?q132 ?q133; (case q132 => decide +kernel); (case q133 => refine' lk_tl ?q134 ?q135; (case q134 => decide +kernel); (case q135 => refine' lk_tl ?q136 ?q137; (case q136 => decide +kernel); (case q137 => exact lk_nil)))); (with_reducible refine s_cons ?_); (with_reducible refine' s_var ?q138 ?q139); (case q138 => exact rfl); (with_reducible refine s_nil ?_); (with_reducible refine s_pm2 ?_))
  refine ⟨L, cs, d, hL, hd, fun z e hz he v y ev hS hok => ?_, k2⟩
  obtain ⟨h1, h2⟩ := k1 z e hz he
  obtain ⟨_, xe, dxe, rfl, sxe⟩ := id hS
  refine s_rmethD e.k hok.1 (v.ok _ _ sxe) (fld_spans e).1 ?_
  have oxv := ox.ext ev fun z => z
  ((with_reducible refine s_cons ?_); (with_reducible refine s_fld ?_); (with_reducible refine' s_var ?q140 ?q141); (case q140 => exact rfl); (with_reducible refine' s_rfld ?q142 ?q143 ?q144 ?q145 ?q146); (case q142 => refine' Own.h ?q149; (case q149 => assumption)); (case q143 => assumption); (case q144 => assumption); (case q145 => exact lk_hd); (with_reducible refine s_nil ?_); (with_reducible refine s_pq2 ?_))
  refine ⟨e, L.T, rfl, hS, hok, fun _ => ⟨c, kc, rfl, .inr (oc.ext ev fun z => z), TbA.go ev tc⟩, fun _ v2 r vs out e2 n2 o2 r2 h3 => h2 v2 r vs out (ev.trans e2) (ev.back n2) o2 r2 h3, fun hp hg => absurd hg (by obtain ⟨R, h⟩ := h1 hp; rw [h]; exact fun z => by cases z)⟩
abbrev nm_Log_clock : List Str := ["self", "place", "table"]
theorem sc_Log_clock : FnScope nm_Log_clock ["self", "place", "table"] (defScope s_Log_clock) := ⟨rfl, rfl, rfl, by decide +kernel, rfl, by decide +kernel, by decide +kernel⟩
theorem st_Log_clock (a b c : V) : start nm_Log_clock [a, b, c] = [some a, some b, some c] := rfl
def p_Log_clock (K : PySem.W.Frag) (ec : EC) (CL CT : Addr) (w : Wd) (a b c : V) (Q : VK) (_ : XK) : Prop := ∃ L cs z R, LogO K ec CL CT w a L cs ∧ b = .str z ∧ NmOk z ∧ TbS CT w.S c R ∧ TabOk R ∧ ((getT L.T z).isSome = true ∨ L.T.length < 6) ∧ L.T.length < 1000 ∧
  ∀ v, Ext cs w v → LogO K ec CL CT v a { L with T := putT L.T z R } cs → Q .non v.H
theorem ok_Log_clock {f : Addr} {fd : FuncData} {C_Entry C_Within C_At C_Between C_Table C_Read C_Log C_LogError C_NoEntry C_NoMoment C_NoName C_NoPlace C_NoReading : Addr} (F : Fun K "clock" "Log.clock" s_Log_clock f fd) (T : Txt K mg C_Entry C_Within C_At C_Between C_Table C_Read C_Log C_LogError C_NoEntry C_NoMoment C_NoName C_NoPlace C_NoReading) (c_is_name : Fnc P ww K mg base CX0 1 "is_name" (pr1 (p_is_name))) : FnOk P ww K mg base CX0 2 f fd ["self", "place", "table"] (pr3 (p_Log_clock K (EC.mk C_Entry C_Within C_At C_Between C_Read C_Entry C_Entry) C_Log C_Table)) := by
  refine F.ok sc_Log_clock (fun vs H Q E h => len3 h) (fun cdv A outer s H vs Q E hr h => ?_)
  obtain ⟨w, x0, x1, x2,  rfl, rfl, h⟩ := h
  have ekT := ek_T T
  have cl_Table := T.cl_Table
  have na_Table_kept_rows := T.na_Table_kept_rows
  have cl_Log := T.cl_Log
  have na_Log_bound := T.na_Log_bound
  have na_Log_clocks := T.na_Log_clocks
  have na_Log_line := T.na_Log_line
  have na_Log_name := T.na_Log_name
  have oex_NoEntry := T.oex_NoEntry; have xf_NoEntry := T.xf_NoEntry; have ec_NoEntry := T.ec_NoEntry; have xn_NoEntry := T.xn_NoEntry
  have oex_NoMoment := T.oex_NoMoment; have xf_NoMoment := T.xf_NoMoment; have ec_NoMoment := T.ec_NoMoment; have xn_NoMoment := T.xn_NoMoment
  have oex_NoName := T.oex_NoName; have xf_NoName := T.xf_NoName; have ec_NoName := T.ec_NoName; have xn_NoName := T.xn_NoName
  have oex_NoPlace := T.oex_NoPlace; have xf_NoPlace := T.xf_NoPlace; have ec_NoPlace := T.ec_NoPlace; have xn_NoPlace := T.xn_NoPlace
  have oex_NoReading := T.oex_NoReading; have xf_NoReading := T.xf_NoReading; have ec_NoReading := T.ec_NoReading; have xn_NoReading := T.xn_NoReading
  have rel_NoEntry_NoEntry := T.rel_NoEntry_NoEntry
  have exm_NoEntry_NoEntry := T.exm_NoEntry_NoEntry
  refine ⟨_, (pss_cons (ps_if (pt_not (pt_val (pe_fn c_is_name hr (by decide) pass0 (pa_cons (pv 1) pa_nil)))) (pss_one ps_no) pss_nil)
      (pss_cons (ps_if (PW.pt (pw_and (pt_cmp (pc_dnotin (hu_of hr) (pv 1) (pe_fld (pv 0) rfl)) (by rfl)) (pw_and1 (pt_cmpR g_ge (pe_callB kLenD (by rfl) T.n_len (by decide +kernel) (pa_cons (pe_fld (pv 0) rfl) pa_nil)) (pe_gco rfl T.c_MOST_PLACES) (nomark _))))) (pss_one ps_no) pss_nil)
      (pss_one (ps_dput (hu_of hr) (pe_fld (pv 0) rfl) (pv 1) (pv 2) rfl)))), ?_⟩
  rw [st_Log_clock]
  obtain ⟨L, cs, z, R, hL, rfl, hz, hT, hok, hs, hl, k⟩ := h
  obtain ⟨x, dx, c, l, b, kc, kl, bs, rfl, ox, oc, tc, ol, tl, ob, rb, hcl, hcs⟩ := id hL
  ((with_reducible refine s_seq ?_); (with_reducible refine s_ifS ?_); (with_reducible refine s_not ?_); (with_reducible refine s_B ?_); (with_reducible refine s_call ?_); (with_reducible refine s_cons ?_); (with_reducible refine' s_var ?q150 ?q151); (case q150 => exact rfl); (with_reducible refine s_nil ?_); (with_reducible refine s_pr1 ?_))
  refine ⟨.str z, .str z, txd_ok hz, fun v1 e1 => ?_⟩
  rw [show nameB (.str z) = true from nameB_ok hz]
  ((with_reducible refine s_bl ?_); (with_reducible refine ite_nt ?_); (with_reducible refine s_next ?_); (with_reducible refine s_seq ?_); (with_reducible refine s_ifS ?_); (with_reducible refine s_and ?_); (with_reducible refine s_B ?_))
  unfold tDNotIn
  have ox1 := ox.ext e1 fun z => z
  have oc1 := oc.ext e1 fun z => z
  have ol1 := ol.ext e1 fun z => z
  have ob1 := ob.ext e1 fun z => z
  have tc1 := TbA.go e1 tc
  have tl1 := EnA.go e1 tl
  have rb1 := rb.go e1
  have hT1 := TbS.go e1 hT
  have hkl := DicR.len tc1
  ((with_reducible refine' s_var ?q158 ?q159); (case q158 => exact rfl); (with_reducible refine s_fld ?_); (with_reducible refine' s_var ?q160 ?q161); (case q160 => exact rfl); (with_reducible refine' s_rfld ?q162 ?q163 ?q164 ?q165 ?q166); (case q162 => refine' Own.h ?q169; (case q169 => assumption)); (case q163 => assumption); (case q164 => assumption); (case q165 => exact lk_hd))
  refine ⟨c, _, rfl, dgetR (.inl oc1.h) (.inr z), ?_⟩
  rw [DicR.isSome tc1]
  have hcx : x ≠ c := own_ne ox oc (fun z => by cases z)
  have fin : ∀ v, Ext (One c) v1 v → Own v c (.dK (putK kc (.inr z) x2)) → Q .non v.H := fun v e o => by
    refine k v ((e1.more fun _ z => z.elim).trans (e.more fun b hb => .inr ((hcs b).mpr (.inr (.inl hb))))) ⟨x, dx, c, l, b, _, kl, bs, rfl, ox1.ext e hcx, o, TbA.go e (DicR.put tc1 ⟨hT1, hok⟩), ol1.ext e (fun h => hcl h.symm), EnA.go e tl1, ob1.ext e (own_ne ob oc (fun z => by cases z)), rb1.go e, hcl, hcs⟩
  cases hg : (getT L.T z).isSome with
  | true =>
    ((with_reducible refine s_bl ?_); (with_reducible refine ite_nt ?_); (with_reducible refine ite_ff ?_); (with_reducible refine s_next ?_); (with_reducible refine s_dput ?_); (with_reducible refine' s_var ?q179 ?q180); (case q179 => exact rfl); (with_reducible refine s_fld ?_); (with_reducible refine' s_var ?q181 ?q182); (case q181 => exact rfl); (with_reducible refine' s_rfld ?q183 ?q184 ?q185 ?q186 ?q187); (case q183 => refine' Own.h ?q190; (case q190 => assumption)); (case q184 => assumption); (case q185 => assumption); (case q186 => exact lk_hd); (with_reducible refine' s_var ?q191 ?q192); (case q191 => exact rfl))
    refine s_dputS oc1 rfl (by rw [sizeLine_eq]; omega) fun v e o => ?_
    exact fin v e o
  | false =>
    have h6 : L.T.length < 6 := by
      rcases hs with h | h
      · rw [hg] at h; cases h
      · exact h
    ((with_reducible refine s_bl ?_); (with_reducible refine ite_nf ?_); (with_reducible refine s_test ?_); (with_reducible refine s_op ?_); (with_reducible refine s_CB ?_); (with_reducible refine s_cons ?_); (with_reducible refine s_fld ?_); (with_reducible refine' s_var ?q200 ?q201); (case q200 => exact rfl); (with_reducible refine' s_rfld ?q202 ?q203 ?q204 ?q205 ?q206); (case q202 => refine' Own.h ?q209; (case q209 => assumption)); (case q203 => assumption); (case q204 => assumption); (case q205 => exact lk_hd); (with_reducible refine s_nil ?_))
    refine s_lenDK oc1.h ?_
    ((with_reducible refine s_c ?_); (with_reducible refine s_ge ?_); (with_reducible refine s_bl ?_))
    refine ite_d (fun h => ?_) (fun h => ?_)
    · exfalso
      rw [hkl] at h
      omega
    ((with_reducible refine s_next ?_); (with_reducible refine s_dput ?_); (with_reducible refine' s_var ?q210 ?q211); (case q210 => exact rfl); (with_reducible refine s_fld ?_); (with_reducible refine' s_var ?q212 ?q213); (case q212 => exact rfl); (with_reducible refine' s_rfld ?q214 ?q215 ?q216 ?q217 ?q218); (case q214 => refine' Own.h ?q221; (case q221 => assumption)); (case q215 => assumption); (case q216 => assumption); (case q217 => exact lk_hd); (with_reducible refine' s_var ?q222 ?q223); (case q222 => exact rfl))
    refine s_dputS oc1 rfl (by rw [sizeLine_eq]; omega) fun v e o => ?_
    exact fin v e o
abbrev nm_Log_put : List Str := ["self", "entry", "place"]
theorem sc_Log_put : FnScope nm_Log_put ["self", "entry"] (defScope s_Log_put) := ⟨rfl, rfl, rfl, by decide +kernel, rfl, by decide +kernel, by decide +kernel⟩
theorem st_Log_put (a b : V) : start nm_Log_put [a, b] = [some a, some b, none] := rfl
def p_Log_put (K : PySem.W.Frag) (ec : EC) (CL CT : Addr) (w : Wd) (a b : V) (Q : VK) (_ : XK) : Prop := ∃ L cs e, LogO K ec CL CT w a L cs ∧ SimS K ec w.S b e ∧ e.ok ∧ getT L.E e.n = none ∧ (placed e.k → ∃ R, getT L.T e.p = some R) ∧ L.E.length < 60 ∧
  ∀ v, Ext cs w v → LogO K ec CL CT v a { L with E := L.E ++ [(e.n, e)] } cs → Q .non v.H
theorem ok_Log_put {f : Addr} {fd : FuncData} {C_Entry C_Within C_At C_Between C_Table C_Read C_Log C_LogError C_NoEntry C_NoMoment C_NoName C_NoPlace C_NoReading : Addr} (F : Fun K "put" "Log.put" s_Log_put f fd) (T : Txt K mg C_Entry C_Within C_At C_Between C_Table C_Read C_Log C_LogError C_NoEntry C_NoMoment C_NoName C_NoPlace C_NoReading)  (d_places : MthD P ww K mg base (L2.CX P ww) simple (EC.of (EC.mk C_Entry C_Within C_At C_Between C_Read C_Entry C_Entry)) 1 "places" (fun k => pr1 (pE_places K (EC.mk C_Entry C_Within C_At C_Between C_Read C_Entry C_Entry) k))) : FnOk P ww K mg base CX0 2 f fd ["self", "entry"] (pr2 (p_Log_put K (EC.mk C_Entry C_Within C_At C_Between C_Read C_Entry C_Entry) C_Log C_Table)) := by
  refine F.ok sc_Log_put (fun vs H Q E h => len2 h) (fun cdv A outer s H vs Q E hr h => ?_)
  obtain ⟨w, x0, x1,  rfl, rfl, h⟩ := h
  have ekT := ek_T T
  have cl_Table := T.cl_Table
  have na_Table_kept_rows := T.na_Table_kept_rows
  have cl_Log := T.cl_Log
  have na_Log_bound := T.na_Log_bound
  have na_Log_clocks := T.na_Log_clocks
  have na_Log_line := T.na_Log_line
  have na_Log_name := T.na_Log_name
  have oex_NoEntry := T.oex_NoEntry; have xf_NoEntry := T.xf_NoEntry; have ec_NoEntry := T.ec_NoEntry; have xn_NoEntry := T.xn_NoEntry
  have oex_NoMoment := T.oex_NoMoment; have xf_NoMoment := T.xf_NoMoment; have ec_NoMoment := T.ec_NoMoment; have xn_NoMoment := T.xn_NoMoment
  have oex_NoName := T.oex_NoName; have xf_NoName := T.xf_NoName; have ec_NoName := T.ec_NoName; have xn_NoName := T.xn_NoName
  have oex_NoPlace := T.oex_NoPlace; have xf_NoPlace := T.xf_NoPlace; have ec_NoPlace := T.ec_NoPlace; have xn_NoPlace := T.xn_NoPlace
  have oex_NoReading := T.oex_NoReading; have xf_NoReading := T.xf_NoReading; have ec_NoReading := T.ec_NoReading; have xn_NoReading := T.xn_NoReading
  have rel_NoEntry_NoEntry := T.rel_NoEntry_NoEntry
  have exm_NoEntry_NoEntry := T.exm_NoEntry_NoEntry
  refine ⟨_, (pss_cons (ps_if (pt_not (pt_val (pe_callB (kIsi K) (by rfl) T.n_isinstance (by decide +kernel) (pa_cons (pv 1) (pa_cons (pe_glob (v := .ref C_Entry) (u := .ref C_Entry) rfl T.g_Entry rfl) pa_nil))))) (pss_one ps_no) pss_nil)
      (pss_cons (ps_if (pt_cmp (pc_din (hu_of hr) (pe_fld (pv 1) rfl) (pe_fld (pv 0) rfl)) (by rfl)) (pss_one ps_no) pss_nil)
      (pss_cons (ps_for PassesOwn.never rfl (kpList K (pe_mthD0 takes0 d_places hr (by decide) (pv 1))) (pg_name (i := 2) sc_Log_put.nd rfl (Or.inl rfl)) (pss_one (ps_if (pt_cmp (pc_dnotin (hu_of hr) (pv 2) (pe_fld (pv 0) rfl)) (by rfl)) (pss_one ps_no) pss_nil)))
      (pss_cons (ps_if (pt_cmpR g_ge (pe_callB kLenD (by rfl) T.n_len (by decide +kernel) (pa_cons (pe_fld (pv 0) rfl) pa_nil)) (pe_gco rfl T.c_MOST_ENTRIES) (nomark _)) (pss_one ps_no) pss_nil)
      (pss_one (ps_dput (hu_of hr) (pe_fld (pv 0) rfl) (pe_fld (pv 1) rfl) (pv 1) rfl)))))), ?_⟩
  rw [st_Log_put]
  obtain ⟨L, cs, e, hL, hS, hok, hg, hp, hl, k⟩ := h
  obtain ⟨x, dx, c, l, b, kc, kl, bs, rfl, ox, oc, tc, ol, tl, ob, rb, hcl, hcs⟩ := id hL
  obtain ⟨_, xe, dxe, rfl, sxe⟩ := id hS
  have ecl := ekT.cl e.k hok.1
  have hxe := w.ok _ _ sxe
  have hnm : (fldS e).lookup ("name" : Str) = some (.str e.n) := by
    obtain ⟨kd, n, p, lo, hi⟩ := e
    have hs := hok.1
    cases kd <;> first | exact hs.elim | exact (by (exact lk_hd))
  have hki : PySem.W.kitOne K (.ref ((EC.mk C_Entry C_Within C_At C_Between C_Read C_Entry C_Entry).of e.k)) (.ref C_Entry) = some true := by
    have := ekT.kit e.k .any hok.1 trivial
    rw [show subK e.k .any = true by cases e.k <;> rfl] at this
    exact this
  ((with_reducible refine s_seq ?_); (with_reducible refine s_ifS ?_); (with_reducible refine s_not ?_); (with_reducible refine s_B ?_); (with_reducible refine s_CB ?_); (with_reducible refine s_cons ?_); (with_reducible refine' s_var ?q228 ?q229); (case q228 => exact rfl); (with_reducible refine s_cons ?_); (with_reducible refine s_c ?_); (with_reducible refine s_nil ?_))
  refine s_isiCC hxe ecl.cl ecl.ci hki ?_
  ((with_reducible refine s_bl ?_); (with_reducible refine ite_nt ?_); (with_reducible refine s_next ?_); (with_reducible refine s_seq ?_); (with_reducible refine s_ifS ?_); (with_reducible refine s_B ?_))
  unfold tDIn
  ((with_reducible refine s_fld ?_); (with_reducible refine' s_var ?q249 ?q250); (case q249 => exact rfl))
  refine s_rfld hxe ecl.cl ecl.name hnm ?_
  ((with_reducible refine s_fld ?_); (with_reducible refine' s_var ?q257 ?q258); (case q257 => exact rfl); (with_reducible refine' s_rfld ?q259 ?q260 ?q261 ?q262 ?q263); (case q259 => refine' Own.h ?q265; (case q265 => assumption)); (case q260 => assumption); (case q261 => assumption); (case q262 => refine' lk_tl ?q266 ?q267; (case q266 => decide +kernel); (case q267 => exact lk_hd)))
  refine ⟨l, _, rfl, dgetR (.inl ol.h) (.inr e.n), ?_⟩
  rw [DicR.isSome tl, show (getT L.E e.n).isSome = false by rw [hg]; rfl]
  ((with_reducible refine s_bl ?_); (with_reducible refine ite_ff ?_); (with_reducible refine s_next ?_); (with_reducible refine s_seq ?_); (with_reducible refine s_for ?_); (with_reducible refine s_iList ?_); (with_reducible refine s_methD ?_); (with_reducible refine' s_var ?q274 ?q275); (case q274 => exact rfl))
  refine s_rmethD e.k hok.1 hxe (fld_spans e).2.2 ?_
  ((with_reducible refine s_nil ?_); (with_reducible refine s_pq1 ?_))
  refine ⟨e, rfl, hS, fun v1 r1 e1 n1 o1 => ?_⟩
  have hkl := DicR.len tl
  (refine' ⟨ _ , rfl , ⟨ _ , ?q278 ⟩ , ?q279 ⟩; (case q278 => refine' SqL.of ( Own.h ?q282 ); (case q282 => assumption)))
  refine forW (ww_list (xs := plV e)) (fun i σ u => Ext Non v1 u ∧ ∃ g, σ = [some (.ref x), some (.ref xe), g]) ⟨Ext.refl _ _, _, rfl⟩ (fun i σ u _ h => SqL.of (Own.h (o1.ext h.1 fun z => z))) ?_ ?_
  · rintro i y σ _ u hi ⟨eu, g, rfl⟩ ⟨rfl, hy⟩
    have hpl : placed e.k := by
      by_cases h : placed e.k
      · exact h
      · unfold plV at hi; rw [if_neg h] at hi; exact absurd hi (by simp)
    have hye : y = .str e.p := by
      unfold plV at hy
      rw [if_pos hpl] at hy
      have := List.mem_of_getElem? hy
      simpa using this
    subst hye
    obtain ⟨R, hR⟩ := hp hpl
    have e1u := e1.trans eu
    have oxu := ox.ext e1u fun z => z
    have ocu := oc.ext e1u fun z => z
    ((with_reducible refine' s_gname ?q283 ?q284); (case q283 => simp only [ List.set_cons_succ , List.set_cons_zero ]; exact rfl); (with_reducible refine s_ifS ?_); (with_reducible refine s_B ?_))
    unfold tDNotIn
    ((with_reducible refine' s_var ?q288 ?q289); (case q288 => exact rfl); (with_reducible refine s_fld ?_); (with_reducible refine' s_var ?q290 ?q291); (case q290 => exact rfl); (with_reducible refine' s_rfld ?q292 ?q293 ?q294 ?q295 ?q296); (case q292 => refine' Own.h ?q299; (case q299 => assumption)); (case q293 => assumption); (case q294 => assumption); (case q295 => exact lk_hd))
    refine ⟨c, _, rfl, dgetR (.inl ocu.h) (.inr e.p), ?_⟩
    rw [DicR.isSome tc, hR, show (!(some R).isSome) = false from rfl]
    ((with_reducible refine s_bl ?_); (with_reducible refine ite_ff ?_); (with_reducible refine s_next ?_); (with_reducible refine wds_i ?_))
    exact ⟨eu, _, rfl⟩
  · rintro σ u ⟨eu, g, rfl⟩
    have e1u := e1.trans eu
    have oxu := ox.ext e1u fun z => z
    have ocu := oc.ext e1u fun z => z
    have olu := ol.ext e1u fun z => z
    have obu := ob.ext e1u fun z => z
    have hxu := u.ok _ _ (st_go e1u sxe)
    ((with_reducible refine s_seq ?_); (with_reducible refine s_ifS ?_); (with_reducible refine s_test ?_); (with_reducible refine s_op ?_); (with_reducible refine s_CB ?_); (with_reducible refine s_cons ?_); (with_reducible refine s_fld ?_); (with_reducible refine' s_var ?q306 ?q307); (case q306 => exact rfl); (with_reducible refine' s_rfld ?q308 ?q309 ?q310 ?q311 ?q312); (case q308 => refine' Own.h ?q315; (case q315 => assumption)); (case q309 => assumption); (case q310 => assumption); (case q311 => refine' lk_tl ?q316 ?q317; (case q316 => decide +kernel); (case q317 => exact lk_hd)); (with_reducible refine s_nil ?_))
    refine s_lenDK olu.h ?_
    ((with_reducible refine s_c ?_); (with_reducible refine s_ge ?_); (with_reducible refine s_bl ?_))
    refine ite_d (fun h => ?_) (fun h => ?_)
    · exfalso
      rw [hkl] at h
      omega
    ((with_reducible refine s_next ?_); (with_reducible refine s_dput ?_); (with_reducible refine' s_var ?q318 ?q319); (case q318 => exact rfl); (with_reducible refine s_fld ?_); (with_reducible refine' s_var ?q320 ?q321); (case q320 => exact rfl); (with_reducible refine' s_rfld ?q322 ?q323 ?q324 ?q325 ?q326); (case q322 => refine' Own.h ?q329; (case q329 => assumption)); (case q323 => assumption); (case q324 => assumption); (case q325 => refine' lk_tl ?q330 ?q331; (case q330 => decide +kernel); (case q331 => exact lk_hd)); (with_reducible refine s_fld ?_); (with_reducible refine' s_var ?q332 ?q333); (case q332 => exact rfl))
    refine s_rfld hxu ecl.cl ecl.name hnm ?_
    refine s_dputS olu rfl (by rw [sizeLine_eq]; omega) fun v e5 o5 => ?_
    have tlu := EnA.go e1u tl
    have htl := DicR.putN tlu hg ⟨hS.go e1u, hok⟩
    exact k v ((e1u.more fun _ z => z.elim).trans (e5.more fun b hb => .inr ((hcs b).mpr (.inr (.inr (.inl hb)))))) ⟨x, dx, c, l, b, kc, _, bs, rfl, oxu.ext e5 (own_ne ox ol (fun z => by cases z)), ocu.ext e5 hcl, TbA.go e5 (TbA.go e1u tc), o5, EnA.go e5 htl, obu.ext e5 (own_ne ob ol (fun z => by cases z)), (rb.go e1u).go e5, hcl, hcs⟩
abbrev nm_Log_bind : List Str := ["self", "later", "earlier", "minutes"]
theorem sc_Log_bind : FnScope nm_Log_bind ["self", "later", "earlier", "minutes"] (defScope s_Log_bind) := ⟨rfl, rfl, rfl, by decide +kernel, rfl, by decide +kernel, by decide +kernel⟩
theorem st_Log_bind (a b c d : V) : start nm_Log_bind [a, b, c, d] = [some a, some b, some c, some d] := rfl
def p_Log_bind (K : PySem.W.Frag) (ec : EC) (CL CT N : Addr) (w : Wd) (a b c d : V) (Q : VK) (E : XK) : Prop := ∃ L cs z y, ∃ m : Int, LogO K ec CL CT w a L cs ∧ b = .str z ∧ c = .str y ∧ d = .int m ∧ (getT L.E z = none → Rz Non w N b E) ∧ ((∃ e, getT L.E z = some e) → (∃ e, getT L.E y = some e) ∧ -2000000000 ≤ m ∧ m ≤ 2000000001 ∧ L.B.length < 100 ∧
  ∀ v, Ext cs w v → LogO K ec CL CT v a { L with B := L.B ++ [(z, y, m)] } cs → Q (.int L.B.length) v.H)
theorem ok_Log_bind {f : Addr} {fd : FuncData} {C_Entry C_Within C_At C_Between C_Table C_Read C_Log C_LogError C_NoEntry C_NoMoment C_NoName C_NoPlace C_NoReading : Addr} (F : Fun K "bind" "Log.bind" s_Log_bind f fd) (T : Txt K mg C_Entry C_Within C_At C_Between C_Table C_Read C_Log C_LogError C_NoEntry C_NoMoment C_NoName C_NoPlace C_NoReading) (c_Log_entry : Mth P ww K mg base (L2.CX P ww) C_Log 3 "entry" (pr2 (p_Log_entry K (EC.mk C_Entry C_Within C_At C_Between C_Read C_Entry C_Entry) C_Log C_Table C_NoEntry))) (c_is_minutes : Fnc P ww K mg base CX0 2 "is_minutes" (pr1 (p_is_minutes))) : FnOk P ww K mg base (L2.CX P ww) 4 f fd ["self", "later", "earlier", "minutes"] (pr4 (p_Log_bind K (EC.mk C_Entry C_Within C_At C_Between C_Read C_Entry C_Entry) C_Log C_Table C_NoEntry)) := by
  refine F.okX sc_Log_bind (fun vs H Q E h => len4 h) (fun cdv A outer s H vs Q E hr h => ?_)
  obtain ⟨w, x0, x1, x2, x3,  rfl, rfl, h⟩ := h
  have ekT := ek_T T
  have cl_Table := T.cl_Table
  have na_Table_kept_rows := T.na_Table_kept_rows
  have cl_Log := T.cl_Log
  have na_Log_bound := T.na_Log_bound
  have na_Log_clocks := T.na_Log_clocks
  have na_Log_line := T.na_Log_line
  have na_Log_name := T.na_Log_name
  have oex_NoEntry := T.oex_NoEntry; have xf_NoEntry := T.xf_NoEntry; have ec_NoEntry := T.ec_NoEntry; have xn_NoEntry := T.xn_NoEntry
  have oex_NoMoment := T.oex_NoMoment; have xf_NoMoment := T.xf_NoMoment; have ec_NoMoment := T.ec_NoMoment; have xn_NoMoment := T.xn_NoMoment
  have oex_NoName := T.oex_NoName; have xf_NoName := T.xf_NoName; have ec_NoName := T.ec_NoName; have xn_NoName := T.xn_NoName
  have oex_NoPlace := T.oex_NoPlace; have xf_NoPlace := T.xf_NoPlace; have ec_NoPlace := T.ec_NoPlace; have xn_NoPlace := T.xn_NoPlace
  have oex_NoReading := T.oex_NoReading; have xf_NoReading := T.xf_NoReading; have ec_NoReading := T.ec_NoReading; have xn_NoReading := T.xn_NoReading
  have rel_NoEntry_NoEntry := T.rel_NoEntry_NoEntry
  have exm_NoEntry_NoEntry := T.exm_NoEntry_NoEntry
  refine ⟨_, (pss_cons (ps_expr (pe_mthX (takes_of rfl rfl rfl rfl) c_Log_entry T.cl_Log hr (by decide) (pv 0) (pa_cons (pv 1) pa_nil)))
      (pss_cons (ps_expr (pe_mthX (takes_of rfl rfl rfl rfl) c_Log_entry T.cl_Log hr (by decide) (pv 0) (pa_cons (pv 2) pa_nil)))
      (pss_cons (ps_if (pt_not (pt_val (pe_fn c_is_minutes hr (by decide) pass0 (pa_cons (pv 3) pa_nil)))) (pss_one ps_no) pss_nil)
      (pss_cons (ps_if (pt_cmpR g_ge (pe_callB (kLen K) (by rfl) T.n_len (by decide +kernel) (pa_cons (pe_fld (pv 0) rfl) pa_nil)) (pe_gco rfl T.c_MOST_BONDS) (nomark _)) (pss_one ps_no) pss_nil)
      (pss_cons (ps_expr (pe_bm PySem.F.plainAttrs_list PySem.F.slot_list_append PySem.F.type_list_append mt_append (pe_fld (pv 0) rfl) (pa_cons (pe_tup (pa_cons (pv 1) (pa_cons (pv 2) (pa_cons (pv 3) pa_nil)))) pa_nil)))
      (pss_one (ps_ret (pe_op g_sub (pe_callB (kLen K) (by rfl) T.n_len (by decide +kernel) (pa_cons (pe_fld (pv 0) rfl) pa_nil)) pe_int)))))))), ?_⟩
  rw [st_Log_bind]
  obtain ⟨L, cs, z, y, m, hL, rfl, rfl, rfl, kr, kk⟩ := h
  obtain ⟨x, dx, c0, l0, b0, kc0, kl0, bs0, rfl, ox0, oc0, tc0, ol0, tl0, ob0, rb0, hcl0, hcs0⟩ := id hL
  ((with_reducible refine s_seq ?_); (with_reducible refine s_drop ?_); (with_reducible refine s_methX ?_); (with_reducible refine' s_var ?q0 ?q1); (case q0 => exact rfl); (with_reducible refine' s_rmeth ?q2 ?q3 ?q4); (case q2 => refine' Own.h ?q6; (case q6 => assumption)); (case q3 => refine' lk_tl ?q7 ?q8; (case q7 => decide +kernel); (case q8 => refine' lk_tl ?q9 ?q10; (case q9 => decide +kernel); (case q10 => refine' lk_tl ?q11 ?q12; (case q11 => decide +kernel); (case q12 => exact lk_nil)))); (with_reducible refine s_cons ?_); (with_reducible refine' s_var ?q13 ?q14); (case q13 => exact rfl); (with_reducible refine s_nil ?_); (with_reducible refine s_pm2 ?_))
  cases hez : getT L.E z with
  | none => exact ⟨L, cs, .str z, hL, .str z, fun z' e' hz' he' => (by cases hz'; rw [hez] at he'; cases he'), fun _ => kr hez⟩
  | some ez =>
  obtain ⟨⟨ey, hey⟩, hm0, hm1, hl, k⟩ := kk ⟨ez, hez⟩
  refine ⟨L, cs, .str z, hL, .str z, fun z' e' hz' he' v1 y1 e1 hS1 _ => ?_, fun h => by have := h z rfl; rw [hez] at this; cases this⟩
  have hL1 := hL.go0 e1
  have ox1 := ox0.ext e1 fun z => z
  ((with_reducible refine s_seq ?_); (with_reducible refine s_drop ?_); (with_reducible refine s_methX ?_); (with_reducible refine' s_var ?q15 ?q16); (case q15 => exact rfl); (with_reducible refine' s_rmeth ?q17 ?q18 ?q19); (case q17 => refine' Own.h ?q22; (case q22 => assumption)); (case q18 => refine' lk_tl ?q23 ?q24; (case q23 => decide +kernel); (case q24 => refine' lk_tl ?q25 ?q26; (case q25 => decide +kernel); (case q26 => refine' lk_tl ?q27 ?q28; (case q27 => decide +kernel); (case q28 => exact lk_nil)))); (with_reducible refine s_cons ?_); (with_reducible refine' s_var ?q29 ?q30); (case q29 => exact rfl); (with_reducible refine s_nil ?_); (with_reducible refine s_pm2 ?_))
  refine ⟨L, cs, .str y, hL1, .str y, fun z' e' hz' he' v2 y2 e2 hS2 _ => ?_, fun h => by have := h y rfl; rw [hey] at this; cases this⟩
  have hL2 := hL1.go0 e2
  have ox2 := ox1.ext e2 fun z => z
  ((with_reducible refine s_seq ?_); (with_reducible refine s_ifS ?_); (with_reducible refine s_not ?_); (with_reducible refine s_B ?_); (with_reducible refine s_call ?_); (with_reducible refine s_cons ?_); (with_reducible refine' s_var ?q31 ?q32); (case q31 => exact rfl); (with_reducible refine s_nil ?_); (with_reducible refine s_pr1 ?_))
  refine ⟨.int m, .int m, fun v3 e3 => ?_⟩
  rw [show wholeB (.int m) (-2000000000) 2000000001 = true by unfold wholeB; simp; omega]
  have hL3 := hL2.go0 e3
  obtain ⟨_, dx, c, l, b, kc, kl, bs, hx, ox, oc, tc, ol, tl, ob, rb, hcl, hcs⟩ := id hL3
  cases hx
  have hbl := rb.length
  rw [List.length_map] at hbl
  ((with_reducible refine s_bl ?_); (with_reducible refine ite_nt ?_); (with_reducible refine s_next ?_); (with_reducible refine s_seq ?_); (with_reducible refine s_ifS ?_); (with_reducible refine s_test ?_); (with_reducible refine s_op ?_); (with_reducible refine s_CB ?_); (with_reducible refine s_cons ?_); (with_reducible refine s_fld ?_); (with_reducible refine' s_var ?q36 ?q37); (case q36 => exact rfl); (with_reducible refine' s_rfld ?q38 ?q39 ?q40 ?q41 ?q42); (case q38 => refine' Own.h ?q47; (case q47 => assumption)); (case q39 => assumption); (case q40 => assumption); (case q41 => refine' lk_tl ?q48 ?q49; (case q48 => decide +kernel); (case q49 => refine' lk_tl ?q50 ?q51; (case q50 => decide +kernel); (case q51 => exact lk_hd))); (with_reducible refine s_nil ?_); (with_reducible refine' s_lenO ?q62 ?q63); (case q62 => assumption); (with_reducible refine s_c ?_); (with_reducible refine s_ge ?_); (with_reducible refine s_bl ?_))
  refine ite_d (fun h => ?_) (fun h => ?_)
  · exfalso
    omega
  ((with_reducible refine s_next ?_); (with_reducible refine s_seq ?_); (with_reducible refine s_drop ?_); (with_reducible refine s_BM ?_); (with_reducible refine s_fld ?_); (with_reducible refine' s_var ?q64 ?q65); (case q64 => exact rfl); (with_reducible refine' s_rfld ?q66 ?q67 ?q68 ?q69 ?q70); (case q66 => refine' Own.h ?q75; (case q75 => assumption)); (case q67 => assumption); (case q68 => assumption); (case q69 => refine' lk_tl ?q76 ?q77; (case q76 => decide +kernel); (case q77 => refine' lk_tl ?q78 ?q79; (case q78 => decide +kernel); (case q79 => exact lk_hd))); (with_reducible refine' s_ty ?q80 ?q81); (case q80 => assumption); (with_reducible refine s_cons ?_); (with_reducible refine t_tup ?_); (with_reducible refine s_cons ?_); (with_reducible refine' s_var ?q82 ?q83); (case q82 => exact rfl); (with_reducible refine s_cons ?_); (with_reducible refine' s_var ?q84 ?q85); (case q84 => exact rfl); (with_reducible refine s_cons ?_); (with_reducible refine' s_var ?q86 ?q87); (case q86 => exact rfl); (with_reducible refine s_nil ?_); (with_reducible refine' t_newT ?q88 ?q89); (case q88 => simp only [ List.length , sizeLine_eq ]; omega); intro _ _ _ _ _; (with_reducible refine s_nil ?_); (with_reducible refine' s_app ?q90 ?q91 ?q92); (case q90 => refine' Own.ext ( by assumption ) ?q93 ?q94; (case q93 => exact fun h => h); (case q94 => assumption)); (case q91 => simp only [ List.length_append , List.length_cons , List.length_nil , List.length_map , List.length_reverse , List.length_replicate , sizeLine_eq ]; omega); intro _ _ _; (with_reducible refine s_ret ?_); (with_reducible refine s_op ?_); (with_reducible refine s_CB ?_); (with_reducible refine s_cons ?_); (with_reducible refine s_fld ?_); (with_reducible refine' s_var ?q95 ?q96); (case q95 => exact rfl); (with_reducible refine' s_rfld ?q97 ?q98 ?q99 ?q100 ?q101); (case q97 => refine' Own.h ?q108; (case q108 => refine' Own.ext ( by assumption ) ?q109 ?q110; (case q109 => refine nm_one ?_; refine' own_ne ?q115 ?q116 ?q117; (case q115 => assumption); (case q116 => assumption); (case q117 => exact fun z => by cases z)); (case q110 => refine' Own.ext ( by assumption ) ?q118 ?q119; (case q118 => exact fun h => h); (case q119 => assumption)))); (case q98 => assumption); (case q99 => assumption); (case q100 => refine' lk_tl ?q120 ?q121; (case q120 => decide +kernel); (case q121 => refine' lk_tl ?q122 ?q123; (case q122 => decide +kernel); (case q123 => exact lk_hd))); (with_reducible refine s_nil ?_); (with_reducible refine' s_lenO ?q138 ?q139); (case q138 => assumption); (with_reducible refine s_c ?_); (with_reducible refine s_sub ?_))
  rename_i p1 u1 f1 n1 s1 u2 f2 o2
  have e4 : Ext (One b) v3 u2 := (f1.more fun _ z => z.elim).trans f2
  have hr : (V.int (((bs ++ [V.ref p1]).length : Int) - 1)) = V.int L.B.length := by rw [List.length_append, hbl]; simp
  show Q (V.int (((bs ++ [V.ref p1]).length : Int) - 1)) _
  rw [hr]
  refine k u2 ((((e1.trans e2).trans e3).more fun _ z => z.elim).trans (e4.more fun y hy => .inr ((hcs y).mpr (.inr (.inr (.inr hy)))))) ⟨x, dx, c, l, b, kc, kl, bs ++ [.ref p1], rfl, ox.ext e4 (own_ne ox ob (fun z => by cases z)), oc.ext e4 (own_ne oc ob (fun z => by cases z)), TbA.go e4 tc, ol.ext e4 (own_ne ol ob (fun z => by cases z)), EnA.go e4 tl, o2, ?_, hcl, hcs⟩
  rw [List.map_append]
  exact (rb.go e4).append (.cons (.tup (st_go f2 s1) (.cons (.str _) (.cons (.str _) (.cons (.int _) .nil)))) .nil)
abbrev nm_Log_unbind : List Str := ["self", "number"]
theorem sc_Log_unbind : FnScope nm_Log_unbind ["self", "number"] (defScope s_Log_unbind) := ⟨rfl, rfl, rfl, by decide +kernel, rfl, by decide +kernel, by decide +kernel⟩
theorem st_Log_unbind (a b : V) : start nm_Log_unbind [a, b] = [some a, some b] := rfl
def p_Log_unbind (K : PySem.W.Frag) (ec : EC) (CL CT : Addr) (w : Wd) (a b : V) (Q : VK) (_ : XK) : Prop := ∃ L cs, ∃ i : Nat, LogO K ec CL CT w a L cs ∧ b = .int (i : Int) ∧ i < L.B.length ∧ L.B.length < 200 ∧ ∀ v, Ext cs w v → LogO K ec CL CT v a { L with B := L.B.eraseIdx i } cs → Q .non v.H
theorem ok_Log_unbind {f : Addr} {fd : FuncData} {C_Entry C_Within C_At C_Between C_Table C_Read C_Log C_LogError C_NoEntry C_NoMoment C_NoName C_NoPlace C_NoReading : Addr} (F : Fun K "unbind" "Log.unbind" s_Log_unbind f fd) (T : Txt K mg C_Entry C_Within C_At C_Between C_Table C_Read C_Log C_LogError C_NoEntry C_NoMoment C_NoName C_NoPlace C_NoReading) (c_is_whole : Fnc P ww K mg base CX0 1 "is_whole" (pr3 (p_is_whole))) : FnOk P ww K mg base CX0 2 f fd ["self", "number"] (pr2 (p_Log_unbind K (EC.mk C_Entry C_Within C_At C_Between C_Read C_Entry C_Entry) C_Log C_Table)) := by
  refine F.ok sc_Log_unbind (fun vs H Q E h => len2 h) (fun cdv A outer s H vs Q E hr h => ?_)
  obtain ⟨w, x0, x1,  rfl, rfl, h⟩ := h
  have ekT := ek_T T
  have cl_Table := T.cl_Table
  have na_Table_kept_rows := T.na_Table_kept_rows
  have cl_Log := T.cl_Log
  have na_Log_bound := T.na_Log_bound
  have na_Log_clocks := T.na_Log_clocks
  have na_Log_line := T.na_Log_line
  have na_Log_name := T.na_Log_name
  have oex_NoEntry := T.oex_NoEntry; have xf_NoEntry := T.xf_NoEntry; have ec_NoEntry := T.ec_NoEntry; have xn_NoEntry := T.xn_NoEntry
  have oex_NoMoment := T.oex_NoMoment; have xf_NoMoment := T.xf_NoMoment; have ec_NoMoment := T.ec_NoMoment; have xn_NoMoment := T.xn_NoMoment
  have oex_NoName := T.oex_NoName; have xf_NoName := T.xf_NoName; have ec_NoName := T.ec_NoName; have xn_NoName := T.xn_NoName
  have oex_NoPlace := T.oex_NoPlace; have xf_NoPlace := T.xf_NoPlace; have ec_NoPlace := T.ec_NoPlace; have xn_NoPlace := T.xn_NoPlace
  have oex_NoReading := T.oex_NoReading; have xf_NoReading := T.xf_NoReading; have ec_NoReading := T.ec_NoReading; have xn_NoReading := T.xn_NoReading
  have rel_NoEntry_NoEntry := T.rel_NoEntry_NoEntry
  have exm_NoEntry_NoEntry := T.exm_NoEntry_NoEntry
  refine ⟨_, (pss_cons (ps_if (pt_not (pt_val (pe_fn c_is_whole hr (by decide) pass0 (pa_cons (pv 1) (pa_cons pe_int (pa_cons (pe_op g_sub (pe_callB (kLen K) (by rfl) T.n_len (by decide +kernel) (pa_cons (pe_fld (pv 0) rfl) pa_nil)) pe_int) pa_nil)))))) (pss_one ps_no) pss_nil)
      (pss_one (ps_expr (pe_bm PySem.F.plainAttrs_list PySem.F.slot_list_pop PySem.F.type_list_pop mt_popAt (pe_fld (pv 0) rfl) (pa_cons (pv 1) pa_nil))))), ?_⟩
  rw [st_Log_unbind]
  obtain ⟨L, cs, i, hL, rfl, hi, hl, k⟩ := h
  obtain ⟨x, dx, c, l, b, kc, kl, bs, rfl, ox, oc, tc, ol, tl, ob, rb, hcl, hcs⟩ := id hL
  have hbl := rb.length
  rw [List.length_map] at hbl
  ((with_reducible refine s_seq ?_); (with_reducible refine s_ifS ?_); (with_reducible refine s_not ?_); (with_reducible refine s_B ?_); (with_reducible refine s_call ?_); (with_reducible refine s_cons ?_); (with_reducible refine' s_var ?q140 ?q141); (case q140 => exact rfl); (with_reducible refine s_cons ?_); (with_reducible refine s_c ?_); (with_reducible refine s_cons ?_); (with_reducible refine s_op ?_); (with_reducible refine s_CB ?_); (with_reducible refine s_cons ?_); (with_reducible refine s_fld ?_); (with_reducible refine' s_var ?q142 ?q143); (case q142 => exact rfl); (with_reducible refine' s_rfld ?q144 ?q145 ?q146 ?q147 ?q148); (case q144 => refine' Own.h ?q150; (case q150 => assumption)); (case q145 => assumption); (case q146 => assumption); (case q147 => refine' lk_tl ?q151 ?q152; (case q151 => decide +kernel); (case q152 => refine' lk_tl ?q153 ?q154; (case q153 => decide +kernel); (case q154 => exact lk_hd))); (with_reducible refine s_nil ?_); (with_reducible refine' s_lenO ?q159 ?q160); (case q159 => assumption); (with_reducible refine s_c ?_); (with_reducible refine s_sub ?_); (with_reducible refine s_nil ?_); (with_reducible refine s_pr3 ?_))
  refine ⟨.int i, 0, (bs.length : Int) - 1, .int _, rfl, rfl, fun v1 e1 => ?_⟩
  rw [show wholeB (.int (i : Int)) 0 ((bs.length : Int) - 1) = true by unfold wholeB; simp; omega]
  have ob1 := ob.ext e1 fun z => z
  have ox1 := ox.ext e1 fun z => z
  ((with_reducible refine s_bl ?_); (with_reducible refine ite_nt ?_); (with_reducible refine s_next ?_); (with_reducible refine s_drop ?_); (with_reducible refine s_BM ?_); (with_reducible refine s_fld ?_); (with_reducible refine' s_var ?q164 ?q165); (case q164 => exact rfl); (with_reducible refine' s_rfld ?q166 ?q167 ?q168 ?q169 ?q170); (case q166 => refine' Own.h ?q173; (case q173 => assumption)); (case q167 => assumption); (case q168 => assumption); (case q169 => refine' lk_tl ?q174 ?q175; (case q174 => decide +kernel); (case q175 => refine' lk_tl ?q176 ?q177; (case q176 => decide +kernel); (case q177 => exact lk_hd))); (with_reducible refine' s_ty ?q178 ?q179); (case q178 => assumption); (with_reducible refine s_cons ?_); (with_reducible refine' s_var ?q180 ?q181); (case q180 => exact rfl); (with_reducible refine s_nil ?_))
  have hbi : i < bs.length := by omega
  refine s_popA ob1 (List.getElem?_eq_getElem hbi) (by omega) fun v2 e2 o2 => ?_
  refine k v2 ((e1.more fun _ z => z.elim).trans (e2.more fun y hy => .inr ((hcs y).mpr (.inr (.inr (.inr hy)))))) ⟨x, dx, c, l, b, kc, kl, bs.eraseIdx i, rfl, ox1.ext e2 (own_ne ox ob (fun z => by cases z)), (oc.ext e1 fun z => z).ext e2 (own_ne oc ob (fun z => by cases z)), TbA.go e2 (TbA.go e1 tc), (ol.ext e1 fun z => z).ext e2 (own_ne ol ob (fun z => by cases z)), EnA.go e2 (EnA.go e1 tl), o2, ?_, hcl, hcs⟩
  show RpA v2.S (bs.eraseIdx i) ((L.B.eraseIdx i).map bondD)
  rw [← map_erase]
  exact ((rb.go e1).go e2).erase i
abbrev nm_Log_drop : List Str := ["self", "name", "bond"]
theorem sc_Log_drop : FnScope nm_Log_drop ["self", "name"] (defScope s_Log_drop) := ⟨rfl, rfl, rfl, by decide +kernel, rfl, by decide +kernel, by decide +kernel⟩
theorem st_Log_drop (a b : V) : start nm_Log_drop [a, b] = [some a, some b, none] := rfl
def p_Log_drop (K : PySem.W.Frag) (ec : EC) (CL CT N : Addr) (w : Wd) (a b : V) (Q : VK) (_ : XK) : Prop := ∃ L cs z e, LogO K ec CL CT w a L cs ∧ b = .str z ∧ getT L.E z = some e ∧ L.B.length < 200 ∧ L.E.length < 200 ∧
  ∀ v cs', Ext cs w v → LogO K ec CL CT v a { L with E := dropT L.E z, B := L.B.filter fun q => !decide (q.1 = z) && !decide (q.2.1 = z) } cs' → (∀ y, cs' y → cs y ∨ w.H y = none) → Q .non v.H
theorem ok_Log_drop {f : Addr} {fd : FuncData} {C_Entry C_Within C_At C_Between C_Table C_Read C_Log C_LogError C_NoEntry C_NoMoment C_NoName C_NoPlace C_NoReading : Addr} (F : Fun K "drop" "Log.drop" s_Log_drop f fd) (T : Txt K mg C_Entry C_Within C_At C_Between C_Table C_Read C_Log C_LogError C_NoEntry C_NoMoment C_NoName C_NoPlace C_NoReading) (c_Log_entry : Mth P ww K mg base (L2.CX P ww) C_Log 3 "entry" (pr2 (p_Log_entry K (EC.mk C_Entry C_Within C_At C_Between C_Read C_Entry C_Entry) C_Log C_Table C_NoEntry))) : FnOk P ww K mg base CX0 4 f fd ["self", "name"] (pr2 (p_Log_drop K (EC.mk C_Entry C_Within C_At C_Between C_Read C_Entry C_Entry) C_Log C_Table C_NoEntry)) := by
  refine F.ok sc_Log_drop (fun vs H Q E h => len2 h) (fun cdv A outer s H vs Q E hr h => ?_)
  obtain ⟨w, x0, x1,  rfl, rfl, h⟩ := h
  have ekT := ek_T T
  have cl_Table := T.cl_Table
  have na_Table_kept_rows := T.na_Table_kept_rows
  have cl_Log := T.cl_Log
  have na_Log_bound := T.na_Log_bound
  have na_Log_clocks := T.na_Log_clocks
  have na_Log_line := T.na_Log_line
  have na_Log_name := T.na_Log_name
  have oex_NoEntry := T.oex_NoEntry; have xf_NoEntry := T.xf_NoEntry; have ec_NoEntry := T.ec_NoEntry; have xn_NoEntry := T.xn_NoEntry
  have oex_NoMoment := T.oex_NoMoment; have xf_NoMoment := T.xf_NoMoment; have ec_NoMoment := T.ec_NoMoment; have xn_NoMoment := T.xn_NoMoment
  have oex_NoName := T.oex_NoName; have xf_NoName := T.xf_NoName; have ec_NoName := T.ec_NoName; have xn_NoName := T.xn_NoName
  have oex_NoPlace := T.oex_NoPlace; have xf_NoPlace := T.xf_NoPlace; have ec_NoPlace := T.ec_NoPlace; have xn_NoPlace := T.xn_NoPlace
  have oex_NoReading := T.oex_NoReading; have xf_NoReading := T.xf_NoReading; have ec_NoReading := T.ec_NoReading; have xn_NoReading := T.xn_NoReading
  have rel_NoEntry_NoEntry := T.rel_NoEntry_NoEntry
  have exm_NoEntry_NoEntry := T.exm_NoEntry_NoEntry
  refine ⟨_, (pss_cons (ps_expr (pe_mthX takes0 c_Log_entry T.cl_Log hr (by decide) (pv 0) (pa_cons (pv 1) pa_nil)))
      (pss_cons (ps_expr (pe_dpop1 (pe_fld (pv 0) rfl) (pv 1) ⟨rfl, by rfl, rfl, rfl⟩))
      (pss_one (ps_fld (pv 0) (pe_lc (own := [("bond", 2)]) (g := (gName 2)) (tt := _) (by rfl) sc_Log_drop.nd (kpList K (pe_fld (pv 0) rfl)) (blkOk_by (own := [("bond", 2)]) (N := nm_Log_drop) (sc := defScope s_Log_drop) (by decide +kernel)) (fun _ _ _ _ _ => (pg_name (i := 2) sc_Log_drop.nd rfl (Or.inl rfl))) (fun _ _ _ _ _ => (pts_one (pt_cmpR (kNotIn K) (pv 1) (pe_slice (kSl K) (pv 2) po_none (po_some pe_int)) (by rfl)))) (fun _ _ _ _ _ => (pv 2))) rfl)))), ?_⟩
  rw [st_Log_drop]
  obtain ⟨L, cs, z, e, hL, rfl, hz, hl, hl2, k⟩ := h
  obtain ⟨x, dx, c, l, b, kc, kl, bs, rfl, ox, oc, tc, ol, tl, ob, rb, hcl, hcs⟩ := id hL
  have hbl := rb.length
  rw [List.length_map] at hbl
  ((with_reducible refine s_seq ?_); (with_reducible refine s_drop ?_); (with_reducible refine s_methX ?_); (with_reducible refine' s_var ?q182 ?q183); (case q182 => exact rfl); (with_reducible refine' s_rmeth ?q184 ?q185 ?q186); (case q184 => refine' Own.h ?q188; (case q188 => assumption)); (case q185 => refine' lk_tl ?q189 ?q190; (case q189 => decide +kernel); (case q190 => refine' lk_tl ?q191 ?q192; (case q191 => decide +kernel); (case q192 => refine' lk_tl ?q193 ?q194; (case q193 => decide +kernel); (case q194 => exact lk_nil)))); (with_reducible refine s_cons ?_); (with_reducible refine' s_var ?q195 ?q196); (case q195 => exact rfl); (with_reducible refine s_nil ?_); (with_reducible refine s_pm2 ?_))
  refine ⟨L, cs, .str z, hL, .str z, fun z' e' hz' he' v1 y1 e1 hS1 _ => ?_, fun h => by have := h z rfl; rw [hz] at this; cases this⟩
  have hL1 := hL.go0 e1
  have ox1 := ox.ext e1 fun z => z
  have ol1 := ol.ext e1 fun z => z
  have tl1 := EnA.go e1 tl
  ((with_reducible refine s_seq ?_); (with_reducible refine s_drop ?_); (with_reducible refine s_dp ?_); (with_reducible refine s_fld ?_); (with_reducible refine' s_var ?q197 ?q198); (case q197 => exact rfl); (with_reducible refine' s_rfld ?q199 ?q200 ?q201 ?q202 ?q203); (case q199 => refine' Own.h ?q206; (case q206 => assumption)); (case q200 => assumption); (case q201 => assumption); (case q202 => refine' lk_tl ?q207 ?q208; (case q207 => decide +kernel); (case q208 => exact lk_hd)))
  obtain ⟨y, hy, _⟩ := DicR.hit tl1 hz
  refine s_gdp ol1 ?_
  ((with_reducible refine' s_var ?q212 ?q213); (case q212 => exact rfl))
  refine s_gdp2 ol1 hy fun v2 e2 o2 => ?_
  have hxl : x ≠ l := own_ne ox ol (fun z => by cases z)
  have hbl2 : b ≠ l := own_ne ob ol (fun z => by cases z)
  have hxb : x ≠ b := own_ne ox ob (fun z => by cases z)
  have ox2 := ox1.ext e2 hxl
  have ob2 := (ob.ext e1 fun z => z).ext e2 hbl2
  have oc2 := (oc.ext e1 fun z => z).ext e2 hcl
  have tc2 := TbA.go e2 (TbA.go e1 tc)
  have tl2 := EnA.go e2 (DicR.drop (z := z) tl1)
  have rb2 := (rb.go e1).go e2
  have e12 : Ext (One l) w v2 := (e1.more fun _ z => z.elim).trans e2
  clear e1 e2 hL1 ox1 ol1 tl1 hL
  ((with_reducible refine s_sfld ?_); (with_reducible refine s_Lc ?_); (with_reducible refine s_iList ?_); (with_reducible refine s_fld ?_); (with_reducible refine' s_var ?q214 ?q215); (case q214 => exact rfl); (with_reducible refine' s_rfld ?q216 ?q217 ?q218 ?q219 ?q220); (case q216 => refine' Own.h ?q223; (case q223 => assumption)); (case q217 => assumption); (case q218 => assumption); (case q219 => refine' lk_tl ?q224 ?q225; (case q224 => decide +kernel); (case q225 => refine' lk_tl ?q226 ?q227; (case q226 => decide +kernel); (case q227 => exact lk_hd))); refine' ⟨ _ , rfl , ⟨ _ , ?q228 ⟩ , ?q229 ⟩; (case q228 => refine' SqL.of ( Own.h ?q232 ); (case q232 => assumption)))
  intro D hD
  have hbD : b ≠ D := ob2.ne hD
  refine lc_gen (rows := L.B) (ww_list (xs := bs)) (fun q => !decide (q.1 = z) && !decide (q.2.1 = z)) bondD hD (by omega) (by rw [sizeLine_eq]; omega) (fun u e => SqL.of (ob2.ext e hbD).h) ?_ ?_
  · intro i x1 q u hi hx hq eu R' Z hR' hZ
    obtain ⟨d, hd1, hd2⟩ := rb2.get hx
    rw [List.getElem?_map, hq] at hd1
    obtain rfl := Option.some.inj hd1
    obtain ⟨t, rfl, st⟩ := bond_inv hd2
    have su := st_go eu st
    ((with_reducible refine' s_gname ?q233 ?q234); (case q233 => exact rfl))
    refine ⟨rfl, ?_⟩
    ((with_reducible refine s_test ?_); (with_reducible refine s_op ?_); (with_reducible refine' s_var ?q235 ?q236); (case q235 => exact rfl); (with_reducible refine s_sl ?_); (with_reducible refine' s_var ?q237 ?q238); (case q237 => exact rfl); (with_reducible refine s_nopart ?_); (with_reducible refine s_part ?_); (with_reducible refine s_c ?_); (with_reducible refine s_int ?_))
    refine s_slT2 su fun p3 v3 e3 n3 s3 => ?_
    ((with_reducible refine' s_ninS2 ?q324 ?q325); (case q324 => assumption); (with_reducible refine s_bl ?_))
    cases hb : (decide (z = q.1) || decide (z = q.2.1)) with
    | true =>
      rw [if_neg (by decide)]
      refine hZ v3 e3 ?_
      rw [Bool.or_eq_true, decide_eq_true_eq, decide_eq_true_eq] at hb
      rcases hb with h | h <;> simp [h]
    | false =>
      rw [if_pos (show (!false) = true from rfl)]
      refine s_var rfl (hR' v3 (.ref t) e3 ?_ ((hd2.go eu).go e3))
      rw [Bool.or_eq_false_iff, decide_eq_false_iff_not, decide_eq_false_iff_not] at hb
      rw [decide_eq_false (fun h => hb.1 h.symm), decide_eq_false (fun h => hb.2 h.symm)]
      rfl
  · intro u acc eu hD' oD ra
    have oxu := ox2.ext eu fun z => z
    have hxD : x ≠ D := ox2.ne hD
    have nD : w.H D = none := e12.back hD
    ((with_reducible refine' s_var ?q326 ?q327); (case q326 => exact rfl); (with_reducible refine' s_rsfl ?q328 ?q329 ?q330 ?q331 ?q332 ?q333); (case q328 => assumption); (case q329 => assumption); (case q330 => assumption); (case q331 => simp only [ List.length_cons , List.length_nil ]; omega); (case q332 => refine' pf_tl ?q334 ?q335; (case q334 => decide +kernel); (case q335 => refine' pf_tl ?q336 ?q337; (case q336 => decide +kernel); (case q337 => exact pf_nil))); intro _ _ _)
    rename_i v3 e3 o3
    refine k v3 (fun y => y = x ∨ y = c ∨ y = l ∨ y = D) (((e12.more fun y hy => .inr ((hcs y).mpr (.inr (.inr (.inl hy))))).trans (eu.more fun _ z => z.elim)).trans (e3.more fun y hy => .inr ((hcs y).mpr (.inl hy)))) ⟨x, dx, c, l, D, kc, _, acc, rfl, o3, (oc2.ext eu fun z => z).ext e3 (own_ne oc ox (fun z => by cases z)), TbA.go e3 (TbA.go eu tc2), (o2.ext eu fun z => z).ext e3 (fun h => hxl h.symm), EnA.go e3 (EnA.go eu tl2), oD.ext e3 (fun h => hxD h.symm), ra.go e3, hcl, fun y => Iff.rfl⟩ fun y hy => ?_
    rcases hy with rfl | rfl | rfl | rfl
    · exact .inl ((hcs _).mpr (.inl rfl))
    · exact .inl ((hcs _).mpr (.inr (.inl rfl)))
    · exact .inl ((hcs _).mpr (.inr (.inr (.inl rfl))))
    · exact .inr nD
abbrev nm_Log_copied : List Str := ["self", "other"]
theorem sc_Log_copied : FnScope nm_Log_copied ["self"] (defScope s_Log_copied) := ⟨rfl, rfl, rfl, by decide +kernel, rfl, by decide +kernel, by decide +kernel⟩
theorem st_Log_copied (a : V) : start nm_Log_copied [a] = [some a, none] := rfl
def p_Log_copied (K : PySem.W.Frag) (ec : EC) (CL CT : Addr) (w : Wd) (a : V) (Q : VK) (_ : XK) : Prop := ∃ L cs, LogO K ec CL CT w a L cs ∧ L.B.length < 200 ∧ ∀ v r cs', Ext Non w v → LogO K ec CL CT v (.ref r) L cs' → (∀ y, cs' y → w.H y = none) → Q (.ref r) v.H
theorem ok_Log_copied {f : Addr} {fd : FuncData} {C_Entry C_Within C_At C_Between C_Table C_Read C_Log C_LogError C_NoEntry C_NoMoment C_NoName C_NoPlace C_NoReading : Addr} (F : Fun K "copied" "Log.copied" s_Log_copied f fd) (T : Txt K mg C_Entry C_Within C_At C_Between C_Table C_Read C_Log C_LogError C_NoEntry C_NoMoment C_NoName C_NoPlace C_NoReading) (c_Log_init : Mkr P ww K mg base CX0 C_Log 1 (pr1 (p_Log_init K (EC.mk C_Entry C_Within C_At C_Between C_Read C_Entry C_Entry) C_Log C_Table))) : FnOk P ww K mg base CX0 3 f fd ["self"] (pr1 (p_Log_copied K (EC.mk C_Entry C_Within C_At C_Between C_Read C_Entry C_Entry) C_Log C_Table)) := by
  refine F.ok sc_Log_copied (fun vs H Q E h => len1 h) (fun cdv A outer s H vs Q E hr h => ?_)
  obtain ⟨w, x0,  rfl, rfl, h⟩ := h
  have ekT := ek_T T
  have cl_Table := T.cl_Table
  have na_Table_kept_rows := T.na_Table_kept_rows
  have cl_Log := T.cl_Log
  have na_Log_bound := T.na_Log_bound
  have na_Log_clocks := T.na_Log_clocks
  have na_Log_line := T.na_Log_line
  have na_Log_name := T.na_Log_name
  have oex_NoEntry := T.oex_NoEntry; have xf_NoEntry := T.xf_NoEntry; have ec_NoEntry := T.ec_NoEntry; have xn_NoEntry := T.xn_NoEntry
  have oex_NoMoment := T.oex_NoMoment; have xf_NoMoment := T.xf_NoMoment; have ec_NoMoment := T.ec_NoMoment; have xn_NoMoment := T.xn_NoMoment
  have oex_NoName := T.oex_NoName; have xf_NoName := T.xf_NoName; have ec_NoName := T.ec_NoName; have xn_NoName := T.xn_NoName
  have oex_NoPlace := T.oex_NoPlace; have xf_NoPlace := T.xf_NoPlace; have ec_NoPlace := T.ec_NoPlace; have xn_NoPlace := T.xn_NoPlace
  have oex_NoReading := T.oex_NoReading; have xf_NoReading := T.xf_NoReading; have ec_NoReading := T.ec_NoReading; have xn_NoReading := T.xn_NoReading
  have rel_NoEntry_NoEntry := T.rel_NoEntry_NoEntry
  have exm_NoEntry_NoEntry := T.exm_NoEntry_NoEntry
  refine ⟨_, (pss_cons (ps_set (i := 1) sc_Log_copied.nd rfl (Or.inl rfl) (pe_mk0 c_Log_init hr (by decide) T.g_Log pass0))
      (pss_cons (ps_expr (pe_dupd (pe_fld (pv 1) rfl) (pe_fld (pv 0) rfl) ⟨rfl, by rfl, rfl, rfl⟩))
      (pss_cons (ps_expr (pe_dupd (pe_fld (pv 1) rfl) (pe_fld (pv 0) rfl) ⟨rfl, by rfl, rfl, rfl⟩))
      (pss_cons (ps_expr (pe_bm PySem.F.plainAttrs_list PySem.F.slot_list_extend PySem.F.type_list_extend mt_extend (pe_fld (pv 1) rfl) (pa_cons (pe_fld (pv 0) rfl) pa_nil)))
      (pss_one (ps_ret (pv 1))))))), ?_⟩
  rw [st_Log_copied]
  obtain ⟨L, cs, hL, hl, k⟩ := h
  obtain ⟨x, dx, c, l, b, kc, kl, bs, rfl, ox, oc, tc, ol, tl, ob, rb, hcl, hcs⟩ := id hL
  have hbl := rb.length
  rw [List.length_map] at hbl
  ((with_reducible refine s_seq ?_); (with_reducible refine s_asg ?_); (with_reducible refine s_make ?_); (with_reducible refine s_nil ?_))
  refine s_rmake fun x2 dx2 v1 e1 n1 o1 => s_pm1 ⟨x2, dx2, rfl, o1, fun v2 cs2 e2 hL2 hc2 => ⟨rfl, ?_⟩⟩
  obtain ⟨_, dx3, c3, l3, b3, kc3, kl3, bs3, hx3, ox3, oc3, tc3, ol3, tl3, ob3, rb3, hcl3, hcs3⟩ := id hL2
  cases hx3
  have hn : ∀ y, cs2 y → w.H y = none := fun y hy => by
    rcases hc2 y hy with rfl | h
    · exact n1
    · exact e1.back h
  have nx := hn x2 ((hcs3 _).mpr (.inl rfl))
  have nc := hn c3 ((hcs3 _).mpr (.inr (.inl rfl)))
  have nl := hn l3 ((hcs3 _).mpr (.inr (.inr (.inl rfl))))
  have nb := hn b3 ((hcs3 _).mpr (.inr (.inr (.inr rfl))))
  have e12 : Ext Non w v2 := e1.step e2 fun b hb => .inl (by rw [show b = x2 from hb]; exact n1)
  have hkc : kc3 = [] := by cases tc3; rfl
  have hkl : kl3 = [] := by cases tl3; rfl
  have hbs : bs3 = [] := by cases rb3; rfl
  subst hkc hkl hbs
  have dxc : x2 ≠ c3 := own_ne ox3 oc3 (fun z => by cases z)
  have dxl : x2 ≠ l3 := own_ne ox3 ol3 (fun z => by cases z)
  have dxb : x2 ≠ b3 := own_ne ox3 ob3 (fun z => by cases z)
  have dbc : b3 ≠ c3 := own_ne ob3 oc3 (fun z => by cases z)
  have dbl : b3 ≠ l3 := own_ne ob3 ol3 (fun z => by cases z)
  have ox2 := ox.ext e12 fun z => z
  have oc2 := oc.ext e12 fun z => z
  have ol2 := ol.ext e12 fun z => z
  have ob2 := ob.ext e12 fun z => z
  clear hL2 hc2 o1 e1 e2 hn tc3 tl3 rb3 hL
  ((with_reducible refine' s_gname ?q0 ?q1); (case q0 => simp only [ List.set_cons_succ , List.set_cons_zero ]; exact rfl); (with_reducible refine s_seq ?_); (with_reducible refine s_drop ?_); (with_reducible refine s_du ?_); (with_reducible refine s_fld ?_); (with_reducible refine' s_var ?q2 ?q3); (case q2 => exact rfl); (with_reducible refine' s_rfld ?q4 ?q5 ?q6 ?q7 ?q8); (case q4 => refine' Own.h ?q11; (case q11 => assumption)); (case q5 => assumption); (case q6 => assumption); (case q7 => exact lk_hd))
  refine s_gdu oc3 ?_
  ((with_reducible refine s_fld ?_); (with_reducible refine' s_var ?q15 ?q16); (case q15 => exact rfl); (with_reducible refine' s_rfld ?q17 ?q18 ?q19 ?q20 ?q21); (case q17 => refine' Own.h ?q24; (case q24 => assumption)); (case q18 => assumption); (case q19 => assumption); (case q20 => exact lk_hd))
  refine s_gdu2 oc3 (oc.ne nc).symm oc2.h fun v3 e3 o3 => ?_
  have ox23 := ox2.ext e3 (ox.ne nc)
  have ol23 := ol2.ext e3 (ol.ne nc)
  have ob23 := ob2.ext e3 (ob.ne nc)
  have ox33 := ox3.ext e3 dxc
  have ol33 := ol3.ext e3 hcl3.symm
  have ob33 := ob3.ext e3 dbc
  have f3 : Ext cs2 v2 v3 := e3.more fun y hy => .inr ((hcs3 y).mpr (.inr (.inl hy)))
  ((with_reducible refine s_seq ?_); (with_reducible refine s_drop ?_); (with_reducible refine s_du ?_); (with_reducible refine s_fld ?_); (with_reducible refine' s_var ?q25 ?q26); (case q25 => exact rfl); (with_reducible refine' s_rfld ?q27 ?q28 ?q29 ?q30 ?q31); (case q27 => refine' Own.h ?q35; (case q35 => assumption)); (case q28 => assumption); (case q29 => assumption); (case q30 => refine' lk_tl ?q36 ?q37; (case q36 => decide +kernel); (case q37 => exact lk_hd)))
  refine s_gdu ol33 ?_
  ((with_reducible refine s_fld ?_); (with_reducible refine' s_var ?q41 ?q42); (case q41 => exact rfl); (with_reducible refine' s_rfld ?q43 ?q44 ?q45 ?q46 ?q47); (case q43 => refine' Own.h ?q51; (case q51 => assumption)); (case q44 => assumption); (case q45 => assumption); (case q46 => refine' lk_tl ?q52 ?q53; (case q52 => decide +kernel); (case q53 => exact lk_hd)))
  refine s_gdu2 ol33 (ol.ne nl).symm ol23.h fun v4 e4 o4 => ?_
  have ox24 := ox23.ext e4 (ox.ne nl)
  have ob24 := ob23.ext e4 (ob.ne nl)
  have ox34 := ox33.ext e4 dxl
  have oc34 := o3.ext e4 hcl3
  have ob34 := ob33.ext e4 dbl
  have f4 : Ext cs2 v2 v4 := f3.step e4 fun y hy => .inr ((hcs3 y).mpr (.inr (.inr (.inl hy))))
  ((with_reducible refine s_seq ?_); (with_reducible refine s_drop ?_); (with_reducible refine s_BM ?_); (with_reducible refine s_fld ?_); (with_reducible refine' s_var ?q54 ?q55); (case q54 => exact rfl); (with_reducible refine' s_rfld ?q56 ?q57 ?q58 ?q59 ?q60); (case q56 => refine' Own.h ?q64; (case q64 => assumption)); (case q57 => assumption); (case q58 => assumption); (case q59 => refine' lk_tl ?q65 ?q66; (case q65 => decide +kernel); (case q66 => refine' lk_tl ?q67 ?q68; (case q67 => decide +kernel); (case q68 => exact lk_hd))); (with_reducible refine' s_ty ?q69 ?q70); (case q69 => assumption); (with_reducible refine s_cons ?_); (with_reducible refine s_fld ?_); (with_reducible refine' s_var ?q71 ?q72); (case q71 => exact rfl); (with_reducible refine' s_rfld ?q73 ?q74 ?q75 ?q76 ?q77); (case q73 => refine' Own.h ?q81; (case q81 => assumption)); (case q74 => assumption); (case q75 => assumption); (case q76 => refine' lk_tl ?q82 ?q83; (case q82 => decide +kernel); (case q83 => refine' lk_tl ?q84 ?q85; (case q84 => decide +kernel); (case q85 => exact lk_hd))); (with_reducible refine s_nil ?_))
  refine s_extO ob34 ob24.h (by rw [sizeLine_eq, List.length_nil]; omega) fun v5 e5 o5 => ?_
  have f5 : Ext cs2 v2 v5 := f4.step e5 fun y hy => .inr ((hcs3 y).mpr (.inr (.inr (.inr hy))))
  have ox35 := ox34.ext e5 dxb
  ((with_reducible refine s_ret ?_); (with_reducible refine' s_var ?q86 ?q87); (case q86 => exact rfl))
  have fw : Ext Non w v5 := e12.step f5 fun y hy => .inl (by
    rcases (hcs3 y).mp hy with rfl | rfl | rfl | rfl
    · exact nx
    · exact nc
    · exact nl
    · exact nb)
  refine k v5 x2 cs2 fw ⟨x2, dx3, c3, l3, b3, kc, kl, [] ++ bs, rfl, ox35, oc34.ext e5 dbc.symm, TbA.go fw tc, (o4.ext e5 dbl.symm), EnA.go fw tl, o5, rb.go fw, hcl3, hcs3⟩ fun y hy => ?_
  rcases (hcs3 y).mp hy with rfl | rfl | rfl | rfl
  · exact nx
  · exact nc
  · exact nl
  · exact nb
/-- the script -/
def Scr (K : PySem.W.Frag) (w : Wd) (v : V) : Prop := ∃ a, ∃ ns : List Int, v = .ref a ∧ SqL K w.S a (ns.map V.int) ∧ ns.length ≤ 63
theorem Scr.go {K : PySem.W.Frag} {w u : Wd} {v : V} {m : Addr → Prop} (e : Ext m w u) (h : Scr K w v) : Scr K u v := by
  obtain ⟨a, ns, rfl, h1, h2⟩ := h
  exact ⟨a, ns, rfl, sq_go e h1, h2⟩
/-- a state of drawn numbers stands at a -/
def Stt (w : Wd) (a : Addr) : Prop := ∃ l s t : Int, 0 ≤ l ∧ Own w a (.lst [.int l, .int s, .int t])
theorem Stt.go {w u : Wd} {a : Addr} {m : Addr → Prop} (e : Ext m w u) (n : ¬ m a) (h : Stt w a) : Stt u a := by
  obtain ⟨l, s, t, h0, h⟩ := h
  exact ⟨l, s, t, h0, h.ext e n⟩
theorem stt_new {w : Wd} {p l : Addr} (n : w.H l = none) (h : Stt w p) : l ≠ p := by
  obtain ⟨_, _, _, _, o⟩ := h
  exact o.ne' n
theorem stt_new' {w : Wd} {p l : Addr} (n : w.H l = none) (h : Stt w p) : p ≠ l := (stt_new n h).symm
theorem Stt.none {w : Wd} {p : Addr} (h : Stt w p) : w.S p = none := by
  obtain ⟨_, _, _, _, o⟩ := h
  exact o.s
local macro_rules | `(tactic| wtm_at "stt") => `(tactic| first
  | assumption
  | (refine' Stt.go (by assumption) ?nm ?pu; (case nm => wtm_at "nm"); (case pu => wtm_at "stt"))
  | fail "stt")
local macro_rules | `(tactic| wtm_at "scr") => `(tactic| first
  | assumption
  | (refine' Scr.go (by assumption) ?s; (case s => wtm_at "scr"))
  | fail "scr")
local macro_rules | `(tactic| wtm_at "ne") => `(tactic| first
  | (refine' stt_new ?n ?pu; (case n => assumption); (case pu => wtm_at "stt"))
  | (refine' stt_new' ?n ?pu; (case n => assumption); (case pu => wtm_at "stt"))
  | fail "ne")
abbrev nm_l_cell : List Str := ["_law_script", "_law_k"]
theorem sc_l_cell : FnScope nm_l_cell ["_law_script", "_law_k"] (defScope s_l_cell) := ⟨rfl, rfl, rfl, by decide +kernel, rfl, by decide +kernel, by decide +kernel⟩
theorem st_l_cell (a b : V) : start nm_l_cell [a, b] = [some a, some b] := rfl
def p_l_cell (K : PySem.W.Frag) (w : Wd) (a b : V) (Q : VK) (_ : XK) : Prop := ∃ k : Int, Scr K w a ∧ b = .int k ∧ 0 ≤ k ∧ ∀ v z, Ext Non w v → Q (.int z) v.H
theorem ok_l_cell {f : Addr} {fd : FuncData} {C_Entry C_Within C_At C_Between C_Table C_Read C_Log C_LogError C_NoEntry C_NoMoment C_NoName C_NoPlace C_NoReading : Addr} (F : Fun K "_law_cell" "_law_cell" s_l_cell f fd) (T : Txt K mg C_Entry C_Within C_At C_Between C_Table C_Read C_Log C_LogError C_NoEntry C_NoMoment C_NoName C_NoPlace C_NoReading)  : FnOk P ww K mg base CX0 1 f fd ["_law_script", "_law_k"] (pr2 (p_l_cell K)) := by
  refine F.ok sc_l_cell (fun vs H Q E h => len2 h) (fun cdv A outer s H vs Q E hr h => ?_)
  obtain ⟨w, x0, x1,  rfl, rfl, h⟩ := h
  have ekT := ek_T T
  have oex_NoEntry := T.oex_NoEntry; have xf_NoEntry := T.xf_NoEntry; have ec_NoEntry := T.ec_NoEntry; have xn_NoEntry := T.xn_NoEntry
  have oex_NoMoment := T.oex_NoMoment; have xf_NoMoment := T.xf_NoMoment; have ec_NoMoment := T.ec_NoMoment; have xn_NoMoment := T.xn_NoMoment
  have oex_NoName := T.oex_NoName; have xf_NoName := T.xf_NoName; have ec_NoName := T.ec_NoName; have xn_NoName := T.xn_NoName
  have oex_NoPlace := T.oex_NoPlace; have xf_NoPlace := T.xf_NoPlace; have ec_NoPlace := T.ec_NoPlace; have xn_NoPlace := T.xn_NoPlace
  have oex_NoReading := T.oex_NoReading; have xf_NoReading := T.xf_NoReading; have ec_NoReading := T.ec_NoReading; have xn_NoReading := T.xn_NoReading
  have rel_NoEntry_NoEntry := T.rel_NoEntry_NoEntry
  have exm_NoEntry_NoEntry := T.exm_NoEntry_NoEntry
  refine ⟨_, (pss_cons (ps_if (pt_cmpR g_lt (pv 1) (pe_callB (kLen K) (by rfl) T.n_len (by decide +kernel) (pa_cons (pv 0) pa_nil)) (nomark _)) (pss_one (ps_ret (pe_ix (kIx K) (pv 0) (pv 1) (fun _ _ => rfl)))) pss_nil)
      (pss_one (ps_ret (pe_op (kAdd K) (pe_op (kMul K) pe_int (pv 1)) pe_int)))), ?_⟩
  rw [st_l_cell]
  obtain ⟨k, ⟨a, ns, rfl, hs, hl⟩, rfl, h0, q⟩ := h
  have hs' : SqL K w.H a (ns.map V.int) := w.ok.seq hs
  ((with_reducible refine s_seq ?_); (with_reducible refine s_ifS ?_); (with_reducible refine s_test ?_); (with_reducible refine s_op ?_); (with_reducible refine' s_var ?q0 ?q1); (case q0 => exact rfl); (with_reducible refine s_CB ?_); (with_reducible refine s_cons ?_); (with_reducible refine' s_var ?q2 ?q3); (case q2 => exact rfl); (with_reducible refine s_nil ?_))
  refine s_lenK hs' ?_
  ((with_reducible refine s_lt ?_); (with_reducible refine s_bl ?_))
  refine ite_d (fun hb => ?_) (fun hb => ?_)
  · ((with_reducible refine s_ret ?_); (with_reducible refine s_op ?_); (with_reducible refine' s_var ?q12 ?q13); (case q12 => exact rfl); (with_reducible refine' s_var ?q14 ?q15); (case q14 => exact rfl))
    rw [List.length_map] at hb
    refine ⟨_, .int ns[k.toNat], .inl hs', ?_, ?_⟩
    · rw [atI_nn h0 (by rw [List.length_map]; omega), List.getElem?_map, List.getElem?_eq_getElem (by omega)]
      rfl
    · exact q w _ (Ext.refl _ _)
  · ((with_reducible refine s_next ?_); (with_reducible refine s_ret ?_); (with_reducible refine s_op ?_); (with_reducible refine s_op ?_); (with_reducible refine s_c ?_); (with_reducible refine' s_var ?q31 ?q32); (case q31 => exact rfl); (with_reducible refine s_mul ?q33 ?q34); (case q33 => exact .inl ( .inl ⟨ by decide , by decide ⟩ )); (with_reducible refine s_c ?_); (with_reducible refine s_add ?_))
    exact q w _ (Ext.refl _ _)
abbrev nm_l_mix : List Str := ["_law_cell_here", "_law_k", "_law_number"]
theorem sc_l_mix : FnScope nm_l_mix ["_law_cell_here", "_law_k"] (defScope s_l_mix) := ⟨rfl, rfl, rfl, by decide +kernel, rfl, by decide +kernel, by decide +kernel⟩
theorem st_l_mix (a b : V) : start nm_l_mix [a, b] = [some a, some b, none] := rfl
def p_l_mix (w : Wd) (a b : V) (Q : VK) (_ : XK) : Prop := ∃ z k : Int, a = .int z ∧ b = .int k ∧ ∀ v r, Ext Non w v → 0 ≤ r → r < 2 ^ 29 → Q (.int r) v.H
theorem ok_l_mix {f : Addr} {fd : FuncData} {C_Entry C_Within C_At C_Between C_Table C_Read C_Log C_LogError C_NoEntry C_NoMoment C_NoName C_NoPlace C_NoReading : Addr} (F : Fun K "_law_mix" "_law_mix" s_l_mix f fd) (T : Txt K mg C_Entry C_Within C_At C_Between C_Table C_Read C_Log C_LogError C_NoEntry C_NoMoment C_NoName C_NoPlace C_NoReading)  : FnOk P ww K mg base CX0 1 f fd ["_law_cell_here", "_law_k"] (pr2 (p_l_mix)) := by
  refine F.ok sc_l_mix (fun vs H Q E h => len2 h) (fun cdv A outer s H vs Q E hr h => ?_)
  obtain ⟨w, x0, x1,  rfl, rfl, h⟩ := h
  have ekT := ek_T T
  have oex_NoEntry := T.oex_NoEntry; have xf_NoEntry := T.xf_NoEntry; have ec_NoEntry := T.ec_NoEntry; have xn_NoEntry := T.xn_NoEntry
  have oex_NoMoment := T.oex_NoMoment; have xf_NoMoment := T.xf_NoMoment; have ec_NoMoment := T.ec_NoMoment; have xn_NoMoment := T.xn_NoMoment
  have oex_NoName := T.oex_NoName; have xf_NoName := T.xf_NoName; have ec_NoName := T.ec_NoName; have xn_NoName := T.xn_NoName
  have oex_NoPlace := T.oex_NoPlace; have xf_NoPlace := T.xf_NoPlace; have ec_NoPlace := T.ec_NoPlace; have xn_NoPlace := T.xn_NoPlace
  have oex_NoReading := T.oex_NoReading; have xf_NoReading := T.xf_NoReading; have ec_NoReading := T.ec_NoReading; have xn_NoReading := T.xn_NoReading
  have rel_NoEntry_NoEntry := T.rel_NoEntry_NoEntry
  have exm_NoEntry_NoEntry := T.exm_NoEntry_NoEntry
  refine ⟨_, (pss_cons (ps_set (i := 2) sc_l_mix.nd rfl (Or.inl rfl) (pe_op g_mod (pe_op (kAdd K) (pe_op (kAdd K) (pv 0) (pe_op (kMul K) pe_int (pv 1))) pe_int) pe_int))
      (pss_cons (ps_set (i := 2) sc_l_mix.nd rfl (Or.inl rfl) (pe_op g_mod (pe_op (kMul K) (pe_op g_mod (pe_op (kMul K) (pv 2) (pv 2)) pe_int) pe_int) pe_int))
      (pss_one (ps_ret (pe_op g_div (pe_op g_mod (pe_op (kMul K) (pv 2) (pe_op (kAdd K) (pv 2) pe_int)) pe_int) pe_int))))), ?_⟩
  rw [st_l_mix]
  obtain ⟨z, k, rfl, rfl, q⟩ := h
  ((with_reducible refine s_seq ?_); (with_reducible refine s_asg ?_); (with_reducible refine s_op ?_); (with_reducible refine s_op ?_); (with_reducible refine s_op ?_); (with_reducible refine' s_var ?q35 ?q36); (case q35 => exact rfl); (with_reducible refine s_op ?_); (with_reducible refine s_c ?_); (with_reducible refine' s_var ?q37 ?q38); (case q37 => exact rfl); (with_reducible refine s_mul ?q39 ?q40); (case q39 => exact .inl ( .inl ⟨ by decide , by decide ⟩ )); (with_reducible refine s_add ?_); (with_reducible refine s_c ?_); (with_reducible refine s_add ?_); (with_reducible refine s_c ?_); (with_reducible refine s_mod ?q41 ?q42); (case q41 => omega); (with_reducible refine' s_gname ?q43 ?q44); (case q43 => simp only [ List.set_cons_succ , List.set_cons_zero ]; exact rfl); (with_reducible refine s_seq ?_); (with_reducible refine s_asg ?_); (with_reducible refine s_op ?_); (with_reducible refine s_op ?_); (with_reducible refine s_op ?_); (with_reducible refine s_op ?_); (with_reducible refine' s_var ?q45 ?q46); (case q45 => exact rfl); (with_reducible refine' s_var ?q47 ?q48); (case q47 => exact rfl); (with_reducible refine s_mul ?q49 ?q50); (case q49 => exact .inl ( .inl ⟨ by omega , by omega ⟩ )); (with_reducible refine s_c ?_); (with_reducible refine s_mod ?q51 ?q52); (case q51 => omega); (with_reducible refine s_c ?_); (with_reducible refine s_mul ?q53 ?q54); (case q53 => exact .inl ( .inr ⟨ by decide , by decide ⟩ )); (with_reducible refine s_c ?_); (with_reducible refine s_mod ?q55 ?q56); (case q55 => omega); (with_reducible refine' s_gname ?q57 ?q58); (case q57 => simp only [ List.set_cons_succ , List.set_cons_zero ]; exact rfl); (with_reducible refine s_ret ?_); (with_reducible refine s_op ?_); (with_reducible refine s_op ?_); (with_reducible refine s_op ?_); (with_reducible refine' s_var ?q59 ?q60); (case q59 => exact rfl); (with_reducible refine s_op ?_); (with_reducible refine' s_var ?q61 ?q62); (case q61 => exact rfl); (with_reducible refine s_c ?_); (with_reducible refine s_add ?_); (with_reducible refine s_mul ?q63 ?q64); (case q63 => exact .inl ( .inl ⟨ by omega , by omega ⟩ )); (with_reducible refine s_c ?_); (with_reducible refine s_mod ?q65 ?q66); (case q65 => omega); (with_reducible refine s_c ?_); (with_reducible refine s_div ?q67 ?q68); (case q67 => exact ⟨ by decide , by decide ⟩))
  exact q w _ (Ext.refl _ _) (by omega) (by omega)
abbrev nm_l_begun : List Str := ["_law_cell_here"]
theorem sc_l_begun : FnScope nm_l_begun ["_law_cell_here"] (defScope s_l_begun) := ⟨rfl, rfl, rfl, by decide +kernel, rfl, by decide +kernel, by decide +kernel⟩
theorem st_l_begun (a : V) : start nm_l_begun [a] = [some a] := rfl
def p_l_begun (w : Wd) (a : V) (Q : VK) (_ : XK) : Prop := ∃ z : Int, a = .int z ∧ ∀ v p, Ext Non w v → w.H p = none → Stt v p → Q (.ref p) v.H
theorem ok_l_begun {f : Addr} {fd : FuncData} {C_Entry C_Within C_At C_Between C_Table C_Read C_Log C_LogError C_NoEntry C_NoMoment C_NoName C_NoPlace C_NoReading : Addr} (F : Fun K "_law_begun" "_law_begun" s_l_begun f fd) (T : Txt K mg C_Entry C_Within C_At C_Between C_Table C_Read C_Log C_LogError C_NoEntry C_NoMoment C_NoName C_NoPlace C_NoReading)  : FnOk P ww K mg base CX0 1 f fd ["_law_cell_here"] (pr1 (p_l_begun)) := by
  refine F.ok sc_l_begun (fun vs H Q E h => len1 h) (fun cdv A outer s H vs Q E hr h => ?_)
  obtain ⟨w, x0,  rfl, rfl, h⟩ := h
  have ekT := ek_T T
  have oex_NoEntry := T.oex_NoEntry; have xf_NoEntry := T.xf_NoEntry; have ec_NoEntry := T.ec_NoEntry; have xn_NoEntry := T.xn_NoEntry
  have oex_NoMoment := T.oex_NoMoment; have xf_NoMoment := T.xf_NoMoment; have ec_NoMoment := T.ec_NoMoment; have xn_NoMoment := T.xn_NoMoment
  have oex_NoName := T.oex_NoName; have xf_NoName := T.xf_NoName; have ec_NoName := T.ec_NoName; have xn_NoName := T.xn_NoName
  have oex_NoPlace := T.oex_NoPlace; have xf_NoPlace := T.xf_NoPlace; have ec_NoPlace := T.ec_NoPlace; have xn_NoPlace := T.xn_NoPlace
  have oex_NoReading := T.oex_NoReading; have xf_NoReading := T.xf_NoReading; have ec_NoReading := T.ec_NoReading; have xn_NoReading := T.xn_NoReading
  have rel_NoEntry_NoEntry := T.rel_NoEntry_NoEntry
  have exm_NoEntry_NoEntry := T.exm_NoEntry_NoEntry
  refine ⟨_, (pss_one (ps_ret (pe_lst (pa_cons (pe_callB (kMax K rfl) (by rfl) T.n_max (by decide +kernel) (pa_cons pe_int (pa_cons (pe_op g_sub (pv 0) (pe_op g_pow pe_int pe_int)) pa_nil))) (pa_cons (pe_op g_mod (pv 0) pe_int) (pa_cons pe_int pa_nil)))))), ?_⟩
  rw [st_l_begun]
  obtain ⟨z, rfl, q⟩ := h
  ((with_reducible refine s_ret ?_); (with_reducible refine t_lst ?_); (with_reducible refine s_cons ?_); (with_reducible refine s_CB ?_); (with_reducible refine s_cons ?_); (with_reducible refine s_c ?_); (with_reducible refine s_cons ?_); (with_reducible refine s_op ?_); (with_reducible refine' s_var ?q69 ?q70); (case q69 => exact rfl); (with_reducible refine s_op ?_); (with_reducible refine s_c ?_); (with_reducible refine s_c ?_); (with_reducible refine' s_powN ?q71 ?q72 ?q73); (case q71 => exact ⟨ by decide , by decide , by decide ⟩); (case q72 => exact p10_18); (with_reducible refine s_sub ?_); (with_reducible refine s_nil ?_); (with_reducible refine s_max ?_); (with_reducible refine s_cons ?_); (with_reducible refine s_op ?_); (with_reducible refine' s_var ?q74 ?q75); (case q74 => exact rfl); (with_reducible refine s_c ?_); (with_reducible refine s_mod ?q76 ?q77); (case q76 => omega); (with_reducible refine s_cons ?_); (with_reducible refine s_c ?_); (with_reducible refine s_nil ?_); (with_reducible refine' t_newL ?q78 ?q79); (case q78 => simp only [ List.length , sizeLine_eq ]; omega); intro _ _ _ _ _)
  rename_i p v e n o
  exact q v p e n ⟨_, _, _, (show (0 : Int) ≤ max 0 (z - 1000000000000000000) by omega), o⟩
abbrev nm_l_pull : List Str := ["_law_state", "_law_many", "_law_digit", "_law_high", "_law_low"]
theorem sc_l_pull : FnScope nm_l_pull ["_law_state", "_law_many"] (defScope s_l_pull) := ⟨rfl, rfl, rfl, by decide +kernel, rfl, by decide +kernel, by decide +kernel⟩
theorem st_l_pull (a b : V) : start nm_l_pull [a, b] = [some a, some b, none, none, none] := rfl
def p_l_pull (w : Wd) (a b : V) (Q : VK) (_ : XK) : Prop := ∃ p, ∃ m : Int, a = .ref p ∧ b = .int m ∧ Stt w p ∧ 0 < m ∧ m < 2 ^ 200 ∧ ∀ v d, Ext (One p) w v → Stt v p → 0 ≤ d → d < m → Q (.int d) v.H
theorem ok_l_pull {f : Addr} {fd : FuncData} {C_Entry C_Within C_At C_Between C_Table C_Read C_Log C_LogError C_NoEntry C_NoMoment C_NoName C_NoPlace C_NoReading : Addr} (F : Fun K "_law_pull" "_law_pull" s_l_pull f fd) (T : Txt K mg C_Entry C_Within C_At C_Between C_Table C_Read C_Log C_LogError C_NoEntry C_NoMoment C_NoName C_NoPlace C_NoReading) (c_l_mix : Fnc P ww K mg base CX0 1 "_law_mix" (pr2 (p_l_mix))) : FnOk P ww K mg base CX0 2 f fd ["_law_state", "_law_many"] (pr2 (p_l_pull)) := by
  refine F.ok sc_l_pull (fun vs H Q E h => len2 h) (fun cdv A outer s H vs Q E hr h => ?_)
  obtain ⟨w, x0, x1,  rfl, rfl, h⟩ := h
  have ekT := ek_T T
  have oex_NoEntry := T.oex_NoEntry; have xf_NoEntry := T.xf_NoEntry; have ec_NoEntry := T.ec_NoEntry; have xn_NoEntry := T.xn_NoEntry
  have oex_NoMoment := T.oex_NoMoment; have xf_NoMoment := T.xf_NoMoment; have ec_NoMoment := T.ec_NoMoment; have xn_NoMoment := T.xn_NoMoment
  have oex_NoName := T.oex_NoName; have xf_NoName := T.xf_NoName; have ec_NoName := T.ec_NoName; have xn_NoName := T.xn_NoName
  have oex_NoPlace := T.oex_NoPlace; have xf_NoPlace := T.xf_NoPlace; have ec_NoPlace := T.ec_NoPlace; have xn_NoPlace := T.xn_NoPlace
  have oex_NoReading := T.oex_NoReading; have xf_NoReading := T.xf_NoReading; have ec_NoReading := T.ec_NoReading; have xn_NoReading := T.xn_NoReading
  have rel_NoEntry_NoEntry := T.rel_NoEntry_NoEntry
  have exm_NoEntry_NoEntry := T.exm_NoEntry_NoEntry
  refine ⟨_, (pss_cons (ps_if (pt_cmpR g_gt (pe_ix (kIx K) (pv 0) pe_int (fun _ _ => rfl)) pe_int (nomark _)) (pss_cons (ps_set (i := 2) sc_l_pull.nd rfl (Or.inl rfl) (pe_op g_mod (pe_ix (kIx K) (pv 0) pe_int (fun _ _ => rfl)) (pv 1)))
      (pss_cons (ps_asg (pe_op g_div (pe_ix (kIx K) (pv 0) pe_int (fun _ _ => rfl)) (pv 1)) (pg_sub (pv 0) pe_int set_list))
      (pss_one (ps_ret (pv 2))))) pss_nil)
      (pss_cons (ps_asg (pe_op (kAdd K) (pe_ix (kIx K) (pv 0) pe_int (fun _ _ => rfl)) pe_int) (pg_sub (pv 0) pe_int set_list))
      (pss_cons (ps_set (i := 3) sc_l_pull.nd rfl (Or.inl rfl) (pe_fn c_l_mix hr (by decide) pass0 (pa_cons (pe_ix (kIx K) (pv 0) pe_int (fun _ _ => rfl)) (pa_cons (pe_op (kMul K) pe_int (pe_ix (kIx K) (pv 0) pe_int (fun _ _ => rfl))) pa_nil))))
      (pss_cons (ps_set (i := 4) sc_l_pull.nd rfl (Or.inl rfl) (pe_fn c_l_mix hr (by decide) pass0 (pa_cons (pe_ix (kIx K) (pv 0) pe_int (fun _ _ => rfl)) (pa_cons (pe_op (kAdd K) (pe_op (kMul K) pe_int (pe_ix (kIx K) (pv 0) pe_int (fun _ _ => rfl))) pe_int) pa_nil))))
      (pss_one (ps_ret (pe_op g_mod (pe_op (kAdd K) (pe_op (kMul K) (pv 3) pe_int) (pv 4)) (pv 1)))))))), ?_⟩
  rw [st_l_pull]
  obtain ⟨p, m, rfl, rfl, ⟨l, s, t, hl, o⟩, h1, h2, q⟩ := h
  ((with_reducible refine s_seq ?_); (with_reducible refine s_ifS ?_); (with_reducible refine s_test ?_); (with_reducible refine s_op ?_); (with_reducible refine s_op ?_); (with_reducible refine' s_var ?q80 ?q81); (case q80 => exact rfl); (with_reducible refine s_c ?_); (with_reducible refine' s_ixO ?q88 ?q89 ?q90); (case q88 => assumption); (case q89 => exact rfl); (with_reducible refine s_c ?_); (with_reducible refine s_gt ?_); (with_reducible refine s_bl ?_))
  refine ite_d (fun hb => ?_) (fun hb => ?_)
  · ((with_reducible refine s_seq ?_); (with_reducible refine s_asg ?_); (with_reducible refine s_op ?_); (with_reducible refine s_op ?_); (with_reducible refine' s_var ?q91 ?q92); (case q91 => exact rfl); (with_reducible refine s_c ?_); (with_reducible refine' s_ixO ?q99 ?q100 ?q101); (case q99 => assumption); (case q100 => exact rfl); (with_reducible refine' s_var ?q102 ?q103); (case q102 => exact rfl); (with_reducible refine s_mod ?q104 ?q105); (case q104 => assumption); (with_reducible refine' s_gname ?q106 ?q107); (case q106 => simp only [ List.set_cons_succ , List.set_cons_zero ]; exact rfl); (with_reducible refine s_seq ?_); (with_reducible refine s_asg ?_); (with_reducible refine s_op ?_); (with_reducible refine s_op ?_); (with_reducible refine' s_var ?q108 ?q109); (case q108 => exact rfl); (with_reducible refine s_c ?_); (with_reducible refine' s_ixO ?q116 ?q117 ?q118); (case q116 => assumption); (case q117 => exact rfl); (with_reducible refine' s_var ?q119 ?q120); (case q119 => exact rfl); (with_reducible refine s_div ?q121 ?q122); (case q121 => exact divW ( by omega ) ( by omega )); (with_reducible refine s_gsub ?_); (with_reducible refine' s_var ?q123 ?q124); (case q123 => exact rfl); (with_reducible refine s_c ?_); (with_reducible refine' s_setL ?q125 ?q126 ?q127); (case q125 => assumption); (case q126 => exact rfl); intro _ _ _; (with_reducible refine s_ret ?_); (with_reducible refine' s_var ?q128 ?q129); (case q128 => exact rfl))
    refine q _ _ (by (assumption)) ⟨_, _, _, ?_, by (assumption)⟩ (Int.emod_nonneg _ (by omega)) (Int.emod_lt_of_pos _ h1)
    exact Int.ediv_nonneg hl (by omega)
  · ((with_reducible refine s_next ?_); (with_reducible refine s_seq ?_); (with_reducible refine s_asg ?_); (with_reducible refine s_op ?_); (with_reducible refine s_op ?_); (with_reducible refine' s_var ?q130 ?q131); (case q130 => exact rfl); (with_reducible refine s_c ?_); (with_reducible refine' s_ixO ?q138 ?q139 ?q140); (case q138 => assumption); (case q139 => exact rfl); (with_reducible refine s_c ?_); (with_reducible refine s_add ?_); (with_reducible refine s_gsub ?_); (with_reducible refine' s_var ?q141 ?q142); (case q141 => exact rfl); (with_reducible refine s_c ?_); (with_reducible refine' s_setL ?q143 ?q144 ?q145); (case q143 => assumption); (case q144 => exact rfl); intro _ _ _; (with_reducible refine s_seq ?_); (with_reducible refine s_asg ?_); (with_reducible refine s_call ?_); (with_reducible refine s_cons ?_); (with_reducible refine s_op ?_); (with_reducible refine' s_var ?q146 ?q147); (case q146 => exact rfl); (with_reducible refine s_c ?_); (with_reducible refine' s_ixO ?q156 ?q157 ?q158); (case q156 => assumption); (case q157 => exact rfl); (with_reducible refine s_cons ?_); (with_reducible refine s_op ?_); (with_reducible refine s_c ?_); (with_reducible refine s_op ?_); (with_reducible refine' s_var ?q159 ?q160); (case q159 => exact rfl); (with_reducible refine s_c ?_); (with_reducible refine' s_ixO ?q169 ?q170 ?q171); (case q169 => assumption); (case q170 => exact rfl); (with_reducible refine s_mul ?q172 ?q173); (case q172 => exact .inl ( .inl ⟨ by decide , by decide ⟩ )); (with_reducible refine s_nil ?_); (with_reducible refine s_pr2 ?_))
    refine ⟨_, _, rfl, rfl, fun v1 r1 e1 a1 b1 => ?_⟩
    ((with_reducible refine' s_gname ?q174 ?q175); (case q174 => simp only [ List.set_cons_succ , List.set_cons_zero ]; exact rfl); (with_reducible refine s_seq ?_); (with_reducible refine s_asg ?_); (with_reducible refine s_call ?_); (with_reducible refine s_cons ?_); (with_reducible refine s_op ?_); (with_reducible refine' s_var ?q176 ?q177); (case q176 => exact rfl); (with_reducible refine s_c ?_); (with_reducible refine' s_ixO ?q188 ?q189 ?q190); (case q188 => refine' Own.ext ( by assumption ) ?q191 ?q192; (case q191 => exact fun h => h); (case q192 => assumption)); (case q189 => exact rfl); (with_reducible refine s_cons ?_); (with_reducible refine s_op ?_); (with_reducible refine s_op ?_); (with_reducible refine s_c ?_); (with_reducible refine s_op ?_); (with_reducible refine' s_var ?q193 ?q194); (case q193 => exact rfl); (with_reducible refine s_c ?_); (with_reducible refine' s_ixO ?q205 ?q206 ?q207); (case q205 => refine' Own.ext ( by assumption ) ?q208 ?q209; (case q208 => exact fun h => h); (case q209 => assumption)); (case q206 => exact rfl); (with_reducible refine s_mul ?q210 ?q211); (case q210 => exact .inl ( .inl ⟨ by decide , by decide ⟩ )); (with_reducible refine s_c ?_); (with_reducible refine s_add ?_); (with_reducible refine s_nil ?_); (with_reducible refine s_pr2 ?_))
    refine ⟨_, _, rfl, rfl, fun v2 r2 e2 a2 b2 => ?_⟩
    ((with_reducible refine' s_gname ?q212 ?q213); (case q212 => simp only [ List.set_cons_succ , List.set_cons_zero ]; exact rfl); (with_reducible refine s_ret ?_); (with_reducible refine s_op ?_); (with_reducible refine s_op ?_); (with_reducible refine s_op ?_); (with_reducible refine' s_var ?q214 ?q215); (case q214 => exact rfl); (with_reducible refine s_c ?_); (with_reducible refine s_mul ?q216 ?q217); (case q216 => exact .inl ( .inr ⟨ by decide , by decide ⟩ )); (with_reducible refine' s_var ?q218 ?q219); (case q218 => exact rfl); (with_reducible refine s_add ?_); (with_reducible refine' s_var ?q220 ?q221); (case q220 => exact rfl); (with_reducible refine s_mod ?q222 ?q223); (case q222 => assumption))
    exact q _ _ (by (refine' Ext.step ?q224 ?q225 ?q226; (case q225 => assumption); (case q224 => refine' Ext.step ?q227 ?q228 ?q229; (case q228 => assumption); (case q227 => assumption); (case q229 => exact fun _ z => z.elim)); (case q226 => exact fun _ z => z.elim))) ⟨_, _, _, hl, by (refine' Own.ext ( by assumption ) ?q230 ?q231; (case q230 => exact fun h => h); (case q231 => refine' Own.ext ( by assumption ) ?q232 ?q233; (case q232 => exact fun h => h); (case q233 => assumption)))⟩ (Int.emod_nonneg _ (by omega)) (Int.emod_lt_of_pos _ h1)
theorem pull_s {w : Wd} {p : Addr} {m : Int} {Q : VK} {E : XK} (pu : Stt w p) (a : 0 < m) (b : m < 2 ^ 200) (k : ∀ v d, Ext (One p) w v → Stt v p → 0 ≤ d → d < m → Q (.int d) v.H) : p_l_pull w (.ref p) (.int m) Q E := ⟨p, m, rfl, rfl, pu, a, b, k⟩
local macro_rules | `(tactic| wtm_at "go1") => `(tactic|
  (with_reducible refine' pull_s ?pu ?a ?b ?k; (case pu => wtm_at "stt"); (case a => first | decide | omega); (case b => first | decide | omega); (intro _v _d _e _pu _h0 _h1)))
abbrev nm_l_names : List Str := ["_law_state", "_law_many", "_law_letters", "_law_size", "_law_at", "_law_k", "_law_base", "_law_first", "_law_step", "_law_names_here", "_law_behind", "_law_sign"]
theorem sc_l_names : FnScope nm_l_names ["_law_state", "_law_many"] (defScope s_l_names) := ⟨rfl, rfl, rfl, by decide +kernel, rfl, by decide +kernel, by decide +kernel⟩
theorem st_l_names (a b : V) : start nm_l_names [a, b] = [some a, some b, none, none, none, none, none, none, none, none, none, none] := rfl
def p_l_names (w : Wd) (a b : V) (Q : VK) (_ : XK) : Prop := ∃ p, ∃ m : Int, a = .ref p ∧ b = .int m ∧ Stt w p ∧ 0 ≤ m ∧ m < 1000 ∧ ∀ v r zs, Ext (One p) w v → Stt v p → v.S r = some (.lst (zs.map V.str)) → NmsOk zs m → Q (.ref r) v.H
theorem ok_l_names {f : Addr} {fd : FuncData} {C_Entry C_Within C_At C_Between C_Table C_Read C_Log C_LogError C_NoEntry C_NoMoment C_NoName C_NoPlace C_NoReading : Addr} (F : Fun K "_law_names" "_law_names" s_l_names f fd) (T : Txt K mg C_Entry C_Within C_At C_Between C_Table C_Read C_Log C_LogError C_NoEntry C_NoMoment C_NoName C_NoPlace C_NoReading) (c_l_pull : Fnc P ww K mg base CX0 2 "_law_pull" (pr2 (p_l_pull))) : FnOk P ww K mg base CX0 3 f fd ["_law_state", "_law_many"] (pr2 (p_l_names)) := by
  refine F.ok sc_l_names (fun vs H Q E h => len2 h) (fun cdv A outer s H vs Q E hr h => ?_)
  obtain ⟨w, x0, x1,  rfl, rfl, h⟩ := h
  have ekT := ek_T T
  have oex_NoEntry := T.oex_NoEntry; have xf_NoEntry := T.xf_NoEntry; have ec_NoEntry := T.ec_NoEntry; have xn_NoEntry := T.xn_NoEntry
  have oex_NoMoment := T.oex_NoMoment; have xf_NoMoment := T.xf_NoMoment; have ec_NoMoment := T.ec_NoMoment; have xn_NoMoment := T.xn_NoMoment
  have oex_NoName := T.oex_NoName; have xf_NoName := T.xf_NoName; have ec_NoName := T.ec_NoName; have xn_NoName := T.xn_NoName
  have oex_NoPlace := T.oex_NoPlace; have xf_NoPlace := T.xf_NoPlace; have ec_NoPlace := T.ec_NoPlace; have xn_NoPlace := T.xn_NoPlace
  have oex_NoReading := T.oex_NoReading; have xf_NoReading := T.xf_NoReading; have ec_NoReading := T.ec_NoReading; have xn_NoReading := T.xn_NoReading
  have rel_NoEntry_NoEntry := T.rel_NoEntry_NoEntry
  have exm_NoEntry_NoEntry := T.exm_NoEntry_NoEntry
  refine ⟨_, (pss_cons (ps_set (i := 2) sc_l_names.nd rfl (Or.inr rfl) pe_str)
      (pss_cons (ps_set (i := 3) sc_l_names.nd rfl (Or.inl rfl) (pe_op (kAdd K) pe_int (pe_fn c_l_pull hr (by decide) pass0 (pa_cons (pv 0) (pa_cons pe_int pa_nil)))))
      (pss_cons (ps_set (i := 4) sc_l_names.nd rfl (Or.inl rfl) (pe_fn c_l_pull hr (by decide) pass0 (pa_cons (pv 0) (pa_cons (pv 3) pa_nil))))
      (pss_cons (ps_setLc (i := 6) (own := [("_law_k", 5)]) (g := (gName 5)) (tt := tYes) (by rfl) sc_l_names.nd rfl rfl (sw_true rfl rfl rfl (by decide +kernel)) (pi_range1 rfl T.n_range (pa_cons (pv 3) pa_nil)) (blkOk_by (own := [("_law_k", 5)]) (N := nm_l_names) (sc := defScope s_l_names) (by decide +kernel)) (fun _ _ _ _ _ => (pg_name (i := 5) sc_l_names.nd rfl (Or.inl rfl))) (fun _ _ _ _ _ => pts_nil) (fun _ _ _ _ _ => (pe_ix (kIx K) (pv 2) (pe_fn c_l_pull hr (by decide) pass0 (pa_cons (pv 0) (pa_cons pe_int pa_nil))) (fun _ _ => rfl))))
      (pss_cons (ps_set (i := 7) sc_l_names.nd rfl (Or.inl rfl) (pe_fn c_l_pull hr (by decide) pass0 (pa_cons (pv 0) (pa_cons pe_int pa_nil))))
      (pss_cons (ps_set (i := 8) sc_l_names.nd rfl (Or.inl rfl) (pe_ix (kIx K) (pe_lst (pa_cons pe_int (pa_cons pe_int (pa_cons pe_int (pa_cons pe_int (pa_cons pe_int (pa_cons pe_int (pa_cons pe_int (pa_cons pe_int (pa_cons pe_int (pa_cons pe_int (pa_cons pe_int (pa_cons pe_int pa_nil))))))))))))) (pe_fn c_l_pull hr (by decide) pass0 (pa_cons (pv 0) (pa_cons pe_int pa_nil))) (fun _ _ => rfl)))
      (pss_cons (ps_set (i := 9) sc_l_names.nd rfl (Or.inl rfl) (pe_lst pa_nil))
      (pss_cons (ps_for PassesOwn.never rfl (pi_range1 rfl T.n_range (pa_cons (pv 1) pa_nil)) (pg_name (i := 5) sc_l_names.nd rfl (Or.inl rfl)) (pss_cons (ps_set (i := 10) sc_l_names.nd rfl (Or.inl rfl) (pe_slice (kSl K) (pv 6) (po_some (pe_op (kAdd K) (pv 4) pe_int)) (po_some (pe_op (kAdd K) (pe_op (kAdd K) (pv 4) pe_int) (pe_fn c_l_pull hr (by decide) pass0 (pa_cons (pv 0) (pa_cons (pe_op g_sub (pv 3) (pv 4)) pa_nil)))))))
      (pss_cons (ps_set (i := 11) sc_l_names.nd rfl (Or.inl rfl) (pe_ix (kIx K) (pv 2) (pe_op g_mod (pe_op (kAdd K) (pv 7) (pe_op (kMul K) (pv 8) (pv 5))) pe_int) (fun _ _ => rfl)))
      (pss_one (ps_expr (pe_bm PySem.F.plainAttrs_list PySem.F.slot_list_append PySem.F.type_list_append mt_append (pv 9) (pa_cons (pe_op (kAdd K) (pe_op (kAdd K) (pe_join pe_str (pe_slice (kSl K) (pv 6) po_none (po_some (pv 4)))) (pv 11)) (pe_join pe_str (pv 10))) pa_nil)))))))
      (pss_one (ps_ret (pv 9))))))))))), ?_⟩
  rw [st_l_names]
  obtain ⟨p, m, rfl, rfl, pu, hm0, hm1, k⟩ := h
  wtm_at "gs"
  rename_i v1 sz0 e1 pu1 h10 h11 v2 at0 e2 pu2 h20 h21
  have e12 : Ext (One p) w v2 := e1.trans e2
  clear e1 e2 pu pu1
  intro D hD
  have hpD : p ≠ D := stt_new' hD pu2
  refine lc_rngI (α := Nat) (P := fun c => 97 ≤ c ∧ c ≤ 122) (gd := fun c => .str (sgl c)) (One p) (fun u => Stt u p) hD (fun h => hpD h.symm) (by rw [sizeLine_eq]; omega) (fun u e => pu2.go e (fun z => z)) (fun u v h e => h.go e hpD) ?_ ?_
  · intro i u hi eu pu2 R Z hR
    ((with_reducible refine' s_gname ?q25 ?q26); (case q25 => exact rfl))
    refine ⟨rfl, s_yes (ite_tt ?_)⟩
    wtm_at "gs"
    rename_i v3 d3 e3 pu3 h30 h31
    refine s_ixZe (by rw [sizeLine_eq]; decide +kernel) h30 (by have h26 : (Str.ofString "abcdefghijklmnopqrstuvwxyz").length = 26 := (by decide +kernel); omega) fun c hc => ?_
    have := letter_at hc
    exact hR _ _ c e3 pu3 (by omega) (.str _)
  · intro u acc cs eu pu2 hD' o hr hl hP
    have hr' : RpA u.S acc ((cs.map sgl).map PyData.str) := by rw [List.map_map]; exact hr
    obtain rfl := RpA.strs_inv hr'
    show gName 6 _ _ _ _
    refine lay (R := fun H => gName 6 (V.ref D) _ H _) o fun v3 e3 s3 => ?_
    have hpD' : ¬ One D p := hpD
    have pu3 : Stt v3 p := pu2.go e3 hpD'
    have ew3 : Ext (One p) w v3 := (e12.trans eu).step e3 fun b hb => .inl (by rw [show b = D from hb]; exact e12.back hD)
    clear e12 eu pu2 e3 hr hr' o hD hD'
    have hcl : cs.length ≤ 8 := by omega
    wtm_at "go"
    rename_i v4 fi e4 pu4 h40 h41 l5 v5 e5 n5 o5 v6 d6 e6 pu6 h60 h61
    ((with_reducible refine' s_ixOm ?q88 ?q89 ?q90 ?q91); (case q88 => refine' Own.ext ( by assumption ) ?q92 ?q93; (case q92 => refine nm_one ?_; refine' stt_new ?q94 ?q95; (case q94 => assumption); (case q95 => assumption)); (case q93 => assumption)); (case q89 => omega); (case q90 => omega))
    intro v hv hm
    clear hv
    obtain ⟨st, rfl, hst⟩ : ∃ n : Nat, v = .int (n : Int) ∧ n ∈ [1, 3, 5, 7, 9, 11, 15, 17, 19, 21, 23, 25] := by
      simp only [List.mem_cons, List.not_mem_nil, or_false] at hm
      rcases hm with rfl | rfl | rfl | rfl | rfl | rfl | rfl | rfl | rfl | rfl | rfl | rfl
      · exact ⟨1, rfl, by decide⟩
      · exact ⟨3, rfl, by decide⟩
      · exact ⟨5, rfl, by decide⟩
      · exact ⟨7, rfl, by decide⟩
      · exact ⟨9, rfl, by decide⟩
      · exact ⟨11, rfl, by decide⟩
      · exact ⟨15, rfl, by decide⟩
      · exact ⟨17, rfl, by decide⟩
      · exact ⟨19, rfl, by decide⟩
      · exact ⟨21, rfl, by decide⟩
      · exact ⟨23, rfl, by decide⟩
      · exact ⟨25, rfl, by decide⟩
    have ew6 : Ext (One p) w v6 := ew3.trans (e4.trans ((e5.more fun _ z => z.elim).trans e6))
    have s6 : v6.S D = some (.lst ((cs.map sgl).map V.str)) := st_go e6 (st_go e5 (st_go e4 s3))
    have hst25 : st ≤ 25 := by
      revert hst
      simp only [List.mem_cons, List.not_mem_nil, or_false]
      omega
    clear e4 e5 e6 n5 o5 ew3 s3 pu3 pu4 hm
    ((with_reducible refine' s_gname ?q96 ?q97); (case q96 => simp only [ List.set_cons_succ , List.set_cons_zero ]; exact rfl); (with_reducible refine s_seq ?_); (with_reducible refine s_asg ?_); (with_reducible refine t_lst ?_); (with_reducible refine s_nil ?_); (with_reducible refine' t_newL ?q98 ?q99); (case q98 => simp only [ List.length , sizeLine_eq ]; omega); intro _ _ _ _ _; (with_reducible refine' s_gname ?q100 ?q101); (case q100 => simp only [ List.set_cons_succ , List.set_cons_zero ]; exact rfl); (with_reducible refine s_seq ?_); (with_reducible refine s_for ?_); (with_reducible refine s_iRng1 ?_); (with_reducible refine s_cons ?_); (with_reducible refine' s_var ?q102 ?q103); (case q102 => exact rfl); (with_reducible refine s_nil ?_); refine' ⟨ _ , rfl , ?q104 , ?q105 , ?q106 ⟩; (case q104 => show ( - ( 2 ^ 62 ) : Int ) ≤ _; omega); (case q105 => show _ < ( 2 ^ 62 : Int ); omega))
    rename_i l7 v7 e7 n7 o7
    obtain ⟨f0, rfl⟩ := Int.eq_ofNat_of_zero_le h40
    obtain ⟨at1, rfl⟩ := Int.eq_ofNat_of_zero_le h20
    have hne : p ≠ l7 := stt_new' n7 pu6
    have pu7 : Stt v7 p := pu6.go e7 fun z => z
    have s7 : v7.S D = some (.lst ((cs.map sgl).map V.str)) := st_go e7 s6
    refine forW (ww_range (lo := 0) (m := m.toNat)) (fun i σ u => Ext (Two p l7) v7 u ∧ Stt u p ∧ ∃ (zs : List Str) (g5 g10 g11 : Option V), σ = [some (V.ref p), some (V.int m), some (V.str (Str.ofString "abcdefghijklmnopqrstuvwxyz")), some (V.int (1 + sz0)), some (V.int (at1 : Int)), g5, some (V.ref D), some (V.int (f0 : Int)), some (V.int (st : Int)), some (V.ref l7), g10, g11] ∧ Own u l7 (.lst (zs.map V.str)) ∧ zs.length = i ∧ NmInv (cs.take at1) f0 st zs)
      ⟨Ext.refl _ _, pu7, [], _, _, _, rfl, o7, rfl, .nil⟩ (fun _ _ _ _ _ => trivial) ?_ ?_
    · rintro i x σ _ u hi ⟨eu, puu, zs, g5, g10, g11, rfl, ou, hzl, inv⟩ ⟨rfl, rfl⟩
      have su : u.S D = some (.lst ((cs.map sgl).map V.str)) := st_go eu s7
      wtm_at "gs"
      rename_i v8 d8 e8 pu8 h80 h81 b8 v9 e9 n9 s9
      have o8 : Own v8 l7 _ := ou.ext e8 (fun z => hne z.symm)
      have o9 : Own v9 l7 _ := o8.ext e9 fun z => z
      have pu9 : Stt v9 p := pu8.go e9 fun z => z
      have hx : ((f0 : Int) + (st : Int) * (0 + (i : Int))) % 26 = (((f0 + st * i) % 26 : Nat) : Int) := by rw [Int.zero_add]; norm_cast
      rw [hx]
      have hlt : (f0 + st * i) % 26 < 26 := Nat.mod_lt _ (by decide)
      generalize hqq : (f0 + st * i) % 26 = qq at hlt
      refine s_ixZe (by rw [sizeLine_eq]; decide +kernel) (by omega) (by have h26 : (Str.ofString "abcdefghijklmnopqrstuvwxyz").length = 26 := (by decide +kernel); omega) fun c hc => ?_
      rw [Int.toNat_natCast] at hc
      obtain ⟨hc1, _⟩ := letter_at hc
      ((with_reducible refine' s_gname ?q143 ?q144); (case q143 => simp only [ List.set_cons_succ , List.set_cons_zero ]; exact rfl); (with_reducible refine s_drop ?_); (with_reducible refine s_BM ?_); (with_reducible refine' s_var ?q145 ?q146); (case q145 => exact rfl); (with_reducible refine' s_ty ?q147 ?q148); (case q147 => assumption); (with_reducible refine s_cons ?_); (with_reducible refine s_op ?_); (with_reducible refine s_op ?_); (with_reducible refine s_m1 ?_); (with_reducible refine s_c ?_); (with_reducible refine s_isS ?_); (with_reducible refine s_sl ?_); (with_reducible refine' s_var ?q149 ?q150); (case q149 => exact rfl); (with_reducible refine s_nopart ?_); (with_reducible refine s_part ?_); (with_reducible refine' s_var ?q151 ?q152); (case q151 => exact rfl); (with_reducible refine s_int ?_); (with_reducible refine' s_slS ?q153 ?q154); (case q153 => refine' SqL.of ( Wd.ok _ _ _ ?q155 ); (case q155 => refine' st_go ( by assumption ) ?q156; (case q156 => refine' st_go ( by assumption ) ?q157; (case q157 => assumption)))); intro _ _ _ _ _)
      rename_i p10 v10 e10 n10 s10
      rw [cut_mapT (f := V.str) (by omega), ← List.map_take, Int.toNat_natCast] at s10
      obtain ⟨kk, hkk⟩ := cut_mapF (f := V.str) (xs := cs.map sgl) (a := (at1 : Int) + 1) (b := (at1 : Int) + 1 + d8) (by omega)
      rw [hkk, show ((at1 : Int) + 1).toNat = at1 + 1 from by omega, ← List.map_drop, ← List.map_take] at s9
      have hcs1 : ∀ c ∈ cs.take at1, 97 ≤ c ∧ c ≤ 122 := fun c hc => hP c (List.mem_of_mem_take hc)
      have hcs2 : ∀ c ∈ (cs.drop (at1 + 1)).take kk, 97 ≤ c ∧ c ≤ 122 := fun c hc => hP c (List.mem_of_mem_drop (List.mem_of_mem_take hc))
      have hl1 : (cs.take at1).length = at1 := by rw [List.length_take]; omega
      have hl2 : ((cs.drop (at1 + 1)).take kk).length ≤ cs.length - (at1 + 1) := by rw [List.length_take, List.length_drop]; omega
      generalize (cs.drop (at1 + 1)).take kk = post at s9 hcs2 hl2
      generalize hpre : cs.take at1 = pre at s10 hcs1 hl1 inv
      refine ⟨_, _, pre.map sgl, rfl, rfl, .inl (SqL.of (v10.ok _ _ s10)), join_sz hcs1 (by omega), ?_⟩
      rw [TL.join_eq]
      obtain ⟨z1, hz1e, hz1⟩ : ∃ z, Str.join (Str.ofString "") (pre.map sgl) = z ∧ tl z = pre := ⟨_, rfl, join_sgl _⟩
      rw [hz1e]
      have hz1l : z1.length = at1 := by rw [← hl1, ← hz1]; exact (len_tl z1).symm
      have t1 : Tx 8 z1 := ⟨by omega, fun c hc => by have := hcs1 c (by rw [← hz1]; exact hc); omega⟩
      have tc : Tx 1 (⟨#[c]⟩ : Str) := Tx.one (by omega)
      ((with_reducible refine' s_var ?q158 ?q159); (case q158 => exact rfl); (with_reducible refine' s_addZ ?q160 ?q161); (case q160 => refine' Tx.sum ?q162 ?q163 ?q164; (case q162 => assumption); (case q163 => assumption); (case q164 => decide)); (with_reducible refine s_m1 ?_); (with_reducible refine s_c ?_); (with_reducible refine s_isS ?_); (with_reducible refine' s_var ?q165 ?q166); (case q165 => exact rfl))
      have s9' : v10.S b8 = some (.lst ((post.map sgl).map V.str)) := st_go e10 s9
      refine ⟨_, _, post.map sgl, rfl, rfl, .inl (SqL.of (v10.ok _ _ s9')), join_sz hcs2 (by omega), ?_⟩
      rw [TL.join_eq]
      obtain ⟨z2, hz2e, hz2⟩ : ∃ z, Str.join (Str.ofString "") (post.map sgl) = z ∧ tl z = post := ⟨_, rfl, join_sgl _⟩
      rw [hz2e]
      have hz2l : z2.length = post.length := by rw [← hz2]; exact (len_tl z2).symm
      have t2 : Tx 8 z2 := ⟨by omega, fun c hc => by have := hcs2 c (by rw [← hz2]; exact hc); omega⟩
      have t12 : Tx 9 (z1 ++ ⟨#[c]⟩) := Tx.app t1 tc
      have o10 : Own v10 l7 _ := o9.ext e10 fun z => z
      have pu10 : Stt v10 p := pu9.go e10 fun z => z
      have e710 : Ext (Two p l7) v7 v10 := (eu.trans (e8.more fun b hb => .inr (.inl hb))).trans ((e9.trans e10).more fun _ z => z.elim)
      have htl : tl (z1 ++ ⟨#[c]⟩ ++ z2) = pre ++ (97 + qq) :: post := by rw [tl_append, tl_append, hz1, hz2, hc1]; simp [tl_one]
      clear eu e8 e9 e10 o8 o9 ou puu pu8 pu9 s9 s9' s10
      ((with_reducible refine' s_addZ ?q167 ?q168); (case q167 => refine' Tx.sum ?q169 ?q170 ?q171; (case q169 => assumption); (case q170 => assumption); (case q171 => decide)); (with_reducible refine s_nil ?_); (with_reducible refine' s_app ?q172 ?q173 ?q174); (case q172 => assumption); (case q173 => simp only [ List.length_append , List.length_cons , List.length_nil , List.length_map , List.length_reverse , List.length_replicate , sizeLine_eq ]; omega); intro _ _ _; (with_reducible refine wds_i ?_))
      rename_i v11 e11 o11
      refine ⟨e710.trans (e11.more fun b hb => .inr (.inr hb)), pu10.go e11 (fun h => hne h), zs ++ [z1 ++ ⟨#[c]⟩ ++ z2], _, _, _, rfl, ?_, by rw [List.length_append, hzl]; rfl, inv.snoc ⟨?_, ?_, ?_⟩ ⟨post, by rw [hzl, hqq]; exact htl⟩⟩
      · rw [List.map_append]
        exact o11
      · rw [htl, List.length_append, List.length_cons]
        omega
      · rw [htl]
        simp
      · rw [htl]
        intro d hd
        rcases List.mem_append.mp hd with hd | hd
        · exact hcs1 d hd
        · rcases List.mem_cons.mp hd with rfl | hd
          · omega
          · exact hcs2 d hd
    · rintro σ u ⟨eu, puu, zs, g5, g10, g11, rfl, ou, hzl, inv⟩
      ((with_reducible refine s_ret ?_); (with_reducible refine' s_var ?q175 ?q176); (case q175 => exact rfl))
      refine lay (R := fun H => Q (.ref l7) H) ou fun v e s => ?_
      have npl : w.H l7 = none := ew6.back n7
      refine k v l7 zs ?_ (puu.go e fun h => hne h) s ⟨hzl, fun z hz => ?_, fun h26 => inv.nodup hst (by omega)⟩
      · exact (((ew6.trans (e7.more fun _ z => z.elim)).step eu fun b hb => hb.elim .inr fun h => .inl (by rw [h]; exact npl))).step e fun b hb => .inl (by rw [show b = l7 from hb]; exact npl)
      · obtain ⟨i, hi, rfl⟩ := List.mem_iff_getElem.mp hz
        exact (inv i _ (List.getElem?_eq_getElem hi)).1
abbrev nm_l_shift : List Str := ["_law_state", "_law_way"]
theorem sc_l_shift : FnScope nm_l_shift ["_law_state"] (defScope s_l_shift) := ⟨rfl, rfl, rfl, by decide +kernel, rfl, by decide +kernel, by decide +kernel⟩
theorem st_l_shift (a : V) : start nm_l_shift [a] = [some a, none] := rfl
def p_l_shift (w : Wd) (a : V) (Q : VK) (_ : XK) : Prop := ∃ p, a = .ref p ∧ Stt w p ∧ ∀ v d, Ext (One p) w v → Stt v p → -2880 ≤ d → d ≤ 2880 → Q (.int d) v.H
theorem ok_l_shift {f : Addr} {fd : FuncData} {C_Entry C_Within C_At C_Between C_Table C_Read C_Log C_LogError C_NoEntry C_NoMoment C_NoName C_NoPlace C_NoReading : Addr} (F : Fun K "_law_shift" "_law_shift" s_l_shift f fd) (T : Txt K mg C_Entry C_Within C_At C_Between C_Table C_Read C_Log C_LogError C_NoEntry C_NoMoment C_NoName C_NoPlace C_NoReading) (c_l_pull : Fnc P ww K mg base CX0 2 "_law_pull" (pr2 (p_l_pull))) : FnOk P ww K mg base CX0 3 f fd ["_law_state"] (pr1 (p_l_shift)) := by
  refine F.ok sc_l_shift (fun vs H Q E h => len1 h) (fun cdv A outer s H vs Q E hr h => ?_)
  obtain ⟨w, x0,  rfl, rfl, h⟩ := h
  have ekT := ek_T T
  have oex_NoEntry := T.oex_NoEntry; have xf_NoEntry := T.xf_NoEntry; have ec_NoEntry := T.ec_NoEntry; have xn_NoEntry := T.xn_NoEntry
  have oex_NoMoment := T.oex_NoMoment; have xf_NoMoment := T.xf_NoMoment; have ec_NoMoment := T.ec_NoMoment; have xn_NoMoment := T.xn_NoMoment
  have oex_NoName := T.oex_NoName; have xf_NoName := T.xf_NoName; have ec_NoName := T.ec_NoName; have xn_NoName := T.xn_NoName
  have oex_NoPlace := T.oex_NoPlace; have xf_NoPlace := T.xf_NoPlace; have ec_NoPlace := T.ec_NoPlace; have xn_NoPlace := T.xn_NoPlace
  have oex_NoReading := T.oex_NoReading; have xf_NoReading := T.xf_NoReading; have ec_NoReading := T.ec_NoReading; have xn_NoReading := T.xn_NoReading
  have rel_NoEntry_NoEntry := T.rel_NoEntry_NoEntry
  have exm_NoEntry_NoEntry := T.exm_NoEntry_NoEntry
  refine ⟨_, (pss_cons (ps_set (i := 1) sc_l_shift.nd rfl (Or.inl rfl) (pe_fn c_l_pull hr (by decide) pass0 (pa_cons (pv 0) (pa_cons pe_int pa_nil))))
      (pss_cons (ps_if (pt_cmpR (kEq K hr.units) (pv 1) pe_int (nomark _)) (pss_one (ps_ret (pe_op (kMul K) pe_int (pe_op g_sub (pe_fn c_l_pull hr (by decide) pass0 (pa_cons (pv 0) (pa_cons pe_int pa_nil))) pe_int)))) pss_nil)
      (pss_cons (ps_if (pt_cmpR (kEq K hr.units) (pv 1) pe_int (nomark _)) (pss_one (ps_ret (pe_op g_sub (pe_fn c_l_pull hr (by decide) pass0 (pa_cons (pv 0) (pa_cons pe_int pa_nil))) pe_int))) pss_nil)
      (pss_one (ps_ret (pe_op g_sub (pe_fn c_l_pull hr (by decide) pass0 (pa_cons (pv 0) (pa_cons pe_int pa_nil))) pe_int)))))), ?_⟩
  rw [st_l_shift]
  obtain ⟨p, rfl, pu, k⟩ := h
  wtm_at "go"
  refine ite_d (fun c => ?_) (fun c => ?_)
  · wtm_at "go"
    exact k _ _ (by (refine' Ext.step ?q18 ?q19 ?q20; (case q19 => assumption); (case q18 => assumption); (case q20 => refine tch_one ?q21; refine Or.inr ?_; rfl))) (by (assumption)) (by omega) (by omega)
  · ((with_reducible refine s_next ?_); (with_reducible refine s_seq ?_); (with_reducible refine s_ifS ?_); (with_reducible refine s_test ?_); (with_reducible refine s_op ?_); (with_reducible refine' s_var ?q22 ?q23); (case q22 => exact rfl); (with_reducible refine s_c ?_); (with_reducible refine s_eqI ?_); (with_reducible refine s_bl ?_))
    refine ite_d (fun c => ?_) (fun c => ?_)
    · wtm_at "go"
      exact k _ _ (by (refine' Ext.step ?q30 ?q31 ?q32; (case q31 => assumption); (case q30 => assumption); (case q32 => refine tch_one ?q33; refine Or.inr ?_; rfl))) (by (assumption)) (by omega) (by omega)
    · wtm_at "go"
      exact k _ _ (by (refine' Ext.step ?q40 ?q41 ?q42; (case q41 => assumption); (case q40 => assumption); (case q42 => refine tch_one ?q43; refine Or.inr ?_; rfl))) (by (assumption)) (by omega) (by omega)
theorem shift_s {w : Wd} {p : Addr} {Q : VK} {E : XK} (pu : Stt w p) (k : ∀ v d, Ext (One p) w v → Stt v p → -2880 ≤ d → d ≤ 2880 → Q (.int d) v.H) : p_l_shift w (.ref p) Q E := ⟨p, rfl, pu, k⟩
local macro_rules | `(tactic| wtm_at "go1") => `(tactic|
  (with_reducible refine' shift_s ?pu ?k; (case pu => wtm_at "stt"); (intro _v _d _e _pu _h0 _h1)))
abbrev nm_l_rows : List Str := ["_law_state", "_law_unit", "_law_rows_here", "_law_k"]
theorem sc_l_rows : FnScope nm_l_rows ["_law_state"] (defScope s_l_rows) := ⟨rfl, rfl, rfl, by decide +kernel, rfl, by decide +kernel, by decide +kernel⟩
theorem st_l_rows (a : V) : start nm_l_rows [a] = [some a, none, none, none] := rfl
def p_l_rows (w : Wd) (a : V) (Q : VK) (_ : XK) : Prop := ∃ p, a = .ref p ∧ Stt w p ∧ ∀ v r R, Ext (One p) w v → Stt v p → Rp v.S r (spD R) → TabOk R → Q r v.H
theorem ok_l_rows {f : Addr} {fd : FuncData} {C_Entry C_Within C_At C_Between C_Table C_Read C_Log C_LogError C_NoEntry C_NoMoment C_NoName C_NoPlace C_NoReading : Addr} (F : Fun K "_law_rows" "_law_rows" s_l_rows f fd) (T : Txt K mg C_Entry C_Within C_At C_Between C_Table C_Read C_Log C_LogError C_NoEntry C_NoMoment C_NoName C_NoPlace C_NoReading) (c_l_pull : Fnc P ww K mg base CX0 2 "_law_pull" (pr2 (p_l_pull))) (c_l_shift : Fnc P ww K mg base CX0 3 "_law_shift" (pr1 (p_l_shift))) : FnOk P ww K mg base CX0 4 f fd ["_law_state"] (pr1 (p_l_rows)) := by
  refine F.ok sc_l_rows (fun vs H Q E h => len1 h) (fun cdv A outer s H vs Q E hr h => ?_)
  obtain ⟨w, x0,  rfl, rfl, h⟩ := h
  have ekT := ek_T T
  have oex_NoEntry := T.oex_NoEntry; have xf_NoEntry := T.xf_NoEntry; have ec_NoEntry := T.ec_NoEntry; have xn_NoEntry := T.xn_NoEntry
  have oex_NoMoment := T.oex_NoMoment; have xf_NoMoment := T.xf_NoMoment; have ec_NoMoment := T.ec_NoMoment; have xn_NoMoment := T.xn_NoMoment
  have oex_NoName := T.oex_NoName; have xf_NoName := T.xf_NoName; have ec_NoName := T.ec_NoName; have xn_NoName := T.xn_NoName
  have oex_NoPlace := T.oex_NoPlace; have xf_NoPlace := T.xf_NoPlace; have ec_NoPlace := T.ec_NoPlace; have xn_NoPlace := T.xn_NoPlace
  have oex_NoReading := T.oex_NoReading; have xf_NoReading := T.xf_NoReading; have ec_NoReading := T.ec_NoReading; have xn_NoReading := T.xn_NoReading
  have rel_NoEntry_NoEntry := T.rel_NoEntry_NoEntry
  have exm_NoEntry_NoEntry := T.exm_NoEntry_NoEntry
  refine ⟨_, (pss_cons (ps_set (i := 1) sc_l_rows.nd rfl (Or.inl rfl) (pe_ix (kIx K) (pe_lst (pa_cons pe_int (pa_cons pe_int (pa_cons pe_int (pa_cons pe_int (pa_cons (pe_op g_pow pe_int pe_int) pa_nil)))))) (pe_fn c_l_pull hr (by decide) pass0 (pa_cons (pv 0) (pa_cons pe_int pa_nil))) (fun _ _ => rfl)))
      (pss_cons (ps_set (i := 2) sc_l_rows.nd rfl (Or.inl rfl) (pe_lst (pa_cons (pe_tup (pa_cons pe_int (pa_cons (pe_fn c_l_shift hr (by decide) pass0 (pa_cons (pv 0) pa_nil)) pa_nil))) pa_nil)))
      (pss_cons (ps_for PassesOwn.never rfl (pi_range1 rfl T.n_range (pa_cons (pe_fn c_l_pull hr (by decide) pass0 (pa_cons (pv 0) (pa_cons (pe_ix (kIx K) (pe_lst (pa_cons pe_int (pa_cons pe_int (pa_cons pe_int (pa_cons pe_int pa_nil))))) (pe_fn c_l_pull hr (by decide) pass0 (pa_cons (pv 0) (pa_cons pe_int pa_nil))) (fun _ _ => rfl)) pa_nil))) pa_nil)) (pg_name (i := 3) sc_l_rows.nd rfl (Or.inl rfl)) (pss_one (ps_expr (pe_bm PySem.F.plainAttrs_list PySem.F.slot_list_append PySem.F.type_list_append mt_append (pv 2) (pa_cons (pe_tup (pa_cons (pe_op (kAdd K) (pe_op (kAdd K) (pe_ix (kIx K) (pe_ix (kIx K) (pv 2) (pe_un un_neg pe_int) (fun _ _ => rfl)) pe_int (fun _ _ => rfl)) pe_int) (pe_fn c_l_pull hr (by decide) pass0 (pa_cons (pv 0) (pa_cons (pe_op (kMul K) pe_int (pv 1)) pa_nil)))) (pa_cons (pe_fn c_l_shift hr (by decide) pass0 (pa_cons (pv 0) pa_nil)) pa_nil))) pa_nil)))))
      (pss_cons (ps_if (PW.pt (pw_and (pt_cmpR g_gt (pe_callB (kLen K) (by rfl) T.n_len (by decide +kernel) (pa_cons (pv 2) pa_nil)) pe_int (nomark _)) (pw_and1 (pt_cmpR (kEq K hr.units) (pe_fn c_l_pull hr (by decide) pass0 (pa_cons (pv 0) (pa_cons pe_int pa_nil))) pe_int (nomark _))))) (pss_one (ps_asg (pe_tup (pa_cons (pe_op g_pow pe_int pe_int) (pa_cons (pe_ix (kIx K) (pe_ix (kIx K) (pv 2) (pe_un un_neg pe_int) (fun _ _ => rfl)) pe_int (fun _ _ => rfl)) pa_nil))) (pg_sub (pv 2) (pe_un un_neg pe_int) set_list))) pss_nil)
      (pss_one (ps_ret (pv 2))))))), ?_⟩
  rw [st_l_rows]
  obtain ⟨p, rfl, pu, k⟩ := h
  wtm_at "go"
  ((with_reducible refine' s_ixOm ?q86 ?q87 ?q88 ?q89); (case q86 => refine' Own.ext ( by assumption ) ?q90 ?q91; (case q90 => refine nm_one ?_; refine' stt_new ?q92 ?q93; (case q92 => assumption); (case q93 => assumption)); (case q91 => assumption)); (case q87 => omega); (case q88 => omega))
  intro v hv hm
  clear hv
  simp only [List.mem_cons, List.not_mem_nil, or_false] at hm
  obtain ⟨unit, rfl, hu0, hu1⟩ : ∃ n : Int, v = .int n ∧ 1 ≤ n ∧ n ≤ 10000000 := by rcases hm with rfl | rfl | rfl | rfl | rfl <;> exact ⟨_, rfl, by omega, by omega⟩
  clear hm
  wtm_at "go"
  ((with_reducible refine' s_ixOm ?q169 ?q170 ?q171 ?q172); (case q169 => refine' Own.ext ( by assumption ) ?q173 ?q174; (case q173 => refine nm_one ?_; refine' stt_new ?q175 ?q176; (case q175 => assumption); (case q176 => refine' Stt.go ( by assumption ) ?q177 ?q178; (case q177 => exact fun h => h); (case q178 => refine' Stt.go ( by assumption ) ?q179 ?q180; (case q179 => exact fun h => h); (case q180 => assumption)))); (case q174 => assumption)); (case q170 => omega); (case q171 => omega))
  intro v hv hm
  clear hv
  simp only [List.mem_cons, List.not_mem_nil, or_false] at hm
  obtain ⟨many, rfl, hu2, hu3⟩ : ∃ n : Int, v = .int n ∧ 1 ≤ n ∧ n ≤ 21 := by rcases hm with rfl | rfl | rfl | rfl <;> exact ⟨_, rfl, by omega, by omega⟩
  clear hm
  wtm_at "go"
  rename_i l1 v1 e1 n1 o1 v2 d2 e2 pu2 h20 h21 v5 d5 e5 pu5 h50 h51 t6 v6 e6 n6 s6 L v7 e7 n7 o7 l8 v8 e8 n8 o8 v9 d9 e9 pu9 h90 h91 v10 d10 e10 pu10 h100 h101
  have e57 : Ext (One p) w v7 := ((e1.more fun _ z => z.elim).trans (e2.trans e5)).trans ((e6.trans e7).more fun _ z => z.elim)
  have hpL : p ≠ L := stt_new' n7 (pu5.go e6 fun z => z)
  have nwL : w.H L = none := ((e1.more fun _ z => z.elim).trans (e2.trans (e5.trans (e6.more fun _ z => z.elim)))).back n7
  have e710 : Ext (One p) v7 v10 := (e8.more fun _ z => z.elim).trans (e9.trans e10)
  have o10 : Own v10 L (.lst [.ref t6]) := o7.ext e710 fun z => hpL z.symm
  have s10 : v10.S t6 = some (.tup [.int 0, .int d5]) := st_go e710 (st_go e7 s6)
  have ew10 : Ext (One p) w v10 := e57.trans e710
  clear e1 e2 e5 e6 e7 e8 e9 e10 o1 o7 o8 s6 pu pu2 pu5 pu9 e57 e710
  refine forW (ww_range (lo := 0) (m := d10.toNat)) (fun i σ u => Ext (Two p L) v10 u ∧ Stt u p ∧ ∃ (us : List V) (t : Addr) (R : List (Int × Int)) (mo sh : Int) (g : Option V), σ = [some (V.ref p), some (V.int unit), some (V.ref L), g] ∧ Own u L (.lst (us ++ [.ref t])) ∧ RpA u.S us (R.map prD) ∧ u.S t = some (.tup [.int mo, .int sh]) ∧ R.length = i ∧ Rising none (R ++ [(mo, sh)]) ∧ mo ≤ i * 30000000)
    ⟨Ext.refl _ _, pu10, [], t6, [], 0, d5, _, rfl, o10, .nil, s10, rfl, ⟨⟨(show (0 : Int) ≤ 0 by decide), (show (0 : Int) ≤ 1000000000 by decide), h50, h51⟩, rfl, trivial⟩, by omega⟩ (fun _ _ _ _ _ => trivial) ?_ ?_
  · rintro i x σ _ u hi ⟨eu, puu, us, t, R, mo, sh, g, rfl, ou, ru, st, hl, hr, hm⟩ ⟨rfl, rfl⟩
    have hlu := ru.length
    rw [List.length_map] at hlu
    obtain ⟨_, _, hb⟩ := rising_init hr
    wtm_at "go"
    rename_i v11 d11 e11 pu11 h110 h111 v12 d12 e12 pu12 h120 h121 t13 v13 e13 n13 s13 v14 e14 o14
    have e2 : Ext (One p) u v12 := e11.trans e12
    have et : Ext (Two p L) v10 v14 := (eu.trans (e2.more fun b hb => .inr (.inl hb))).trans ((e13.more fun _ z => z.elim).trans (e14.more fun b hb => .inr (.inr hb)))
    refine ⟨et, (pu12.go e13 fun z => z).go e14 (fun h => hpL h), us ++ [.ref t], t13, R ++ [(mo, sh)], mo + 1 + d11, d12, _, rfl, o14, ?_, st_go e14 s13, by rw [List.length_append, hl]; rfl, ?_, by omega⟩
    · rw [List.map_append]
      exact RpA.append ((((ru.go e11).go e12).go e13).go e14) (.one (.tup (st_go e14 (st_go e13 (st_go e12 (st_go e11 st)))) (.cons (.int _) (.cons (.int _) .nil))))
    · refine rising_snoc hr ⟨by show 0 ≤ mo + 1 + d11; omega, by show mo + 1 + d11 ≤ 1000000000; omega, h120, h121⟩ (fun h => by simp at h) fun q hq => ?_
      rw [List.getLast?_append] at hq
      cases hq
      show mo < mo + 1 + d11
      omega
  · rintro σ u ⟨eu, puu, us, t, R, mo, sh, g, rfl, ou, ru, st, hl, hr, hm⟩
    have hlu := ru.length
    rw [List.length_map] at hlu
    obtain ⟨_, _, hb⟩ := rising_init hr
    have hRl : R.length ≤ 20 := by omega
    ((with_reducible refine s_seq ?_))
    refine s_ifJ (fun σ u2 => Ext (Two p L) u u2 ∧ Stt u2 p ∧ σ = [some (V.ref p), some (V.int unit), some (V.ref L), g] ∧ ∃ (us : List V) (t : Addr) (R : List (Int × Int)) (mo sh : Int), Own u2 L (.lst (us ++ [.ref t])) ∧ RpA u2.S us (R.map prD) ∧ u2.S t = some (.tup [.int mo, .int sh]) ∧ R.length ≤ 20 ∧ Rising none (R ++ [(mo, sh)])) (fun Z hZ => ?_) ?_
    · ((with_reducible refine s_ifS ?_); (with_reducible refine s_and ?_); (with_reducible refine s_test ?_); (with_reducible refine s_op ?_); (with_reducible refine s_CB ?_); (with_reducible refine s_cons ?_); (with_reducible refine' s_var ?q248 ?q249); (case q248 => exact rfl); (with_reducible refine s_nil ?_); (with_reducible refine' s_lenO ?q258 ?q259); (case q258 => assumption); (with_reducible refine s_c ?_); (with_reducible refine s_gt ?_); (with_reducible refine s_bl ?_))
      refine ite_d (fun c1 => ?_) (fun c1 => ?_)
      · have hRn : R ≠ [] := fun e => by
          rw [e] at hlu
          rw [List.length_append, hlu] at c1
          simp at c1
        wtm_at "go"
        refine ite_d (fun c2 => ?_) (fun c2 => ?_)
        · ((with_reducible refine s_asg ?_); (with_reducible refine t_tup ?_); (with_reducible refine s_cons ?_); (with_reducible refine s_op ?_); (with_reducible refine s_c ?_); (with_reducible refine s_c ?_); (with_reducible refine' s_powN ?q266 ?q267 ?q268); (case q266 => exact ⟨ by decide , by decide , by decide ⟩); (case q267 => exact p10_9); (with_reducible refine s_cons ?_); (with_reducible refine s_op ?_); (with_reducible refine s_op ?_); (with_reducible refine' s_var ?q269 ?q270); (case q269 => exact rfl); (with_reducible refine s_un ?_); (with_reducible refine s_c ?_); (with_reducible refine s_neg ?_); (with_reducible refine' s_ixO ?q292 ?q293 ?q294); (case q292 => refine' Own.ext ( by assumption ) ?q295 ?q296; (case q295 => refine nm_one ?_; exact Ne.symm ( by assumption )); (case q296 => assumption)); (case q293 => exact atI_snoc); (with_reducible refine s_c ?_); (with_reducible refine' s_ixT ?q301 ?q302 ?q303); (case q301 => refine' st_go ( by assumption ) ?q304; (case q304 => assumption)); (case q302 => exact rfl); (with_reducible refine s_nil ?_); (with_reducible refine' t_newT ?q305 ?q306); (case q305 => simp only [ List.length , sizeLine_eq ]; omega); intro _ _ _ _ _; (with_reducible refine s_gsub ?_); (with_reducible refine' s_var ?q307 ?q308); (case q307 => exact rfl); (with_reducible refine s_un ?_); (with_reducible refine s_c ?_); (with_reducible refine s_neg ?_); (with_reducible refine' s_setB ?q309 ?q310); (case q309 => refine' Own.ext ( by assumption ) ?q311 ?q312; (case q311 => exact fun h => h); (case q312 => refine' Own.ext ( by assumption ) ?q313 ?q314; (case q313 => refine nm_one ?_; exact Ne.symm ( by assumption )); (case q314 => assumption))); intro _ _ _)
          rename_i v11 d11 e11 pu11 h110 h111 t13 v13 e13 n13 s13 v14 e14 o14
          have et : Ext (Two p L) u v14 := (e11.more fun b hb => .inr (.inl hb)).trans ((e13.more fun _ z => z.elim).trans (e14.more fun b hb => .inr (.inr hb)))
          exact hZ _ _ ⟨et, (pu11.go e13 fun z => z).go e14 (fun h => hpL h), rfl, us, t13, R, 1000000000, sh, o14, ((ru.go e11).go e13).go e14, st_go e14 s13, hRl, rising_last hr hRn⟩
        · ((with_reducible refine s_next ?_))
          rename_i v11 d11 e11 pu11 h110 h111
          exact hZ _ _ ⟨e11.more fun b hb => .inr (.inl hb), pu11, rfl, us, t, R, mo, sh, ou.ext e11 (fun h => hpL h.symm), ru.go e11, st_go e11 st, hRl, hr⟩
      · ((with_reducible refine ite_ff ?_); (with_reducible refine s_next ?_))
        exact hZ _ _ ⟨Ext.refl _ _, puu, rfl, us, t, R, mo, sh, ou, ru, st, hRl, hr⟩
    · rintro σ u2 ⟨eu2, pu2, rfl, us, t, R, mo, sh, ou, ru, st, hl, hr⟩
      ((with_reducible refine s_ret ?_); (with_reducible refine' s_var ?q319 ?q320); (case q319 => exact rfl))
      refine lay (R := fun H => Q (.ref L) H) ou fun v e s => ?_
      refine k v _ (R ++ [(mo, sh)]) ?_ (pu2.go e fun h => hpL h) (.lst s ?_) ⟨by simp, by rw [List.length_append, List.length_singleton]; omega, hr⟩
      · exact ((ew10.step (eu.trans eu2) fun b hb => hb.elim .inr fun h => .inl (by rw [h]; exact nwL))).step e fun b hb => .inl (by rw [show b = L from hb]; exact nwL)
      · rw [List.map_append]
        exact RpA.append (ru.go e) (.one (.tup (st_go e st) (.cons (.int _) (.cons (.int _) .nil))))
abbrev nm_l_pieces : List Str := ["_law_rows_here", "_law_ends", "_law_row", "_law_end"]
theorem sc_l_pieces : FnScope nm_l_pieces ["_law_rows_here"] (defScope s_l_pieces) := ⟨rfl, rfl, rfl, by decide +kernel, rfl, by decide +kernel, by decide +kernel⟩
theorem st_l_pieces (a : V) : start nm_l_pieces [a] = [some a, none, none, none] := rfl
def p_l_pieces (w : Wd) (a : V) (Q : VK) (_ : XK) : Prop := ∃ R, Rp w.S a (spD R) ∧ TabOk R ∧ ∀ v r vs, Ext Non w v → w.H r = none → v.S r = some (.lst vs) → RpA v.S vs ((pcsI R).map trD3) → Q (.ref r) v.H
theorem ok_l_pieces {f : Addr} {fd : FuncData} {C_Entry C_Within C_At C_Between C_Table C_Read C_Log C_LogError C_NoEntry C_NoMoment C_NoName C_NoPlace C_NoReading : Addr} (F : Fun K "_law_pieces" "_law_pieces" s_l_pieces f fd) (T : Txt K mg C_Entry C_Within C_At C_Between C_Table C_Read C_Log C_LogError C_NoEntry C_NoMoment C_NoName C_NoPlace C_NoReading)  : FnOk P ww K mg base CX0 1 f fd ["_law_rows_here"] (pr1 (p_l_pieces)) := by
  refine F.ok sc_l_pieces (fun vs H Q E h => len1 h) (fun cdv A outer s H vs Q E hr h => ?_)
  obtain ⟨w, x0,  rfl, rfl, h⟩ := h
  have ekT := ek_T T
  have oex_NoEntry := T.oex_NoEntry; have xf_NoEntry := T.xf_NoEntry; have ec_NoEntry := T.ec_NoEntry; have xn_NoEntry := T.xn_NoEntry
  have oex_NoMoment := T.oex_NoMoment; have xf_NoMoment := T.xf_NoMoment; have ec_NoMoment := T.ec_NoMoment; have xn_NoMoment := T.xn_NoMoment
  have oex_NoName := T.oex_NoName; have xf_NoName := T.xf_NoName; have ec_NoName := T.ec_NoName; have xn_NoName := T.xn_NoName
  have oex_NoPlace := T.oex_NoPlace; have xf_NoPlace := T.xf_NoPlace; have ec_NoPlace := T.ec_NoPlace; have xn_NoPlace := T.xn_NoPlace
  have oex_NoReading := T.oex_NoReading; have xf_NoReading := T.xf_NoReading; have ec_NoReading := T.ec_NoReading; have xn_NoReading := T.xn_NoReading
  have rel_NoEntry_NoEntry := T.rel_NoEntry_NoEntry
  have exm_NoEntry_NoEntry := T.exm_NoEntry_NoEntry
  refine ⟨_, (pss_cons (ps_set (i := 1) sc_l_pieces.nd rfl (Or.inl rfl) (pe_op (kAdd K) (pe_lc (own := [("_law_row", 2)]) (g := (gName 2)) (tt := tYes) (by rfl) sc_l_pieces.nd (kpList K (pe_slice (kSl K) (pv 0) (po_some pe_int) po_none)) (blkOk_by (own := [("_law_row", 2)]) (N := nm_l_pieces) (sc := defScope s_l_pieces) (by decide +kernel)) (fun _ _ _ _ _ => (pg_name (i := 2) sc_l_pieces.nd rfl (Or.inl rfl))) (fun _ _ _ _ _ => pts_nil) (fun _ _ _ _ _ => (pe_op g_sub (pe_ix (kIx K) (pv 2) pe_int (fun _ _ => rfl)) pe_int))) (pe_lst (pa_cons (pe_op g_pow pe_int pe_int) pa_nil))))
      (pss_one (ps_ret (pe_lc (own := [("_law_row", 2), ("_law_end", 3)]) (g := (gTup K 2 (gCons (gName 2) (gCons (gName 3) gNil)))) (tt := tYes) (by rfl) sc_l_pieces.nd (kpZip K (by rfl) T.n_zip (pa_cons (pv 0) (pa_cons (pv 1) pa_nil))) (blkOk_by (own := [("_law_row", 2), ("_law_end", 3)]) (N := nm_l_pieces) (sc := defScope s_l_pieces) (by decide +kernel)) (fun _ _ _ _ _ => (kgTup K (by rfl) (pgs_cons (pg_name (i := 2) sc_l_pieces.nd rfl (Or.inl rfl)) (pgs_cons (pg_name (i := 3) sc_l_pieces.nd rfl (Or.inl rfl)) pgs_nil)))) (fun _ _ _ _ _ => pts_nil) (fun _ _ _ _ _ => (pe_tup (pa_cons (pe_ix (kIx K) (pv 2) pe_int (fun _ _ => rfl)) (pa_cons (pv 3) (pa_cons (pe_ix (kIx K) (pv 2) pe_int (fun _ _ => rfl)) pa_nil))))))))), ?_⟩
  rw [st_l_pieces]
  obtain ⟨R, hR, hok, k⟩ := h
  obtain ⟨q, vs, rfl, sq, ra⟩ := hR.list_inv
  have la := ra.length
  rw [List.length_map] at la
  have hl := hok.l
  have hpos : 0 < R.length := List.length_pos_iff.mpr hok.n
  ((with_reducible refine s_seq ?_); (with_reducible refine s_asg ?_); (with_reducible refine s_op ?_); (with_reducible refine s_Lc ?_); (with_reducible refine s_iList ?_); (with_reducible refine s_sl ?_); (with_reducible refine' s_var ?q0 ?q1); (case q0 => exact rfl); (with_reducible refine s_part ?_); (with_reducible refine s_c ?_); (with_reducible refine s_int ?_); (with_reducible refine s_nopart ?_); (with_reducible refine' s_slS ?q2 ?q3); (case q2 => refine' SqL.of ( Wd.ok _ _ _ ?q4 ); (case q4 => assumption)); intro _ _ _ _ _; refine' ⟨ _ , rfl , ⟨ _ , ?q5 ⟩ , ?q6 ⟩; (case q5 => refine' SqL.of ( Wd.ok _ _ _ ?q7 ); (case q7 => assumption)))
  rename_i p1 v1 e1 n1 s1
  rw [cut_from (by decide), show (1 : Int).toNat = 1 from rfl] at s1
  intro D hD
  have rd1 : RpA v1.S (vs.drop 1) ((R.drop 1).map prD) := by rw [List.map_drop]; exact (ra.go e1).drop 1
  refine lc_rows (ww_list (xs := vs.drop 1)) (fun _ => true) (fun q => .int (q.1 - 1)) hD rd1 rfl (by rw [sizeLine_eq, List.length_drop]; omega) (fun u e => sql_of (st_go e s1)) ?_ ?_
  · intro i x q u hi hx hq hr e R Z hR hZ
    obtain ⟨t, rfl, ht⟩ := pr_inv hr
    ((with_reducible refine' s_gname ?q8 ?q9); (case q8 => exact rfl))
    refine ⟨rfl, s_yes (ite_tt ?_)⟩
    ((with_reducible refine s_op ?_); (with_reducible refine s_op ?_); (with_reducible refine' s_var ?q10 ?q11); (case q10 => exact rfl); (with_reducible refine s_c ?_); (with_reducible refine' s_ixT ?q12 ?q13 ?q14); (case q12 => assumption); (case q13 => exact rfl); (with_reducible refine s_c ?_); (with_reducible refine s_sub ?_))
    exact hR _ _ (Ext.refl _ _) rfl (.int _)
  · intro u acc eu hD' o ha2
    rw [filter_all] at ha2
    have ha3 : RpA u.S acc (((R.drop 1).map fun q : Int × Int => q.1 - 1).map PyData.int) := by rw [List.map_map]; exact ha2
    obtain rfl := RpA.ints_inv ha3
    have hes : (R.drop 1).length < 30 := by rw [List.length_drop]; omega
    ((with_reducible refine t_lst ?_); (with_reducible refine s_cons ?_); (with_reducible refine s_op ?_); (with_reducible refine s_c ?_); (with_reducible refine s_c ?_); (with_reducible refine' s_powN ?q15 ?q16 ?q17); (case q15 => exact ⟨ by decide , by decide , by decide ⟩); (case q16 => exact p10_9); (with_reducible refine s_nil ?_); (with_reducible refine' t_newLS ?q18 ?q19); (case q18 => simp only [ List.length , sizeLine_eq ]; omega); intro _ _ _ _ _; (with_reducible refine' s_catS ?q20 ?q21 ?q22 ?q23); (case q20 => refine' Own.h ?q28; (case q28 => refine' Own.ext ( by assumption ) ?q29 ?q30; (case q29 => exact fun h => h); (case q30 => assumption))); (case q21 => refine' Wd.ok _ _ _ ?q31; (case q31 => assumption)); (case q22 => simp only [ List.length_append , List.length_cons , List.length_nil , List.length_map , List.length_reverse , List.length_replicate , sizeLine_eq ]; omega); intro _ _ _ _ _; (with_reducible refine' s_gname ?q32 ?q33); (case q32 => simp only [ List.set_cons_succ , List.set_cons_zero ]; exact rfl); (with_reducible refine s_ret ?_); (with_reducible refine s_Lc ?_); (with_reducible refine s_iZip ?_); (with_reducible refine s_cons ?_); (with_reducible refine' s_var ?q34 ?q35); (case q34 => exact rfl); (with_reducible refine s_cons ?_); (with_reducible refine' s_var ?q36 ?q37); (case q36 => exact rfl); (with_reducible refine s_nil ?_))
    rename_i p2 v2 e2 n2 s2 p3 v3 e3 n3 s3
    have ends : ((R.drop 1).map fun q : Int × Int => q.1 - 1).map V.int ++ [V.int 1000000000] = (((R.drop 1).map fun q : Int × Int => q.1 - 1) ++ [1000000000]).map V.int := by rw [List.map_append]; rfl
    rw [ends] at s3
    have hel : (((R.drop 1).map fun q : Int × Int => q.1 - 1) ++ [1000000000]).length = R.length := by rw [List.length_append, List.length_map, List.length_drop, List.length_singleton]; omega
    have hei : ∀ i, i < R.length → (((R.drop 1).map fun q : Int × Int => q.1 - 1) ++ [1000000000])[i]? = some (lastOf R i) := fun i hi => by
      unfold lastOf
      by_cases c : i < R.length - 1
      · have h1 : R[i + 1]? = some R[i + 1] := List.getElem?_eq_getElem (by omega)
        rw [h1, List.getElem?_append_left (by rw [List.length_map, List.length_drop]; omega), List.getElem?_map, List.getElem?_drop, Nat.add_comm 1 i, h1]
        rfl
      · rw [show R[i + 1]? = none from List.getElem?_eq_none (by omega), List.getElem?_append_right (by rw [List.length_map, List.length_drop]; omega), List.length_map, List.length_drop, show i - (R.length - 1) = 0 by omega]
        rfl
    generalize ((R.drop 1).map fun q : Int × Int => q.1 - 1) ++ [1000000000] = es at s3 hel hei
    have sq3 : v3.S q = some (.lst vs) := st_go e3 (st_go e2 (st_go eu (st_go e1 sq)))
    have ra3 : RpA v3.S vs (R.map prD) := (((ra.go e1).go eu).go e2).go e3
    have ew3 : Ext Non w v3 := ((e1.trans eu).trans e2).trans e3
    clear e1 e2 e3 eu rd1 s1 o s2 ha2 ha3
    refine ⟨q, p3, vs, es.map V.int, rfl, .inl ⟨sql_of sq3, sql_of s3, ?_⟩⟩
    intro D2 hD2
    have lp : (pcsI R).length = R.length := by unfold pcsI; rw [List.length_map, List.length_range]
    refine lc_any (rows := pcsI R) (ww_zipL (xs := vs) (ys := es.map V.int) (by rw [List.length_map]; omega)) (fun _ => true) trD3 hD2 (by omega) (by rw [sizeLine_eq]; omega) (fun i u x v hi y => by obtain ⟨_, _, _, _, e, _⟩ := y; exact e) (fun u e => ⟨sql_of (st_go e sq3), sql_of (st_go e s3)⟩) ?_ ?_
    · rintro i x t u v hi ⟨T, x1, y1, rfl, ev, hT, sT, hx, hy⟩ ht eu eu2 R' Z hR' hZ
      obtain ⟨p, tt, hp, rfl, st⟩ := rpa_pr ra3 hx
      have st2 : v.S tt = some (.tup [.int p.1, .int p.2]) := st_go eu2 st
      rw [List.getElem?_map, hei i (by omega)] at hy
      cases hy
      have htp : t = (p.1, lastOf R i, p.2) := by
        unfold pcsI at ht
        rw [List.getElem?_map, List.getElem?_range (by omega)] at ht
        have := pc_low hp
        rw [← this]
        exact (Option.some.inj ht).symm
      ((with_reducible refine' s_gtup ?q38 ?q39 ?q40); (case q38 => assumption); (case q39 => exact rfl); (with_reducible refine s_gcons ?_); (with_reducible refine' s_gname ?q41 ?q42); (case q41 => exact rfl); (with_reducible refine s_gcons ?_); (with_reducible refine' s_gname ?q43 ?q44); (case q43 => exact rfl); (with_reducible refine s_gnil ?_))
      refine ⟨rfl, s_yes (ite_tt ?_)⟩
      ((with_reducible refine t_tup ?_); (with_reducible refine s_cons ?_); (with_reducible refine s_op ?_); (with_reducible refine' s_var ?q45 ?q46); (case q45 => exact rfl); (with_reducible refine s_c ?_); (with_reducible refine' s_ixT ?q47 ?q48 ?q49); (case q47 => assumption); (case q48 => exact rfl); (with_reducible refine s_cons ?_); (with_reducible refine' s_var ?q50 ?q51); (case q50 => exact rfl); (with_reducible refine s_cons ?_); (with_reducible refine s_op ?_); (with_reducible refine' s_var ?q52 ?q53); (case q52 => exact rfl); (with_reducible refine s_c ?_); (with_reducible refine' s_ixT ?q54 ?q55 ?q56); (case q54 => assumption); (case q55 => exact rfl); (with_reducible refine s_nil ?_); (with_reducible refine' t_newT ?q57 ?q58); (case q57 => simp only [ List.length , sizeLine_eq ]; omega); intro _ _ _ _ _)
      rw [htp] at hR'
      exact hR' _ _ (by assumption) rfl (.tup (by assumption) (.cons (.int _) (.cons (.int _) (.cons (.int _) .nil))))
    · intro u acc eu hD' o ha2
      rw [filter_all] at ha2
      skip
      refine lay (R := fun H => Q (.ref D2) H) o fun v e s => ?_
      exact k v D2 acc (ew3.trans (eu.step e fun b hb => .inl (by rw [show b = D2 from hb]; exact hD2))) (ew3.back hD2) s (ha2.go e)
theorem jinv_skip {S fs : List (Int × Int)} {i : Nat} {q : Int × Int} (h : JInv S i fs) (hi : S[i]? = some q) (hw : ¬ q.1 ≤ q.2) : JInv S (i + 1) fs := by
  refine ⟨h.sp, by have := h.len; omega, fun n => ?_, fun f hf j s hj hjs => h.low f hf j s (by omega) hjs⟩
  rw [ins_take hi, h.mem]
  constructor
  · exact .inl
  · rintro (z | z)
    · exact z
    · exfalso; omega
theorem ins_ne2 {rows : List (Int × Int)} {n : Int} : ins rows n ↔ ins (rows.filter ne2) n := by
  unfold ins ne2
  constructor
  · rintro ⟨q, hq, h1, h2⟩
    exact ⟨q, List.mem_filter.mpr ⟨hq, decide_eq_true (by omega)⟩, h1, h2⟩
  · rintro ⟨q, hq, h⟩
    exact ⟨q, (List.mem_filter.mp hq).1, h⟩
abbrev nm_l_joined : List Str := ["_law_stretches", "_law_found", "_law_low", "_law_high"]
theorem sc_l_joined : FnScope nm_l_joined ["_law_stretches"] (defScope s_l_joined) := ⟨rfl, rfl, rfl, by decide +kernel, rfl, by decide +kernel, by decide +kernel⟩
theorem st_l_joined (a : V) : start nm_l_joined [a] = [some a, none, none, none] := rfl
def p_l_joined (w : Wd) (a : V) (Q : VK) (_ : XK) : Prop := ∃ rows, Ls w a rows ∧ rows.length < 2 ^ 20 ∧ Tells w Q fun out => Sp none out ∧ ∀ n, ins out n ↔ ins rows n
theorem ok_l_joined {f : Addr} {fd : FuncData} {C_Entry C_Within C_At C_Between C_Table C_Read C_Log C_LogError C_NoEntry C_NoMoment C_NoName C_NoPlace C_NoReading : Addr} (F : Fun K "_law_joined" "_law_joined" s_l_joined f fd) (T : Txt K mg C_Entry C_Within C_At C_Between C_Table C_Read C_Log C_LogError C_NoEntry C_NoMoment C_NoName C_NoPlace C_NoReading)  : FnOk P ww K mg base CX0 1 f fd ["_law_stretches"] (pr1 (p_l_joined)) := by
  refine F.ok sc_l_joined (fun vs H Q E h => len1 h) (fun cdv A outer s H vs Q E hr h => ?_)
  obtain ⟨w, x0,  rfl, rfl, h⟩ := h
  have ekT := ek_T T
  have oex_NoEntry := T.oex_NoEntry; have xf_NoEntry := T.xf_NoEntry; have ec_NoEntry := T.ec_NoEntry; have xn_NoEntry := T.xn_NoEntry
  have oex_NoMoment := T.oex_NoMoment; have xf_NoMoment := T.xf_NoMoment; have ec_NoMoment := T.ec_NoMoment; have xn_NoMoment := T.xn_NoMoment
  have oex_NoName := T.oex_NoName; have xf_NoName := T.xf_NoName; have ec_NoName := T.ec_NoName; have xn_NoName := T.xn_NoName
  have oex_NoPlace := T.oex_NoPlace; have xf_NoPlace := T.xf_NoPlace; have ec_NoPlace := T.ec_NoPlace; have xn_NoPlace := T.xn_NoPlace
  have oex_NoReading := T.oex_NoReading; have xf_NoReading := T.xf_NoReading; have ec_NoReading := T.ec_NoReading; have xn_NoReading := T.xn_NoReading
  have rel_NoEntry_NoEntry := T.rel_NoEntry_NoEntry
  have exm_NoEntry_NoEntry := T.exm_NoEntry_NoEntry
  refine ⟨_, (pss_cons (ps_set (i := 1) sc_l_joined.nd rfl (Or.inl rfl) (pe_lst pa_nil))
      (pss_cons (ps_for PassesOwn.never rfl (kpList K (pe_callB (kSortedP K) (by rfl) T.n_sorted (by decide +kernel) (pa_cons (pv 0) pa_nil))) (kgTup K (by rfl) (pgs_cons (pg_name (i := 2) sc_l_joined.nd rfl (Or.inl rfl)) (pgs_cons (pg_name (i := 3) sc_l_joined.nd rfl (Or.inl rfl)) pgs_nil))) (pss_one (ps_if (PW.pt (pw_and (pt_cmpR g_le (pv 2) (pv 3) (nomark _)) (pw_and (pt_cmpR (kNe K hr.units) (pv 1) (pe_lst pa_nil) (nomark _)) (pw_and1 (pt_cmpR g_le (pv 2) (pe_op (kAdd K) (pe_ix (kIx K) (pe_ix (kIx K) (pv 1) (pe_un un_neg pe_int) (fun _ _ => rfl)) pe_int (fun _ _ => rfl)) pe_int) (nomark _)))))) (pss_one (ps_asg (pe_tup (pa_cons (pe_ix (kIx K) (pe_ix (kIx K) (pv 1) (pe_un un_neg pe_int) (fun _ _ => rfl)) pe_int (fun _ _ => rfl)) (pa_cons (pe_callB (kMax K rfl) (by rfl) T.n_max (by decide +kernel) (pa_cons (pe_ix (kIx K) (pe_ix (kIx K) (pv 1) (pe_un un_neg pe_int) (fun _ _ => rfl)) pe_int (fun _ _ => rfl)) (pa_cons (pv 3) pa_nil))) pa_nil))) (pg_sub (pv 1) (pe_un un_neg pe_int) set_list))) (pss_one (ps_if (pt_cmpR g_le (pv 2) (pv 3) (nomark _)) (pss_one (ps_expr (pe_bm PySem.F.plainAttrs_list PySem.F.slot_list_append PySem.F.type_list_append mt_append (pv 1) (pa_cons (pe_tup (pa_cons (pv 2) (pa_cons (pv 3) pa_nil))) pa_nil)))) pss_nil)))))
      (pss_one (ps_ret (pv 1))))), ?_⟩
  rw [st_l_joined]
  obtain ⟨rows, ⟨a, vs, rfl, ra, ha⟩, hl, k⟩ := h
  ((with_reducible refine s_seq ?_); (with_reducible refine s_asg ?_); (with_reducible refine t_lst ?_); (with_reducible refine s_nil ?_); (with_reducible refine' t_newL ?q59 ?q60); (case q59 => simp only [ List.length , sizeLine_eq ]; omega); intro _ _ _ _ _; (with_reducible refine' s_gname ?q61 ?q62); (case q61 => simp only [ List.set_cons_succ , List.set_cons_zero ]; exact rfl); (with_reducible refine s_seq ?_); (with_reducible refine s_for ?_); (with_reducible refine s_iList ?_); (with_reducible refine s_CB ?_); (with_reducible refine s_cons ?_); (with_reducible refine' s_var ?q63 ?q64); (case q63 => exact rfl); (with_reducible refine s_nil ?_))
  rename_i f wf ef nf of
  refine s_sortP (by (refine' SqL.of ( Rd.h ?q70 ); (case q70 => refine' Rd.go ( by assumption ) ?q71 ?q72; (case q71 => exact fun h => h); (case q72 => assumption)))) (by (refine' RpA.go ( by assumption ) ?q73; (case q73 => assumption))) fun p v S vs' e n s hS hp hs => ?_
  (refine' ⟨ _ , rfl , ⟨ _ , ?q74 ⟩ , ?q75 ⟩; (case q74 => refine' SqL.of ( Wd.ok _ _ _ ?q76 ); (case q76 => assumption)))
  have hlS : S.length = rows.length := hp.length_eq
  have hvl := hS.length
  rw [List.length_map] at hvl
  refine forW (ww_list (xs := vs')) (fun i σ u => Ext (One f) v u ∧ ∃ l h fs us, σ = [some (.ref a), some (.ref f), l, h] ∧ Own u f (.lst us) ∧ RpA u.S us (fs.map prD) ∧ JInv S i fs) ⟨Ext.refl _ _, _, _, [], [], rfl, by (refine' Own.ext ( by assumption ) ?q77 ?q78; (case q77 => exact fun h => h); (case q78 => assumption)), .nil, .nil⟩ (fun i σ u _ p => by have := p.1; exact sql_of (st_go this s)) ?_ ?_
  · rintro i x σ _ u hi ⟨eu, l, h, fs, us, rfl, ou, hus, J⟩ ⟨rfl, hx⟩
    obtain ⟨d, h3, h4⟩ := hS.get hx
    have hi' : i < S.length := by omega
    have h3' : d = prD S[i] := by rw [List.getElem?_map, List.getElem?_eq_getElem hi'] at h3; exact (Option.some.inj h3).symm
    subst h3'
    have hq : S[i]? = some S[i] := List.getElem?_eq_getElem hi'
    generalize S[i] = q at hq h4
    obtain ⟨lo, hh⟩ := q
    obtain ⟨t, rfl, ht⟩ := pr_inv (h4.go eu)
    have hul : us.length < 2 ^ 20 := by
      have h5 := hus.length
      rw [List.length_map] at h5
      have := J.len
      omega
    ((with_reducible refine' s_gtup ?q79 ?q80 ?q81); (case q79 => assumption); (case q80 => exact rfl); (with_reducible refine s_gcons ?_); (with_reducible refine' s_gname ?q82 ?q83); (case q82 => simp only [ List.set_cons_succ , List.set_cons_zero ]; exact rfl); (with_reducible refine s_gcons ?_); (with_reducible refine' s_gname ?q84 ?q85); (case q84 => simp only [ List.set_cons_succ , List.set_cons_zero ]; exact rfl); (with_reducible refine s_gnil ?_); (with_reducible refine s_ifS ?_); (with_reducible refine s_and ?_); (with_reducible refine s_test ?_); (with_reducible refine s_op ?_); (with_reducible refine' s_var ?q86 ?q87); (case q86 => exact rfl); (with_reducible refine' s_var ?q88 ?q89); (case q88 => exact rfl); (with_reducible refine s_le ?_); (with_reducible refine s_bl ?_))
    refine ite_d (fun c1 => ?_) (fun c1 => ?_)
    · have hww : (lo, hh).1 ≤ (lo, hh).2 := c1
      ((with_reducible refine s_and ?_); (with_reducible refine s_test ?_); (with_reducible refine s_op ?_); (with_reducible refine' s_var ?q90 ?q91); (case q90 => exact rfl); (with_reducible refine t_lst ?_); (with_reducible refine s_nil ?_); (with_reducible refine' t_newLS ?q92 ?q93); (case q92 => simp only [ List.length , sizeLine_eq ]; omega); intro _ _ _ _ _)
      refine s_neN (by (refine' Or.inr ?q118; (case q118 => refine' Own.ext ( by assumption ) ?q119 ?q120; (case q119 => exact fun h => h); (case q120 => assumption)))) (by (refine' RpA.go ( by assumption ) ?q121; (case q121 => assumption))) (by (assumption)) ?_
      rcases nil_or_snoc fs with rfl | ⟨fs, ⟨a, b⟩, rfl⟩
      · rw [show (!([] : List (Int × Int)).isEmpty) = false from rfl]
        ((with_reducible refine s_bl ?_); (with_reducible refine ite_ff ?_); (with_reducible refine ite_ff ?_); (with_reducible refine s_ifS ?_); (with_reducible refine s_test ?_); (with_reducible refine s_op ?_); (with_reducible refine' s_var ?q128 ?q129); (case q128 => exact rfl); (with_reducible refine' s_var ?q130 ?q131); (case q130 => exact rfl); (with_reducible refine s_le ?_); (with_reducible refine s_bl ?_))
        refine ite_d (fun c2 => ?_) (fun c2 => absurd c1 c2)
        ((with_reducible refine s_drop ?_); (with_reducible refine s_BM ?_); (with_reducible refine' s_var ?q132 ?q133); (case q132 => exact rfl); (with_reducible refine' s_ty ?q134 ?q135); (case q134 => refine' Own.ext ( by assumption ) ?q136 ?q137; (case q136 => exact fun h => h); (case q137 => assumption)); (with_reducible refine s_cons ?_); (with_reducible refine t_tup ?_); (with_reducible refine s_cons ?_); (with_reducible refine' s_var ?q138 ?q139); (case q138 => exact rfl); (with_reducible refine s_cons ?_); (with_reducible refine' s_var ?q140 ?q141); (case q140 => exact rfl); (with_reducible refine s_nil ?_); (with_reducible refine' t_newT ?q142 ?q143); (case q142 => simp only [ List.length , sizeLine_eq ]; omega); intro _ _ _ _ _; (with_reducible refine s_nil ?_); (with_reducible refine' s_app ?q144 ?q145 ?q146); (case q144 => refine' Own.ext ( by assumption ) ?q147 ?q148; (case q147 => exact fun h => h); (case q148 => refine' Own.ext ( by assumption ) ?q149 ?q150; (case q149 => exact fun h => h); (case q150 => assumption))); (case q145 => simp only [ List.length_append , List.length_cons , List.length_nil , List.length_map , List.length_reverse , List.length_replicate , sizeLine_eq ]; omega); intro _ _ _; (with_reducible refine wds_i ?_))
        refine ⟨by (refine' Ext.step ?q151 ?q152 ?q153; (case q152 => assumption); (case q151 => refine' Ext.step ?q154 ?q155 ?q156; (case q155 => assumption); (case q154 => refine' Ext.step ?q157 ?q158 ?q159; (case q158 => assumption); (case q157 => assumption); (case q159 => exact fun _ z => z.elim)); (case q156 => exact fun _ z => z.elim)); (case q153 => refine tch_one ?q160; refine Or.inr ?_; rfl)), _, _, _, _, rfl, by (assumption), ?_, J.app hs hq hww fun x z => by cases z⟩
        rw [List.map_append]
        exact RpA.append (by (refine' RpA.go ( by assumption ) ?q161; (case q161 => refine' RpA.go ( by assumption ) ?q162; (case q162 => refine' RpA.go ( by assumption ) ?q163; (case q163 => assumption))))) (.one (pr_rp (by (refine' st_go ( by assumption ) ?q164; (case q164 => assumption)))))
      · rw [show (!(fs ++ [(a, b)]).isEmpty) = true by simp]
        rw [List.map_append] at hus
        obtain ⟨us, y, rfl, hu1, hu2⟩ := RpA.snoc_inv hus
        obtain ⟨t2, rfl, ht2⟩ := pr_inv hu2
        have hul : us.length + 1 < 2 ^ 20 := by simpa using hul
        ((with_reducible refine s_bl ?_); (with_reducible refine ite_tt ?_); (with_reducible refine s_test ?_); (with_reducible refine s_op ?_); (with_reducible refine' s_var ?q168 ?q169); (case q168 => exact rfl); (with_reducible refine s_op ?_); (with_reducible refine s_op ?_); (with_reducible refine s_op ?_); (with_reducible refine' s_var ?q170 ?q171); (case q170 => exact rfl); (with_reducible refine s_un ?_); (with_reducible refine s_c ?_); (with_reducible refine s_neg ?_); (with_reducible refine' s_ixO ?q191 ?q192 ?q193); (case q191 => refine' Own.ext ( by assumption ) ?q194 ?q195; (case q194 => exact fun h => h); (case q195 => assumption)); (case q192 => exact atI_snoc); (with_reducible refine s_c ?_); (with_reducible refine' s_ixT ?q196 ?q197 ?q198); (case q196 => refine' st_go ( by assumption ) ?q199; (case q199 => assumption)); (case q197 => exact rfl); (with_reducible refine s_c ?_); (with_reducible refine s_add ?_); (with_reducible refine s_le ?_); (with_reducible refine s_bl ?_))
        refine ite_d (fun hc => ?_) (fun hc => ?_)
        · ((with_reducible refine s_asg ?_); (with_reducible refine t_tup ?_); (with_reducible refine s_cons ?_); (with_reducible refine s_op ?_); (with_reducible refine s_op ?_); (with_reducible refine' s_var ?q200 ?q201); (case q200 => exact rfl); (with_reducible refine s_un ?_); (with_reducible refine s_c ?_); (with_reducible refine s_neg ?_); (with_reducible refine' s_ixO ?q221 ?q222 ?q223); (case q221 => refine' Own.ext ( by assumption ) ?q224 ?q225; (case q224 => exact fun h => h); (case q225 => assumption)); (case q222 => exact atI_snoc); (with_reducible refine s_c ?_); (with_reducible refine' s_ixT ?q226 ?q227 ?q228); (case q226 => refine' st_go ( by assumption ) ?q229; (case q229 => assumption)); (case q227 => exact rfl); (with_reducible refine s_cons ?_); (with_reducible refine s_CB ?_); (with_reducible refine s_cons ?_); (with_reducible refine s_op ?_); (with_reducible refine s_op ?_); (with_reducible refine' s_var ?q230 ?q231); (case q230 => exact rfl); (with_reducible refine s_un ?_); (with_reducible refine s_c ?_); (with_reducible refine s_neg ?_); (with_reducible refine' s_ixO ?q251 ?q252 ?q253); (case q251 => refine' Own.ext ( by assumption ) ?q254 ?q255; (case q254 => exact fun h => h); (case q255 => assumption)); (case q252 => exact atI_snoc); (with_reducible refine s_c ?_); (with_reducible refine' s_ixT ?q256 ?q257 ?q258); (case q256 => refine' st_go ( by assumption ) ?q259; (case q259 => assumption)); (case q257 => exact rfl); (with_reducible refine s_cons ?_); (with_reducible refine' s_var ?q260 ?q261); (case q260 => exact rfl); (with_reducible refine s_nil ?_); (with_reducible refine s_max ?_); (with_reducible refine s_nil ?_); (with_reducible refine' t_newT ?q262 ?q263); (case q262 => simp only [ List.length , sizeLine_eq ]; omega); intro _ _ _ _ _; (with_reducible refine s_gsub ?_); (with_reducible refine' s_var ?q264 ?q265); (case q264 => exact rfl); (with_reducible refine s_un ?_); (with_reducible refine s_c ?_); (with_reducible refine s_neg ?_); (with_reducible refine' s_setB ?q266 ?q267); (case q266 => refine' Own.ext ( by assumption ) ?q268 ?q269; (case q268 => exact fun h => h); (case q269 => refine' Own.ext ( by assumption ) ?q270 ?q271; (case q270 => exact fun h => h); (case q271 => assumption))); intro _ _ _; (with_reducible refine wds_i ?_))
          refine ⟨by (refine' Ext.step ?q272 ?q273 ?q274; (case q273 => assumption); (case q272 => refine' Ext.step ?q275 ?q276 ?q277; (case q276 => assumption); (case q275 => refine' Ext.step ?q278 ?q279 ?q280; (case q279 => assumption); (case q278 => assumption); (case q280 => exact fun _ z => z.elim)); (case q277 => exact fun _ z => z.elim)); (case q274 => refine tch_one ?q281; refine Or.inr ?_; rfl)), _, _, _, _, rfl, by (assumption), ?_, J.mrg hq hww hc⟩
          rw [List.map_append]
          exact RpA.append (by (refine' RpA.go ( by assumption ) ?q282; (case q282 => refine' RpA.go ( by assumption ) ?q283; (case q283 => refine' RpA.go ( by assumption ) ?q284; (case q284 => assumption))))) (.one (pr_rp (by (refine' st_go ( by assumption ) ?q285; (case q285 => assumption)))))
        · ((with_reducible refine s_ifS ?_); (with_reducible refine s_test ?_); (with_reducible refine s_op ?_); (with_reducible refine' s_var ?q286 ?q287); (case q286 => exact rfl); (with_reducible refine' s_var ?q288 ?q289); (case q288 => exact rfl); (with_reducible refine s_le ?_); (with_reducible refine s_bl ?_))
          refine ite_d (fun c2 => ?_) (fun c2 => absurd c1 c2)
          ((with_reducible refine s_drop ?_); (with_reducible refine s_BM ?_); (with_reducible refine' s_var ?q290 ?q291); (case q290 => exact rfl); (with_reducible refine' s_ty ?q292 ?q293); (case q292 => refine' Own.ext ( by assumption ) ?q294 ?q295; (case q294 => exact fun h => h); (case q295 => assumption)); (with_reducible refine s_cons ?_); (with_reducible refine t_tup ?_); (with_reducible refine s_cons ?_); (with_reducible refine' s_var ?q296 ?q297); (case q296 => exact rfl); (with_reducible refine s_cons ?_); (with_reducible refine' s_var ?q298 ?q299); (case q298 => exact rfl); (with_reducible refine s_nil ?_); (with_reducible refine' t_newT ?q300 ?q301); (case q300 => simp only [ List.length , sizeLine_eq ]; omega); intro _ _ _ _ _; (with_reducible refine s_nil ?_); (with_reducible refine' s_app ?q302 ?q303 ?q304); (case q302 => refine' Own.ext ( by assumption ) ?q305 ?q306; (case q305 => exact fun h => h); (case q306 => refine' Own.ext ( by assumption ) ?q307 ?q308; (case q307 => exact fun h => h); (case q308 => assumption))); (case q303 => simp only [ List.length_append , List.length_cons , List.length_nil , List.length_map , List.length_reverse , List.length_replicate , sizeLine_eq ]; omega); intro _ _ _; (with_reducible refine wds_i ?_))
          refine ⟨by (refine' Ext.step ?q309 ?q310 ?q311; (case q310 => assumption); (case q309 => refine' Ext.step ?q312 ?q313 ?q314; (case q313 => assumption); (case q312 => refine' Ext.step ?q315 ?q316 ?q317; (case q316 => assumption); (case q315 => assumption); (case q317 => exact fun _ z => z.elim)); (case q314 => exact fun _ z => z.elim)); (case q311 => refine tch_one ?q318; refine Or.inr ?_; rfl)), _, _, _, _, rfl, by (assumption), ?_, J.app hs hq hww fun x hx => ?_⟩
          · rw [List.map_append, List.map_append]
            exact RpA.append (RpA.append (by (refine' RpA.go ( by assumption ) ?q319; (case q319 => refine' RpA.go ( by assumption ) ?q320; (case q320 => refine' RpA.go ( by assumption ) ?q321; (case q321 => assumption))))) (.one (by (refine' Rp.tup ?q322 ?q323; (case q322 => refine' st_go ( by assumption ) ?q324; (case q324 => refine' st_go ( by assumption ) ?q325; (case q325 => refine' st_go ( by assumption ) ?q326; (case q326 => assumption)))); (case q323 => refine' RpA.cons ?q327 ?q328; (case q327 => exact Rp.int _); (case q328 => refine' RpA.cons ?q329 ?q330; (case q329 => exact Rp.int _); (case q330 => exact RpA.nil))))))) (.one (pr_rp (by (refine' st_go ( by assumption ) ?q331; (case q331 => assumption)))))
          · rw [G.lastHi_snoc] at hx
            cases hx
            show _ ≤ lo
            omega
    · ((with_reducible refine ite_ff ?_); (with_reducible refine s_ifS ?_); (with_reducible refine s_test ?_); (with_reducible refine s_op ?_); (with_reducible refine' s_var ?q335 ?q336); (case q335 => exact rfl); (with_reducible refine' s_var ?q337 ?q338); (case q337 => exact rfl); (with_reducible refine s_le ?_); (with_reducible refine s_bl ?_))
      refine ite_d (fun c2 => absurd c2 c1) (fun c2 => ?_)
      ((with_reducible refine s_next ?_); (with_reducible refine wds_i ?_))
      exact ⟨by (assumption), _, _, _, _, rfl, by (assumption), by (assumption), jinv_skip J hq c1⟩
  · rintro σ u ⟨eu, l, h, fs, us, rfl, ou, hus, J⟩
    ((with_reducible refine s_ret ?_); (with_reducible refine' s_var ?q339 ?q340); (case q339 => exact rfl))
    refine k u f us fs (by (refine' Ext.step ?q341 ?q342 ?q343; (case q342 => assumption); (case q341 => refine' Ext.step ?q344 ?q345 ?q346; (case q345 => assumption); (case q344 => assumption); (case q346 => exact fun _ z => z.elim)); (case q343 => refine tch_one ?q347; refine Or.inl ?_; assumption))) (by assumption) ou hus ⟨J.sp, fun n => ?_⟩
    rw [J.mem, hvl, List.take_length, ins_perm hp]
abbrev nm_l_shown : List Str := ["_law_rows_here", "_law_low", "_law_high", "_law_a", "_law_b", "_law_shift_here"]
theorem sc_l_shown : FnScope nm_l_shown ["_law_rows_here", "_law_low", "_law_high"] (defScope s_l_shown) := ⟨rfl, rfl, rfl, by decide +kernel, rfl, by decide +kernel, by decide +kernel⟩
theorem st_l_shown (a b c : V) : start nm_l_shown [a, b, c] = [some a, some b, some c, none, none, none] := rfl
def p_l_shown (w : Wd) (a b c : V) (Q : VK) (_ : XK) : Prop := ∃ R, ∃ lo hi : Int, Rp w.S a (spD R) ∧ TabOk R ∧ b = .int lo ∧ c = .int hi ∧ Tells w Q fun out => Sp none out ∧ ∀ n, ins out n ↔ ins ((strsR R lo hi R.length).filter ne2) n
theorem ok_l_shown {f : Addr} {fd : FuncData} {C_Entry C_Within C_At C_Between C_Table C_Read C_Log C_LogError C_NoEntry C_NoMoment C_NoName C_NoPlace C_NoReading : Addr} (F : Fun K "_law_shown" "_law_shown" s_l_shown f fd) (T : Txt K mg C_Entry C_Within C_At C_Between C_Table C_Read C_Log C_LogError C_NoEntry C_NoMoment C_NoName C_NoPlace C_NoReading) (c_l_joined : Fnc P ww K mg base CX0 1 "_law_joined" (pr1 (p_l_joined))) (c_l_pieces : Fnc P ww K mg base CX0 1 "_law_pieces" (pr1 (p_l_pieces))) : FnOk P ww K mg base CX0 2 f fd ["_law_rows_here", "_law_low", "_law_high"] (pr3 (p_l_shown)) := by
  refine F.ok sc_l_shown (fun vs H Q E h => len3 h) (fun cdv A outer s H vs Q E hr h => ?_)
  obtain ⟨w, x0, x1, x2,  rfl, rfl, h⟩ := h
  have ekT := ek_T T
  have oex_NoEntry := T.oex_NoEntry; have xf_NoEntry := T.xf_NoEntry; have ec_NoEntry := T.ec_NoEntry; have xn_NoEntry := T.xn_NoEntry
  have oex_NoMoment := T.oex_NoMoment; have xf_NoMoment := T.xf_NoMoment; have ec_NoMoment := T.ec_NoMoment; have xn_NoMoment := T.xn_NoMoment
  have oex_NoName := T.oex_NoName; have xf_NoName := T.xf_NoName; have ec_NoName := T.ec_NoName; have xn_NoName := T.xn_NoName
  have oex_NoPlace := T.oex_NoPlace; have xf_NoPlace := T.xf_NoPlace; have ec_NoPlace := T.ec_NoPlace; have xn_NoPlace := T.xn_NoPlace
  have oex_NoReading := T.oex_NoReading; have xf_NoReading := T.xf_NoReading; have ec_NoReading := T.ec_NoReading; have xn_NoReading := T.xn_NoReading
  have rel_NoEntry_NoEntry := T.rel_NoEntry_NoEntry
  have exm_NoEntry_NoEntry := T.exm_NoEntry_NoEntry
  refine ⟨_, (pss_one (ps_ret (pe_fn c_l_joined hr (by decide) pass0 (pa_cons (pe_lc (own := [("_law_a", 3), ("_law_b", 4), ("_law_shift_here", 5)]) (g := (gTup K 3 (gCons (gName 3) (gCons (gName 4) (gCons (gName 5) gNil))))) (tt := tYes) (by rfl) sc_l_shown.nd (kpList K (pe_fn c_l_pieces hr (by decide) pass0 (pa_cons (pv 0) pa_nil))) (blkOk_by (own := [("_law_a", 3), ("_law_b", 4), ("_law_shift_here", 5)]) (N := nm_l_shown) (sc := defScope s_l_shown) (by decide +kernel)) (fun _ _ _ _ _ => (kgTup K (by rfl) (pgs_cons (pg_name (i := 3) sc_l_shown.nd rfl (Or.inl rfl)) (pgs_cons (pg_name (i := 4) sc_l_shown.nd rfl (Or.inl rfl)) (pgs_cons (pg_name (i := 5) sc_l_shown.nd rfl (Or.inl rfl)) pgs_nil))))) (fun _ _ _ _ _ => pts_nil) (fun _ _ _ _ _ => (pe_tup (pa_cons (pe_callB (kMax K rfl) (by rfl) T.n_max (by decide +kernel) (pa_cons (pv 3) (pa_cons (pe_op g_sub (pv 1) (pv 5)) pa_nil))) (pa_cons (pe_callB (kMin K rfl) (by rfl) T.n_min (by decide +kernel) (pa_cons (pv 4) (pa_cons (pe_op g_sub (pv 2) (pv 5)) pa_nil))) pa_nil))))) pa_nil)))), ?_⟩
  rw [st_l_shown]
  obtain ⟨R, lo, hi, hR, hok, rfl, rfl, k⟩ := h
  have hl := hok.l
  ((with_reducible refine s_ret ?_); (with_reducible refine s_call ?_); (with_reducible refine s_cons ?_); (with_reducible refine s_Lc ?_); (with_reducible refine s_iList ?_); (with_reducible refine s_call ?_); (with_reducible refine s_cons ?_); (with_reducible refine' s_var ?q348 ?q349); (case q348 => exact rfl); (with_reducible refine s_nil ?_); (with_reducible refine s_pr1 ?_))
  refine ⟨R, hR, hok, fun v1 r vs e1 n1 s1 ra => ?_⟩
  have la := ra.length
  have lp : (pcsI R).length = R.length := by unfold pcsI; rw [List.length_map, List.length_range]
  rw [List.length_map] at la
  (refine' ⟨ _ , rfl , ⟨ _ , ?q350 ⟩ , ?q351 ⟩; (case q350 => refine' SqL.of ( Wd.ok _ _ _ ?q352 ); (case q352 => assumption)))
  intro D hD
  refine lc_any (rows := pcsI R) (ww_list (xs := vs)) (fun _ => true) (fun t => prD (max t.1 (lo - t.2.2), min t.2.1 (hi - t.2.2))) hD (by omega) (by rw [sizeLine_eq]; omega) (fun i u x v hi y => by obtain ⟨rfl, _⟩ := y; exact Ext.refl _ _) (fun u e => sql_of (st_go e s1)) ?_ ?_
  · rintro i x t _ v hi ⟨rfl, hx⟩ ht eu eu2 R' Z hR' hZ
    obtain ⟨d, h3, h4⟩ := ra.get hx
    rw [List.getElem?_map, ht] at h3
    cases h3
    obtain ⟨tt, vt, rfl, st, rt⟩ := h4.tuple_inv
    obtain rfl : vt = [.int t.1, .int t.2.1, .int t.2.2] := by
      cases rt with
      | cons a1 r1 => cases r1 with
        | cons a2 r2 => cases r2 with
          | cons a3 r3 =>
            cases r3
            rw [a1.int_inv, a2.int_inv, a3.int_inv]
    have st2 : v.S tt = some (.tup [.int t.1, .int t.2.1, .int t.2.2]) := st_go eu2 st
    ((with_reducible refine' s_gtup ?q353 ?q354 ?q355); (case q353 => assumption); (case q354 => exact rfl); (with_reducible refine s_gcons ?_); (with_reducible refine' s_gname ?q356 ?q357); (case q356 => exact rfl); (with_reducible refine s_gcons ?_); (with_reducible refine' s_gname ?q358 ?q359); (case q358 => exact rfl); (with_reducible refine s_gcons ?_); (with_reducible refine' s_gname ?q360 ?q361); (case q360 => exact rfl); (with_reducible refine s_gnil ?_))
    refine ⟨rfl, s_yes (ite_tt ?_)⟩
    ((with_reducible refine t_tup ?_); (with_reducible refine s_cons ?_); (with_reducible refine s_CB ?_); (with_reducible refine s_cons ?_); (with_reducible refine' s_var ?q362 ?q363); (case q362 => exact rfl); (with_reducible refine s_cons ?_); (with_reducible refine s_op ?_); (with_reducible refine' s_var ?q364 ?q365); (case q364 => exact rfl); (with_reducible refine' s_var ?q366 ?q367); (case q366 => exact rfl); (with_reducible refine s_sub ?_); (with_reducible refine s_nil ?_); (with_reducible refine s_max ?_); (with_reducible refine s_cons ?_); (with_reducible refine s_CB ?_); (with_reducible refine s_cons ?_); (with_reducible refine' s_var ?q368 ?q369); (case q368 => exact rfl); (with_reducible refine s_cons ?_); (with_reducible refine s_op ?_); (with_reducible refine' s_var ?q370 ?q371); (case q370 => exact rfl); (with_reducible refine' s_var ?q372 ?q373); (case q372 => exact rfl); (with_reducible refine s_sub ?_); (with_reducible refine s_nil ?_); (with_reducible refine s_min ?_); (with_reducible refine s_nil ?_); (with_reducible refine' t_newT ?q374 ?q375); (case q374 => simp only [ List.length , sizeLine_eq ]; omega); intro _ _ _ _ _)
    exact hR' _ _ (by assumption) rfl (.tup (by assumption) (.cons (.int _) (.cons (.int _) .nil)))
  · intro u acc eu hD' o ha2
    rw [filter_all] at ha2
    have ha3 : RpA u.S acc ((strsR R lo hi R.length).map prD) := by
      have e : (pcsI R).map (fun t => prD (max t.1 (lo - t.2.2), min t.2.1 (hi - t.2.2))) = (strsR R lo hi R.length).map prD := by
        unfold pcsI strsR
        rw [List.map_map, List.map_map]
        rfl
      rw [← e]
      exact ha2
    ((with_reducible refine s_nil ?_); (with_reducible refine s_pr1 ?_))
    refine ⟨strsR R lo hi R.length, ⟨D, acc, rfl, .inr o, ha3⟩, by unfold strsR; rw [List.length_map, List.length_range]; omega, fun v r vs out e n o h ⟨p1, p2⟩ => ?_⟩
    exact k v r vs out ((e1.trans eu).trans e) ((e1.trans eu).back n) o h ⟨p1, fun n => (p2 n).trans ins_ne2⟩
theorem pcs_bd {R : List (Int × Int)} (h : TabOk R) {t : Int × Int × Int} (ht : t ∈ pcsI R) : 0 ≤ t.1 ∧ t.1 ≤ 1000000000 ∧ 0 ≤ t.2.1 ∧ t.2.1 ≤ 1000000000 ∧ -2880 ≤ t.2.2 ∧ t.2.2 ≤ 2880 := by
  unfold pcsI at ht
  obtain ⟨i, hi, rfl⟩ := List.mem_map.mp ht
  rw [List.mem_range] at hi
  have hp : R[i]? = some R[i] := List.getElem?_eq_getElem hi
  rw [pc_low hp]
  obtain ⟨b1, b2, b3, b4⟩ := h.r.mem _ (List.mem_of_getElem? hp)
  refine ⟨b1, b2, ?_, ?_, b3, b4⟩
  · show 0 ≤ lastOf R i
    unfold lastOf
    cases e : R[i + 1]? with
    | none => decide
    | some q =>
      have := rising_next h.r hp e
      show 0 ≤ q.1 - 1
      omega
  · show lastOf R i ≤ 1000000000
    unfold lastOf
    cases e : R[i + 1]? with
    | none => decide
    | some q =>
      have := (h.r.mem _ (List.mem_of_getElem? e)).2.1
      show q.1 - 1 ≤ 1000000000
      omega
theorem rpa_mem {S : Hp} {vs : List V} {ds : List PyData} {v : V} (r : RpA S vs ds) (h : v ∈ vs) : ∃ d ∈ ds, Rp S v d := by
  obtain ⟨i, hi⟩ := List.mem_iff_getElem?.mp h
  obtain ⟨d, h1, h2⟩ := r.get hi
  exact ⟨d, List.mem_of_getElem? h1, h2⟩
abbrev nm_l_near : List Str := ["_law_state", "_law_rows_here", "_law_low", "_law_high", "_law_shift_here", "_law_ends"]
theorem sc_l_near : FnScope nm_l_near ["_law_state", "_law_rows_here"] (defScope s_l_near) := ⟨rfl, rfl, rfl, by decide +kernel, rfl, by decide +kernel, by decide +kernel⟩
theorem st_l_near (a b : V) : start nm_l_near [a, b] = [some a, some b, none, none, none, none] := rfl
def p_l_near (w : Wd) (a b : V) (Q : VK) (_ : XK) : Prop := ∃ p R, a = .ref p ∧ Stt w p ∧ Rp w.S b (spD R) ∧ TabOk R ∧ ∀ v d, Ext (One p) w v → Stt v p → -10000 ≤ d → d ≤ 1000010000 → Q (.int d) v.H
theorem ok_l_near {f : Addr} {fd : FuncData} {C_Entry C_Within C_At C_Between C_Table C_Read C_Log C_LogError C_NoEntry C_NoMoment C_NoName C_NoPlace C_NoReading : Addr} (F : Fun K "_law_near" "_law_near" s_l_near f fd) (T : Txt K mg C_Entry C_Within C_At C_Between C_Table C_Read C_Log C_LogError C_NoEntry C_NoMoment C_NoName C_NoPlace C_NoReading) (c_l_pieces : Fnc P ww K mg base CX0 1 "_law_pieces" (pr1 (p_l_pieces))) (c_l_pull : Fnc P ww K mg base CX0 2 "_law_pull" (pr2 (p_l_pull))) : FnOk P ww K mg base CX0 3 f fd ["_law_state", "_law_rows_here"] (pr2 (p_l_near)) := by
  refine F.ok sc_l_near (fun vs H Q E h => len2 h) (fun cdv A outer s H vs Q E hr h => ?_)
  obtain ⟨w, x0, x1,  rfl, rfl, h⟩ := h
  have ekT := ek_T T
  have oex_NoEntry := T.oex_NoEntry; have xf_NoEntry := T.xf_NoEntry; have ec_NoEntry := T.ec_NoEntry; have xn_NoEntry := T.xn_NoEntry
  have oex_NoMoment := T.oex_NoMoment; have xf_NoMoment := T.xf_NoMoment; have ec_NoMoment := T.ec_NoMoment; have xn_NoMoment := T.xn_NoMoment
  have oex_NoName := T.oex_NoName; have xf_NoName := T.xf_NoName; have ec_NoName := T.ec_NoName; have xn_NoName := T.xn_NoName
  have oex_NoPlace := T.oex_NoPlace; have xf_NoPlace := T.xf_NoPlace; have ec_NoPlace := T.ec_NoPlace; have xn_NoPlace := T.xn_NoPlace
  have oex_NoReading := T.oex_NoReading; have xf_NoReading := T.xf_NoReading; have ec_NoReading := T.ec_NoReading; have xn_NoReading := T.xn_NoReading
  have rel_NoEntry_NoEntry := T.rel_NoEntry_NoEntry
  have exm_NoEntry_NoEntry := T.exm_NoEntry_NoEntry
  refine ⟨_, (pss_cons (ps_asg (pe_ix (kIx K) (pe_fn c_l_pieces hr (by decide) pass0 (pa_cons (pv 1) pa_nil)) (pe_fn c_l_pull hr (by decide) pass0 (pa_cons (pv 0) (pa_cons (pe_callB (kLen K) (by rfl) T.n_len (by decide +kernel) (pa_cons (pv 1) pa_nil)) pa_nil))) (fun _ _ => rfl)) (kgTup K (by rfl) (pgs_cons (pg_name (i := 2) sc_l_near.nd rfl (Or.inl rfl)) (pgs_cons (pg_name (i := 3) sc_l_near.nd rfl (Or.inl rfl)) (pgs_cons (pg_name (i := 4) sc_l_near.nd rfl (Or.inl rfl)) pgs_nil)))))
      (pss_cons (ps_set (i := 5) sc_l_near.nd rfl (Or.inl rfl) (pe_lst (pa_cons (pv 2) (pa_cons (pv 3) (pa_cons (pv 2) (pa_cons (pv 3) (pa_cons (pe_op (kAdd K) (pv 2) (pe_op g_div (pe_op g_sub (pv 3) (pv 2)) pe_int)) pa_nil)))))))
      (pss_one (ps_ret (pe_op (kAdd K) (pe_op (kAdd K) (pe_ix (kIx K) (pv 5) (pe_fn c_l_pull hr (by decide) pass0 (pa_cons (pv 0) (pa_cons pe_int pa_nil))) (fun _ _ => rfl)) (pv 4)) (pe_ix (kIx K) (pe_lst (pa_cons pe_int (pa_cons pe_int (pa_cons pe_int (pa_cons (pe_un un_neg pe_int) (pa_cons (pe_op g_sub (pe_fn c_l_pull hr (by decide) pass0 (pa_cons (pv 0) (pa_cons pe_int pa_nil))) pe_int) pa_nil)))))) (pe_fn c_l_pull hr (by decide) pass0 (pa_cons (pv 0) (pa_cons pe_int pa_nil))) (fun _ _ => rfl))))))), ?_⟩
  rw [st_l_near]
  obtain ⟨p, R, rfl, pu, hR, hok, k⟩ := h
  have hR0 := hR
  obtain ⟨q, vs, rfl, sq, ra⟩ := hR.list_inv
  have la := ra.length
  rw [List.length_map] at la
  have hpos : 0 < R.length := List.length_pos_iff.mpr hok.n
  have hl := hok.l
  ((with_reducible refine s_seq ?_); (with_reducible refine s_asg ?_); (with_reducible refine s_op ?_); (with_reducible refine s_call ?_); (with_reducible refine s_cons ?_); (with_reducible refine' s_var ?q0 ?q1); (case q0 => exact rfl); (with_reducible refine s_nil ?_); (with_reducible refine s_pr1 ?_))
  refine ⟨R, hR0, hok, fun v1 r us e1 n1 s1 ra1 => ?_⟩
  have lu := ra1.length
  have lp : (pcsI R).length = R.length := by unfold pcsI; rw [List.length_map, List.length_range]
  rw [List.length_map] at lu
  wtm_at "gs"
  ((with_reducible refine' s_ixSm ?q62 ?q63 ?q64 ?q65); (case q62 => refine' st_go ( by assumption ) ?q66; (case q66 => assumption)); (case q63 => omega); (case q64 => omega))
  intro v hv hm
  clear hv
  rename_i v2 d2 e2 pu2 h20 h21
  obtain ⟨d, hd, hr⟩ := rpa_mem (ra1.go e2) hm
  obtain ⟨t, ht, rfl⟩ := List.mem_map.mp hd
  obtain ⟨b1, b2, b3, b4, b5, b6⟩ := pcs_bd hok ht
  obtain ⟨tt, vt, rfl, st, rt⟩ := hr.tuple_inv
  obtain rfl : vt = [.int t.1, .int t.2.1, .int t.2.2] := by
    cases rt with
    | cons a1 r1 => cases r1 with
      | cons a2 r2 => cases r2 with
        | cons a3 r3 =>
          cases r3
          rw [a1.int_inv, a2.int_inv, a3.int_inv]
  obtain ⟨x, y, z⟩ := t
  dsimp only at b1 b2 b3 b4 b5 b6 st
  have ew2 : Ext (One p) w v2 := (e1.more fun _ z => z.elim).trans e2
  clear e1 e2 pu rt hr hm hd s1 ra1
  wtm_at "gs"
  ((with_reducible refine' s_ixSm ?q167 ?q168 ?q169 ?q170); (case q167 => refine' st_go ( by assumption ) ?q171; (case q171 => assumption)); (case q168 => omega); (case q169 => omega))
  intro v hv hm
  clear hv
  simp only [List.mem_cons, List.not_mem_nil, or_false] at hm
  obtain ⟨n, rfl, hn0, hn1⟩ : ∃ n : Int, v = .int n ∧ 0 ≤ n ∧ n ≤ 1000000000 := by
    rcases hm with rfl | rfl | rfl | rfl | rfl
    · exact ⟨_, rfl, by omega, by omega⟩
    · exact ⟨_, rfl, by omega, by omega⟩
    · exact ⟨_, rfl, by omega, by omega⟩
    · exact ⟨_, rfl, by omega, by omega⟩
    · exact ⟨_, rfl, by omega, by omega⟩
  clear hm
  wtm_at "gs"
  ((with_reducible refine' s_ixSm ?q294 ?q295 ?q296 ?q297); (case q294 => refine' st_go ( by assumption ) ?q298; (case q298 => assumption)); (case q295 => omega); (case q296 => omega))
  intro v hv hm
  clear hv
  simp only [List.mem_cons, List.not_mem_nil, or_false] at hm
  obtain ⟨m, rfl, hm0, hm1⟩ : ∃ n : Int, v = .int n ∧ -200 ≤ n ∧ n ≤ 200 := by rcases hm with rfl | rfl | rfl | rfl | rfl <;> exact ⟨_, rfl, by omega, by omega⟩
  clear hm
  ((with_reducible refine s_add ?_))
  exact k _ _ (by (refine' Ext.step ?q299 ?q300 ?q301; (case q300 => assumption); (case q299 => refine' Ext.step ?q302 ?q303 ?q304; (case q303 => assumption); (case q302 => refine' Ext.step ?q305 ?q306 ?q307; (case q306 => assumption); (case q305 => refine' Ext.step ?q308 ?q309 ?q310; (case q309 => assumption); (case q308 => refine' Ext.step ?q311 ?q312 ?q313; (case q312 => assumption); (case q311 => assumption); (case q313 => exact fun _ z => z.elim)); (case q310 => refine tch_one ?q314; refine Or.inr ?_; rfl)); (case q307 => refine tch_one ?q315; refine Or.inr ?_; rfl)); (case q304 => exact fun _ z => z.elim)); (case q301 => refine tch_one ?q316; refine Or.inr ?_; rfl))) (by (assumption)) (by omega) (by omega)
abbrev nm_l_spec : List Str := ["_law_state", "_law_name", "_law_places", "_law_tables", "_law_word", "_law_place", "_law_rows_here", "_law_low", "_law_high"]
theorem sc_l_spec : FnScope nm_l_spec ["_law_state", "_law_name", "_law_places", "_law_tables"] (defScope s_l_spec) := ⟨rfl, rfl, rfl, by decide +kernel, rfl, by decide +kernel, by decide +kernel⟩
theorem st_l_spec (a b c d : V) : start nm_l_spec [a, b, c, d] = [some a, some b, some c, some d, none, none, none, none, none] := rfl
def p_l_spec (w : Wd) (a b c d : V) (Q : VK) (_ : XK) : Prop := ∃ p z q T, a = .ref p ∧ Stt w p ∧ b = .str z ∧ NmOk z ∧ c = .ref q ∧ w.S q = some (.lst ((T.map (·.1)).map V.str)) ∧ TabsL w d T ∧ T ≠ [] ∧ T.length < 1000 ∧ (∀ y ∈ T, NmOk y.1) ∧
  ∀ v r e, Ext (One p) w v → Stt v p → Rp v.S r (specD e) → SpecOk e T → e.n = z → Q r v.H
theorem ok_l_spec {f : Addr} {fd : FuncData} {C_Entry C_Within C_At C_Between C_Table C_Read C_Log C_LogError C_NoEntry C_NoMoment C_NoName C_NoPlace C_NoReading : Addr} (F : Fun K "_law_spec" "_law_spec" s_l_spec f fd) (T : Txt K mg C_Entry C_Within C_At C_Between C_Table C_Read C_Log C_LogError C_NoEntry C_NoMoment C_NoName C_NoPlace C_NoReading) (c_l_near : Fnc P ww K mg base CX0 3 "_law_near" (pr2 (p_l_near))) (c_l_pull : Fnc P ww K mg base CX0 2 "_law_pull" (pr2 (p_l_pull))) : FnOk P ww K mg base CX0 4 f fd ["_law_state", "_law_name", "_law_places", "_law_tables"] (pr4 (p_l_spec)) := by
  refine F.ok sc_l_spec (fun vs H Q E h => len4 h) (fun cdv A outer s H vs Q E hr h => ?_)
  obtain ⟨w, x0, x1, x2, x3,  rfl, rfl, h⟩ := h
  have ekT := ek_T T
  have oex_NoEntry := T.oex_NoEntry; have xf_NoEntry := T.xf_NoEntry; have ec_NoEntry := T.ec_NoEntry; have xn_NoEntry := T.xn_NoEntry
  have oex_NoMoment := T.oex_NoMoment; have xf_NoMoment := T.xf_NoMoment; have ec_NoMoment := T.ec_NoMoment; have xn_NoMoment := T.xn_NoMoment
  have oex_NoName := T.oex_NoName; have xf_NoName := T.xf_NoName; have ec_NoName := T.ec_NoName; have xn_NoName := T.xn_NoName
  have oex_NoPlace := T.oex_NoPlace; have xf_NoPlace := T.xf_NoPlace; have ec_NoPlace := T.ec_NoPlace; have xn_NoPlace := T.xn_NoPlace
  have oex_NoReading := T.oex_NoReading; have xf_NoReading := T.xf_NoReading; have ec_NoReading := T.ec_NoReading; have xn_NoReading := T.xn_NoReading
  have rel_NoEntry_NoEntry := T.rel_NoEntry_NoEntry
  have exm_NoEntry_NoEntry := T.exm_NoEntry_NoEntry
  refine ⟨_, (pss_cons (ps_set (i := 4) sc_l_spec.nd rfl (Or.inl rfl) (pe_ix (kIx K) (pe_lst (pa_cons pe_str (pa_cons pe_str (pa_cons pe_str (pa_cons pe_str (pa_cons pe_str (pa_cons pe_str (pa_cons pe_str (pa_cons pe_str pa_nil))))))))) (pe_fn c_l_pull hr (by decide) pass0 (pa_cons (pv 0) (pa_cons pe_int pa_nil))) (fun _ _ => rfl)))
      (pss_cons (ps_set (i := 5) sc_l_spec.nd rfl (Or.inl rfl) (pe_ix (kIx K) (pv 2) (pe_fn c_l_pull hr (by decide) pass0 (pa_cons (pv 0) (pa_cons (pe_callB (kLen K) (by rfl) T.n_len (by decide +kernel) (pa_cons (pv 2) pa_nil)) pa_nil))) (fun _ _ => rfl)))
      (pss_cons (ps_set (i := 6) sc_l_spec.nd rfl (Or.inl rfl) (pe_dget (hu_of hr) (pv 3) (pv 5) (fun _ _ => rfl)))
      (pss_cons (ps_if (pt_cmpR (kIn K) (pv 4) (pe_tup (pa_cons pe_str (pa_cons pe_str pa_nil))) (by rfl)) (pss_cons (ps_set (i := 7) sc_l_spec.nd rfl (Or.inl rfl) (pe_fn c_l_near hr (by decide) pass0 (pa_cons (pv 0) (pa_cons (pv 6) pa_nil))))
      (pss_cons (ps_if (pt_cmpR (kEq K hr.units) (pe_fn c_l_pull hr (by decide) pass0 (pa_cons (pv 0) (pa_cons pe_int pa_nil))) pe_int (nomark _)) (pss_one (ps_set (i := 7) sc_l_spec.nd rfl (Or.inl rfl) (pe_ix (kIx K) (pe_lst (pa_cons (pe_op g_pow pe_int pe_int) (pa_cons (pe_op g_sub pe_int (pe_op g_pow pe_int pe_int)) (pa_cons (pe_fn c_l_pull hr (by decide) pass0 (pa_cons (pv 0) (pa_cons (pe_op g_pow pe_int pe_int) pa_nil))) pa_nil)))) (pe_fn c_l_pull hr (by decide) pass0 (pa_cons (pv 0) (pa_cons pe_int pa_nil))) (fun _ _ => rfl)))) pss_nil)
      (pss_cons (ps_set (i := 8) sc_l_spec.nd rfl (Or.inl rfl) (pe_callB (kMin K rfl) (by rfl) T.n_min (by decide +kernel) (pa_cons (pe_op g_pow pe_int pe_int) (pa_cons (pe_op (kAdd K) (pv 7) (pe_ix (kIx K) (pe_lst (pa_cons pe_int (pa_cons pe_int (pa_cons pe_int (pa_cons pe_int (pa_cons (pe_op g_pow pe_int pe_int) (pa_cons (pe_un un_neg pe_int) pa_nil))))))) (pe_fn c_l_pull hr (by decide) pass0 (pa_cons (pv 0) (pa_cons pe_int pa_nil))) (fun _ _ => rfl))) pa_nil))))
      (pss_one (ps_ret (pe_tup (pa_cons (pv 4) (pa_cons (pv 1) (pa_cons (pv 5) (pa_cons (pv 7) (pa_cons (pe_ix (kIx K) (pe_lst (pa_cons (pe_callB (kMax K rfl) (by rfl) T.n_max (by decide +kernel) (pa_cons (pv 8) (pa_cons (pe_op g_sub pe_int (pe_op g_pow pe_int pe_int)) pa_nil))) (pa_cons (pv 7) pa_nil))) (pe_callTy g_int (by rfl) T.n_int (by decide +kernel) (pa_cons (pe_cmpR (kEq K hr.units) (pv 4) pe_str (nomark _)) pa_nil)) (fun _ _ => rfl)) pa_nil))))))))))) pss_nil)
      (pss_cons (ps_set (i := 7) sc_l_spec.nd rfl (Or.inl rfl) (pe_callB (kMin K rfl) (by rfl) T.n_min (by decide +kernel) (pa_cons (pe_op g_pow pe_int pe_int) (pa_cons (pe_callB (kMax K rfl) (by rfl) T.n_max (by decide +kernel) (pa_cons pe_int (pa_cons (pe_op g_sub (pe_op (kAdd K) (pe_ix (kIx K) (pe_ix (kIx K) (pv 6) (pe_fn c_l_pull hr (by decide) pass0 (pa_cons (pv 0) (pa_cons (pe_callB (kLen K) (by rfl) T.n_len (by decide +kernel) (pa_cons (pv 6) pa_nil)) pa_nil))) (fun _ _ => rfl)) pe_int (fun _ _ => rfl)) (pe_fn c_l_pull hr (by decide) pass0 (pa_cons (pv 0) (pa_cons pe_int pa_nil)))) pe_int) pa_nil))) pa_nil))))
      (pss_cons (ps_if (pt_cmpR (kEq K hr.units) (pe_fn c_l_pull hr (by decide) pass0 (pa_cons (pv 0) (pa_cons pe_int pa_nil))) pe_int (nomark _)) (pss_one (ps_set (i := 7) sc_l_spec.nd rfl (Or.inl rfl) (pe_ix (kIx K) (pe_lst (pa_cons pe_int (pa_cons (pe_op g_pow pe_int pe_int) (pa_cons (pe_fn c_l_pull hr (by decide) pass0 (pa_cons (pv 0) (pa_cons (pe_op (kAdd K) (pe_op g_pow pe_int pe_int) pe_int) pa_nil))) pa_nil)))) (pe_fn c_l_pull hr (by decide) pass0 (pa_cons (pv 0) (pa_cons pe_int pa_nil))) (fun _ _ => rfl)))) pss_nil)
      (pss_cons (ps_set (i := 8) sc_l_spec.nd rfl (Or.inl rfl) (pe_callB (kMin K rfl) (by rfl) T.n_min (by decide +kernel) (pa_cons (pe_op g_pow pe_int pe_int) (pa_cons (pe_callB (kMax K rfl) (by rfl) T.n_max (by decide +kernel) (pa_cons pe_int (pa_cons (pe_op (kAdd K) (pv 7) (pe_ix (kIx K) (pe_lst (pa_cons pe_int (pa_cons pe_int (pa_cons pe_int (pa_cons pe_int (pa_cons (pe_op g_pow pe_int pe_int) (pa_cons (pe_un un_neg pe_int) pa_nil))))))) (pe_fn c_l_pull hr (by decide) pass0 (pa_cons (pv 0) (pa_cons pe_int pa_nil))) (fun _ _ => rfl))) pa_nil))) pa_nil))))
      (pss_cons (ps_if (pt_cmpR (kEq K hr.units) (pv 4) pe_str (nomark _)) (pss_one (ps_ret (pe_tup (pa_cons (pv 4) (pa_cons (pv 1) (pa_cons pe_str (pa_cons pe_int (pa_cons (pe_op g_pow pe_int pe_int) pa_nil)))))))) pss_nil)
      (pss_one (ps_ret (pe_tup (pa_cons (pv 4) (pa_cons (pv 1) (pa_cons pe_str (pa_cons (pv 7) (pa_cons (pe_ix (kIx K) (pe_lst (pa_cons (pv 8) (pa_cons (pv 7) pa_nil))) (pe_callTy g_int (by rfl) T.n_int (by decide +kernel) (pa_cons (pe_cmpR (kEq K hr.units) (pv 4) pe_str (nomark _)) pa_nil)) (fun _ _ => rfl)) pa_nil)))))))))))))))), ?_⟩
  rw [st_l_spec]
  obtain ⟨p, z, q, T, rfl, pu, rfl, hz, rfl, sq, ⟨td, kvs, rfl, std, htd⟩, hT, hTl, hTn, k⟩ := h
  have hne : td ≠ p := by
    rcases std with h | h
    · exact fun e => by rw [e, pu.none] at h; cases h
    · obtain ⟨_, _, _, _, op⟩ := pu; exact own_ne h op (fun z => by cases z)
  have hpos : 0 < T.length := List.length_pos_iff.mpr hT
  have hlk : ((T.map (·.1)).map V.str).length = T.length := by rw [List.length_map, List.length_map]
  wtm_at "gs"
  rename_i l1 v1 e1 n1 s1 v2 d2 e2 pu2 h20 h21
  ((with_reducible refine' s_ixSm ?q371 ?q372 ?q373 ?q374); (case q371 => refine' st_go ( by assumption ) ?q375; (case q375 => assumption)); (case q372 => omega); (case q373 => omega))
  intro v hv hm
  clear hv
  simp only [List.mem_cons, List.not_mem_nil, or_false] at hm
  obtain ⟨kd, rfl, hk⟩ : ∃ k, v = .str (wordK k) ∧ simple k := by
    rcases hm with rfl | rfl | rfl | rfl | rfl | rfl | rfl | rfl
    · exact ⟨.any, rfl, trivial⟩
    · exact ⟨.within, rfl, trivial⟩
    · exact ⟨.att, rfl, trivial⟩
    · exact ⟨.between, rfl, trivial⟩
    · exact ⟨.read, rfl, trivial⟩
    · exact ⟨.between, rfl, trivial⟩
    · exact ⟨.read, rfl, trivial⟩
    · exact ⟨.read, rfl, trivial⟩
  clear hm
  have ew2 : Ext (One p) w v2 := (e1.more fun _ z => z.elim).trans e2
  have sq2 : v2.S q = some (.lst ((T.map (·.1)).map V.str)) := st_go ew2 sq
  have std2 : Rd v2 td (.dK kvs) := std.go ew2 hne
  have htd2 : TbL v2.S kvs T := htd.go ew2
  clear e1 e2 s1 n1 pu sq std htd
  wtm_at "gs"
  rename_i v3 d3 e3 pu3 h30 h31
  refine s_ixSm (st_go e3 sq2) h30 (by omega) ?_
  intro v hv hm
  clear hv
  obtain ⟨y, hy, rfl⟩ := List.mem_map.mp hm
  clear hm
  obtain ⟨R, hR⟩ := getT_mem hy
  obtain ⟨py, hpy, rfl⟩ := List.mem_map.mp hy
  have hyn : NmOk py.1 := hTn py hpy
  generalize py.1 = y at hR hyn hy
  clear hpy hy
  have ew3 : Ext (One p) w v3 := ew2.trans e3
  obtain ⟨vr, hvr, hrp, hok⟩ := DicR.hit (htd2.go e3) hR
  have hdg : DGet v3.H td (.str y) (some vr) := by
    have := dgetR (.inl (Rd.h (std2.go e3 hne))) (.inr y)
    rw [hvr] at this
    exact this
  clear ew2 e3 sq2 std2 htd2
  ((with_reducible refine' s_gname ?q462 ?q463); (case q462 => simp only [ List.set_cons_succ , List.set_cons_zero ]; exact rfl); (with_reducible refine s_seq ?_); (with_reducible refine s_asg ?_); (with_reducible refine s_dget ?_); (with_reducible refine' s_var ?q464 ?q465); (case q464 => exact rfl); (with_reducible refine' s_var ?q466 ?q467); (case q466 => exact rfl))
  refine ⟨td, _, rfl, hdg, ?_⟩
  ((with_reducible refine' s_gname ?q477 ?q478); (case q477 => simp only [ List.set_cons_succ , List.set_cons_zero ]; exact rfl); (with_reducible refine s_seq ?_); (with_reducible refine s_ifS ?_); (with_reducible refine s_test ?_); (with_reducible refine s_op ?_); (with_reducible refine' s_var ?q479 ?q480); (case q479 => exact rfl); (with_reducible refine t_tup ?_); (with_reducible refine s_cons ?_); (with_reducible refine s_c ?_); (with_reducible refine s_cons ?_); (with_reducible refine s_c ?_); (with_reducible refine s_nil ?_); (with_reducible refine' t_newT ?q481 ?q482); (case q481 => simp only [ List.length , sizeLine_eq ]; omega); intro _ _ _ _ _)
  refine s_inT (by (assumption)) (by rfl) ?_
  rw [word_pl]
  rename_i tt v4 e4 n4 s4
  have ew4 : Ext (One p) w v4 := ew3.trans (e4.more fun _ z => z.elim)
  have pu4 : Stt v4 p := pu3.go e4 fun z => z
  have hrp4 : Rp v4.S vr (spD R) := hrp.go e4
  clear e4 n4 s4 ew3 pu3 hrp hdg hvr
  have hb1 : (0 : Int) ≤ 1000000000 := by decide
  by_cases hpl : placed kd
  · rw [decide_eq_true hpl]
    ((with_reducible refine s_bl ?_); (with_reducible refine ite_tt ?_); (with_reducible refine s_seq ?_); (with_reducible refine s_asg ?_); (with_reducible refine s_call ?_); (with_reducible refine s_cons ?_); (with_reducible refine' s_var ?q486 ?q487); (case q486 => exact rfl); (with_reducible refine s_cons ?_); (with_reducible refine' s_var ?q488 ?q489); (case q488 => exact rfl); (with_reducible refine s_nil ?_); (with_reducible refine s_pr2 ?_))
    refine ⟨p, R, rfl, pu4, hrp4, hok, fun v5 n e5 pu5 hn0 hn1 => ?_⟩
    ((with_reducible refine' s_gname ?q490 ?q491); (case q490 => simp only [ List.set_cons_succ , List.set_cons_zero ]; exact rfl); (with_reducible refine s_seq ?_))
    refine s_ifJ (fun σ u => Ext (One p) v5 u ∧ Stt u p ∧ ∃ low : Int, -10000000000 ≤ low ∧ low ≤ 10000000000 ∧ σ = [some (.ref p), some (.str z), some (.ref q), some (.ref td), some (.str (wordK kd)), some (.str y), some vr, some (.int low), none]) (fun Z hZ => ?_) ?_
    · wtm_at "gs"
      refine ite_d (fun c => ?_) (fun c => ?_)
      · wtm_at "gs"
        ((with_reducible refine' s_ixSm ?q635 ?q636 ?q637 ?q638); (case q635 => refine' st_go ( by assumption ) ?q639; (case q639 => assumption)); (case q636 => omega); (case q637 => omega))
        intro v hv hm
        clear hv
        simp only [List.mem_cons, List.not_mem_nil, or_false] at hm
        obtain ⟨lo, rfl, hlo0, hlo1⟩ : ∃ n : Int, v = .int n ∧ -10000000000 ≤ n ∧ n ≤ 10000000000 := by
          rcases hm with rfl | rfl | rfl <;> exact ⟨_, rfl, by omega, by omega⟩
        clear hm
        ((with_reducible refine' s_gname ?q640 ?q641); (case q640 => simp only [ List.set_cons_succ , List.set_cons_zero ]; exact rfl))
        exact hZ _ _ ⟨by (refine' Ext.step ?q642 ?q643 ?q644; (case q643 => assumption); (case q642 => refine' Ext.step ?q645 ?q646 ?q647; (case q646 => assumption); (case q645 => refine' Ext.step ?q648 ?q649 ?q650; (case q649 => assumption); (case q648 => assumption); (case q650 => refine tch_one ?q651; refine Or.inr ?_; rfl)); (case q647 => exact fun _ z => z.elim)); (case q644 => refine tch_one ?q652; refine Or.inr ?_; rfl)), by (assumption), lo, hlo0, hlo1, rfl⟩
      · ((with_reducible refine s_next ?_))
        exact hZ _ _ ⟨by (assumption), by (assumption), n, by omega, by omega, rfl⟩
    · rintro σ u ⟨eu, puu, low, hl0, hl1, rfl⟩
      wtm_at "gs"
      ((with_reducible refine' s_ixSm ?q766 ?q767 ?q768 ?q769); (case q766 => refine' st_go ( by assumption ) ?q770; (case q770 => assumption)); (case q767 => omega); (case q768 => omega))
      intro v hv hm
      clear hv
      simp only [List.mem_cons, List.not_mem_nil, or_false] at hm
      obtain ⟨ad, rfl, had0, had1⟩ : ∃ n : Int, v = .int n ∧ -1 ≤ n ∧ n ≤ 1000000 := by rcases hm with rfl | rfl | rfl | rfl | rfl | rfl <;> exact ⟨_, rfl, by omega, by omega⟩
      clear hm
      ((with_reducible refine s_add ?_); (with_reducible refine s_nil ?_); (with_reducible refine s_min ?_); (with_reducible refine' s_gname ?q771 ?q772); (case q771 => simp only [ List.set_cons_succ , List.set_cons_zero ]; exact rfl); (with_reducible refine s_ret ?_); (with_reducible refine t_tup ?_); (with_reducible refine s_cons ?_); (with_reducible refine' s_var ?q773 ?q774); (case q773 => exact rfl); (with_reducible refine s_cons ?_); (with_reducible refine' s_var ?q775 ?q776); (case q775 => exact rfl); (with_reducible refine s_cons ?_); (with_reducible refine' s_var ?q777 ?q778); (case q777 => exact rfl); (with_reducible refine s_cons ?_); (with_reducible refine' s_var ?q779 ?q780); (case q779 => exact rfl); (with_reducible refine s_cons ?_); (with_reducible refine s_op ?_); (with_reducible refine t_lst ?_); (with_reducible refine s_cons ?_); (with_reducible refine s_CB ?_); (with_reducible refine s_cons ?_); (with_reducible refine' s_var ?q781 ?q782); (case q781 => exact rfl); (with_reducible refine s_cons ?_); (with_reducible refine s_op ?_); (with_reducible refine s_c ?_); (with_reducible refine s_op ?_); (with_reducible refine s_c ?_); (with_reducible refine s_c ?_); (with_reducible refine' s_powN ?q783 ?q784 ?q785); (case q783 => exact ⟨ by decide , by decide , by decide ⟩); (case q784 => exact p10_10); (with_reducible refine s_sub ?_); (with_reducible refine s_nil ?_); (with_reducible refine s_max ?_); (with_reducible refine s_cons ?_); (with_reducible refine' s_var ?q786 ?q787); (case q786 => exact rfl); (with_reducible refine s_nil ?_); (with_reducible refine' t_newLS ?q788 ?q789); (case q788 => simp only [ List.length , sizeLine_eq ]; omega); intro _ _ _ _ _; (with_reducible refine s_CB ?_); (with_reducible refine s_cons ?_); (with_reducible refine s_op ?_); (with_reducible refine' s_var ?q790 ?q791); (case q790 => exact rfl); (with_reducible refine s_c ?_); (with_reducible refine s_eqS ?_); (with_reducible refine s_nil ?_); (with_reducible refine s_intb ?_))
      have hw : (decide (wordK kd = Str.ofString "read")) = decide (kd = .read) := word_eq kd .read
      rw [hw]
      by_cases hrd : kd = .read
      · rw [decide_eq_true hrd, if_pos rfl]
        ((with_reducible refine' s_ixL ?q882 ?q883 ?q884); (case q882 => assumption); (case q883 => exact rfl); (with_reducible refine s_nil ?_); (with_reducible refine' t_newT ?q885 ?q886); (case q885 => simp only [ List.length , sizeLine_eq ]; omega); intro _ _ _ _ _)
        rename_i tp vp ep np sp
        exact k _ _ ⟨kd, z, y, low, low⟩ (by (refine' Ext.step ?q887 ?q888 ?q889; (case q888 => assumption); (case q887 => refine' Ext.step ?q890 ?q891 ?q892; (case q891 => assumption); (case q890 => refine' Ext.step ?q893 ?q894 ?q895; (case q894 => assumption); (case q893 => refine' Ext.step ?q896 ?q897 ?q898; (case q897 => assumption); (case q896 => refine' Ext.step ?q899 ?q900 ?q901; (case q900 => assumption); (case q899 => refine' Ext.step ?q902 ?q903 ?q904; (case q903 => assumption); (case q902 => assumption); (case q904 => refine tch_one ?q905; refine Or.inr ?_; rfl)); (case q901 => refine tch_one ?q906; refine Or.inr ?_; rfl)); (case q898 => exact fun _ z => z.elim)); (case q895 => refine tch_one ?q907; refine Or.inr ?_; rfl)); (case q892 => exact fun _ z => z.elim)); (case q889 => exact fun _ z => z.elim))) (by (refine' Stt.go ( by assumption ) ?q908 ?q909; (case q908 => exact fun h => h); (case q909 => refine' Stt.go ( by assumption ) ?q910 ?q911; (case q910 => exact fun h => h); (case q911 => assumption)))) (.tup sp (.cons (.str _) (.cons (.str _) (.cons (.str _) (.cons (.int _) (.cons (.int _) .nil)))))) ⟨hk, hz, fun _ => ⟨hyn, ⟨R, hR⟩, hl0, hl1, hl0, hl1⟩, fun h => absurd hpl h, (fun h => by have h : kd = .any := h; rw [h] at hpl; exact hpl.elim), fun _ => rfl⟩ rfl
      · rw [decide_eq_false hrd, if_neg (by decide)]
        ((with_reducible refine' s_ixL ?q921 ?q922 ?q923); (case q921 => assumption); (case q922 => exact rfl); (with_reducible refine s_nil ?_); (with_reducible refine' t_newT ?q924 ?q925); (case q924 => simp only [ List.length , sizeLine_eq ]; omega); intro _ _ _ _ _)
        rename_i tp vp ep np sp
        exact k _ _ ⟨kd, z, y, low, max (min 10000000000 (low + ad)) (0 - 10000000000)⟩ (by (refine' Ext.step ?q926 ?q927 ?q928; (case q927 => assumption); (case q926 => refine' Ext.step ?q929 ?q930 ?q931; (case q930 => assumption); (case q929 => refine' Ext.step ?q932 ?q933 ?q934; (case q933 => assumption); (case q932 => refine' Ext.step ?q935 ?q936 ?q937; (case q936 => assumption); (case q935 => refine' Ext.step ?q938 ?q939 ?q940; (case q939 => assumption); (case q938 => refine' Ext.step ?q941 ?q942 ?q943; (case q942 => assumption); (case q941 => assumption); (case q943 => refine tch_one ?q944; refine Or.inr ?_; rfl)); (case q940 => refine tch_one ?q945; refine Or.inr ?_; rfl)); (case q937 => exact fun _ z => z.elim)); (case q934 => refine tch_one ?q946; refine Or.inr ?_; rfl)); (case q931 => exact fun _ z => z.elim)); (case q928 => exact fun _ z => z.elim))) (by (refine' Stt.go ( by assumption ) ?q947 ?q948; (case q947 => exact fun h => h); (case q948 => refine' Stt.go ( by assumption ) ?q949 ?q950; (case q949 => exact fun h => h); (case q950 => assumption)))) (.tup sp (.cons (.str _) (.cons (.str _) (.cons (.str _) (.cons (.int _) (.cons (.int _) .nil)))))) ⟨hk, hz, fun _ => ⟨hyn, ⟨R, hR⟩, hl0, hl1, (show -10000000000 ≤ max (min 10000000000 (low + ad)) (0 - 10000000000) by omega), (show max (min 10000000000 (low + ad)) (0 - 10000000000) ≤ 10000000000 by omega)⟩, fun h => absurd hpl h, (fun h => by have h : kd = .any := h; rw [h] at hpl; exact hpl.elim), (fun h => by
          have h : kd = .att ∨ kd = .read := h
          rcases h with h | h
          · rw [h] at hpl; exact hpl.elim
          · exact absurd h hrd)⟩ rfl
  · rw [decide_eq_false hpl]
    obtain ⟨q2, vs2, rfl, sq2, ra2⟩ := hrp4.list_inv
    have la := ra2.length
    rw [List.length_map] at la
    have hpos2 : 0 < R.length := List.length_pos_iff.mpr hok.n
    have hlR := hok.l
    wtm_at "gs"
    ((with_reducible refine' s_ixSm ?q1059 ?q1060 ?q1061 ?q1062); (case q1059 => refine' st_go ( by assumption ) ?q1063; (case q1063 => assumption)); (case q1060 => omega); (case q1061 => omega))
    intro v hv hm
    clear hv
    rename_i v5 d5 e5 pu5 h50 h51
    obtain ⟨d, hd, hr⟩ := rpa_mem (ra2.go e5) hm
    obtain ⟨t, ht, rfl⟩ := List.mem_map.mp hd
    obtain ⟨b1, b2, b3, b4⟩ := hok.r.mem t ht
    obtain ⟨t2, rfl, st2⟩ := pr_inv hr
    clear hm hd hr ht
    have ew5 : Ext (One p) w v5 := ew4.trans e5
    clear e5 ew4 pu4 sq2 ra2 hrp4
    wtm_at "gsi"
    refine s_ifJ (fun σ u => Ext (One p) v5 u ∧ Stt u p ∧ ∃ low : Int, 0 ≤ low ∧ low ≤ 1000000000 ∧ σ = [some (.ref p), some (.str z), some (.ref q), some (.ref td), some (.str (wordK kd)), some (.str y), some (.ref q2), some (.int low), none]) (fun Z hZ => ?_) ?_
    · wtm_at "gs"
      refine ite_d (fun c => ?_) (fun c => ?_)
      · wtm_at "gs"
        ((with_reducible refine' s_ixSm ?q1215 ?q1216 ?q1217 ?q1218); (case q1215 => refine' st_go ( by assumption ) ?q1219; (case q1219 => assumption)); (case q1216 => omega); (case q1217 => omega))
        intro v hv hm
        clear hv
        simp only [List.mem_cons, List.not_mem_nil, or_false] at hm
        obtain ⟨lo, rfl, hlo0, hlo1⟩ : ∃ n : Int, v = .int n ∧ 0 ≤ n ∧ n ≤ 1000000000 := by
          rcases hm with rfl | rfl | rfl <;> exact ⟨_, rfl, by omega, by omega⟩
        clear hm
        ((with_reducible refine' s_gname ?q1220 ?q1221); (case q1220 => simp only [ List.set_cons_succ , List.set_cons_zero ]; exact rfl))
        exact hZ _ _ ⟨by (refine' Ext.step ?q1222 ?q1223 ?q1224; (case q1223 => assumption); (case q1222 => refine' Ext.step ?q1225 ?q1226 ?q1227; (case q1226 => assumption); (case q1225 => refine' Ext.step ?q1228 ?q1229 ?q1230; (case q1229 => assumption); (case q1228 => refine' Ext.step ?q1231 ?q1232 ?q1233; (case q1232 => assumption); (case q1231 => assumption); (case q1233 => refine tch_one ?q1234; refine Or.inr ?_; rfl)); (case q1230 => refine tch_one ?q1235; refine Or.inr ?_; rfl)); (case q1227 => exact fun _ z => z.elim)); (case q1224 => refine tch_one ?q1236; refine Or.inr ?_; rfl)), by (assumption), lo, hlo0, hlo1, rfl⟩
      · ((with_reducible refine s_next ?_))
        exact hZ _ _ ⟨by (refine' Ext.step ?q1237 ?q1238 ?q1239; (case q1238 => assumption); (case q1237 => assumption); (case q1239 => refine tch_one ?q1240; refine Or.inr ?_; rfl)), by (assumption), _, by omega, by omega, rfl⟩
    · rintro σ u ⟨eu, puu, low, hl0, hl1, rfl⟩
      wtm_at "gs"
      ((with_reducible refine' s_ixSm ?q1337 ?q1338 ?q1339 ?q1340); (case q1337 => refine' st_go ( by assumption ) ?q1341; (case q1341 => assumption)); (case q1338 => omega); (case q1339 => omega))
      intro v hv hm
      clear hv
      simp only [List.mem_cons, List.not_mem_nil, or_false] at hm
      obtain ⟨ad, rfl, had0, had1⟩ : ∃ n : Int, v = .int n ∧ -1 ≤ n ∧ n ≤ 100000000 := by rcases hm with rfl | rfl | rfl | rfl | rfl | rfl <;> exact ⟨_, rfl, by omega, by omega⟩
      clear hm
      ((with_reducible refine s_add ?_); (with_reducible refine s_nil ?_); (with_reducible refine s_max ?_); (with_reducible refine s_nil ?_); (with_reducible refine s_min ?_); (with_reducible refine' s_gname ?q1342 ?q1343); (case q1342 => simp only [ List.set_cons_succ , List.set_cons_zero ]; exact rfl); (with_reducible refine s_seq ?_); (with_reducible refine s_ifS ?_); (with_reducible refine s_test ?_); (with_reducible refine s_op ?_); (with_reducible refine' s_var ?q1344 ?q1345); (case q1344 => exact rfl); (with_reducible refine s_c ?_); (with_reducible refine s_eqS ?_); (with_reducible refine s_bl ?_))
      have hw : (decide (wordK kd = Str.ofString "any")) = decide (kd = .any) := word_eq kd .any
      rw [hw]
      by_cases han : kd = .any
      · subst han
        rw [decide_eq_true rfl]
        ((with_reducible refine ite_tt ?_); (with_reducible refine s_ret ?_); (with_reducible refine t_tup ?_); (with_reducible refine s_cons ?_); (with_reducible refine' s_var ?q1349 ?q1350); (case q1349 => exact rfl); (with_reducible refine s_cons ?_); (with_reducible refine' s_var ?q1351 ?q1352); (case q1351 => exact rfl); (with_reducible refine s_cons ?_); (with_reducible refine s_c ?_); (with_reducible refine s_cons ?_); (with_reducible refine s_c ?_); (with_reducible refine s_cons ?_); (with_reducible refine s_op ?_); (with_reducible refine s_c ?_); (with_reducible refine s_c ?_); (with_reducible refine' s_powN ?q1353 ?q1354 ?q1355); (case q1353 => exact ⟨ by decide , by decide , by decide ⟩); (case q1354 => exact p10_9); (with_reducible refine s_nil ?_); (with_reducible refine' t_newT ?q1356 ?q1357); (case q1356 => simp only [ List.length , sizeLine_eq ]; omega); intro _ _ _ _ _)
        rename_i tp vp ep np sp
        exact k _ _ ⟨.any, z, Str.ofString "", 0, 1000000000⟩ (by (refine' Ext.step ?q1358 ?q1359 ?q1360; (case q1359 => assumption); (case q1358 => refine' Ext.step ?q1361 ?q1362 ?q1363; (case q1362 => assumption); (case q1361 => refine' Ext.step ?q1364 ?q1365 ?q1366; (case q1365 => assumption); (case q1364 => refine' Ext.step ?q1367 ?q1368 ?q1369; (case q1368 => assumption); (case q1367 => assumption); (case q1369 => refine tch_one ?q1370; refine Or.inr ?_; rfl)); (case q1366 => exact fun _ z => z.elim)); (case q1363 => refine tch_one ?q1371; refine Or.inr ?_; rfl)); (case q1360 => exact fun _ z => z.elim))) (by (refine' Stt.go ( by assumption ) ?q1372 ?q1373; (case q1372 => exact fun h => h); (case q1373 => assumption))) (.tup sp (.cons (.str _) (.cons (.str _) (.cons (.str _) (.cons (.int _) (.cons (.int _) .nil)))))) ⟨hk, hz, fun h => h.elim, fun _ => ⟨rfl, (show (0 : Int) ≤ 0 by decide), (show (0 : Int) ≤ 1000000000 by decide), (show (0 : Int) ≤ 1000000000 by decide), (show (1000000000 : Int) ≤ 1000000000 by decide)⟩, fun _ => ⟨rfl, rfl⟩, (fun h => by rcases h with h | h <;> cases h)⟩ rfl
      · rw [decide_eq_false han]
        ((with_reducible refine ite_ff ?_); (with_reducible refine s_next ?_); (with_reducible refine s_ret ?_); (with_reducible refine t_tup ?_); (with_reducible refine s_cons ?_); (with_reducible refine' s_var ?q1377 ?q1378); (case q1377 => exact rfl); (with_reducible refine s_cons ?_); (with_reducible refine' s_var ?q1379 ?q1380); (case q1379 => exact rfl); (with_reducible refine s_cons ?_); (with_reducible refine s_c ?_); (with_reducible refine s_cons ?_); (with_reducible refine' s_var ?q1381 ?q1382); (case q1381 => exact rfl); (with_reducible refine s_cons ?_); (with_reducible refine s_op ?_); (with_reducible refine t_lst ?_); (with_reducible refine s_cons ?_); (with_reducible refine' s_var ?q1383 ?q1384); (case q1383 => exact rfl); (with_reducible refine s_cons ?_); (with_reducible refine' s_var ?q1385 ?q1386); (case q1385 => exact rfl); (with_reducible refine s_nil ?_); (with_reducible refine' t_newLS ?q1387 ?q1388); (case q1387 => simp only [ List.length , sizeLine_eq ]; omega); intro _ _ _ _ _; (with_reducible refine s_CB ?_); (with_reducible refine s_cons ?_); (with_reducible refine s_op ?_); (with_reducible refine' s_var ?q1389 ?q1390); (case q1389 => exact rfl); (with_reducible refine s_c ?_); (with_reducible refine s_eqS ?_); (with_reducible refine s_nil ?_); (with_reducible refine s_intb ?_))
        have hw : (decide (wordK kd = Str.ofString "at")) = decide (kd = .att) := word_eq kd .att
        rw [hw]
        have hnr : kd ≠ .read := fun h => hpl (by rw [h]; trivial)
        by_cases hat : kd = .att
        · rw [decide_eq_true hat, if_pos rfl]
          ((with_reducible refine' s_ixL ?q1467 ?q1468 ?q1469); (case q1467 => assumption); (case q1468 => exact rfl); (with_reducible refine s_nil ?_); (with_reducible refine' t_newT ?q1470 ?q1471); (case q1470 => simp only [ List.length , sizeLine_eq ]; omega); intro _ _ _ _ _)
          rename_i tp vp ep np sp
          exact k _ _ ⟨kd, z, Str.ofString "", low, low⟩ (by (refine' Ext.step ?q1472 ?q1473 ?q1474; (case q1473 => assumption); (case q1472 => refine' Ext.step ?q1475 ?q1476 ?q1477; (case q1476 => assumption); (case q1475 => refine' Ext.step ?q1478 ?q1479 ?q1480; (case q1479 => assumption); (case q1478 => refine' Ext.step ?q1481 ?q1482 ?q1483; (case q1482 => assumption); (case q1481 => refine' Ext.step ?q1484 ?q1485 ?q1486; (case q1485 => assumption); (case q1484 => assumption); (case q1486 => refine tch_one ?q1487; refine Or.inr ?_; rfl)); (case q1483 => exact fun _ z => z.elim)); (case q1480 => refine tch_one ?q1488; refine Or.inr ?_; rfl)); (case q1477 => exact fun _ z => z.elim)); (case q1474 => exact fun _ z => z.elim))) (by (refine' Stt.go ( by assumption ) ?q1489 ?q1490; (case q1489 => exact fun h => h); (case q1490 => refine' Stt.go ( by assumption ) ?q1491 ?q1492; (case q1491 => exact fun h => h); (case q1492 => assumption)))) (.tup sp (.cons (.str _) (.cons (.str _) (.cons (.str _) (.cons (.int _) (.cons (.int _) .nil)))))) ⟨hk, hz, fun h => absurd h hpl, fun _ => ⟨rfl, hl0, hl1, hl0, hl1⟩, fun h => absurd h han, fun _ => rfl⟩ rfl
        · rw [decide_eq_false hat, if_neg (by decide)]
          ((with_reducible refine' s_ixL ?q1501 ?q1502 ?q1503); (case q1501 => assumption); (case q1502 => exact rfl); (with_reducible refine s_nil ?_); (with_reducible refine' t_newT ?q1504 ?q1505); (case q1504 => simp only [ List.length , sizeLine_eq ]; omega); intro _ _ _ _ _)
          rename_i tp vp ep np sp
          exact k _ _ ⟨kd, z, Str.ofString "", low, min 1000000000 (max 0 (low + ad))⟩ (by (refine' Ext.step ?q1506 ?q1507 ?q1508; (case q1507 => assumption); (case q1506 => refine' Ext.step ?q1509 ?q1510 ?q1511; (case q1510 => assumption); (case q1509 => refine' Ext.step ?q1512 ?q1513 ?q1514; (case q1513 => assumption); (case q1512 => refine' Ext.step ?q1515 ?q1516 ?q1517; (case q1516 => assumption); (case q1515 => refine' Ext.step ?q1518 ?q1519 ?q1520; (case q1519 => assumption); (case q1518 => assumption); (case q1520 => refine tch_one ?q1521; refine Or.inr ?_; rfl)); (case q1517 => exact fun _ z => z.elim)); (case q1514 => refine tch_one ?q1522; refine Or.inr ?_; rfl)); (case q1511 => exact fun _ z => z.elim)); (case q1508 => exact fun _ z => z.elim))) (by (refine' Stt.go ( by assumption ) ?q1523 ?q1524; (case q1523 => exact fun h => h); (case q1524 => refine' Stt.go ( by assumption ) ?q1525 ?q1526; (case q1525 => exact fun h => h); (case q1526 => assumption)))) (.tup sp (.cons (.str _) (.cons (.str _) (.cons (.str _) (.cons (.int _) (.cons (.int _) .nil)))))) ⟨hk, hz, fun h => absurd h hpl, fun _ => ⟨rfl, hl0, hl1, (show 0 ≤ min 1000000000 (max 0 (low + ad)) by omega), (show min 1000000000 (max 0 (low + ad)) ≤ 1000000000 by omega)⟩, fun h => absurd h han, fun h => absurd h (by rintro (h | h); exact hat h; exact hnr h)⟩ rfl
theorem s_eqK {K : PySem.W.Frag} {a : Kd} (b : Kd) {H : Hp} {Q : VK} {bv : Bool} (e : decide (a = b) = bv) (k : Q (.bl bv) H) : gEq K (.str (wordK a)) (.str (wordK b)) H Q := s_eqS (by rw [word_eq, e]; exact k)
theorem s_eqK_any {K : PySem.W.Frag} {a : Kd} {H : Hp} {Q : VK} {bv : Bool} (e : decide (a = .any) = bv) (k : Q (.bl bv) H) : gEq K (.str (wordK a)) (.str (Str.ofString "any")) H Q := s_eqK .any e k
theorem s_eqK_within {K : PySem.W.Frag} {a : Kd} {H : Hp} {Q : VK} {bv : Bool} (e : decide (a = .within) = bv) (k : Q (.bl bv) H) : gEq K (.str (wordK a)) (.str (Str.ofString "within")) H Q := s_eqK .within e k
theorem s_eqK_att {K : PySem.W.Frag} {a : Kd} {H : Hp} {Q : VK} {bv : Bool} (e : decide (a = .att) = bv) (k : Q (.bl bv) H) : gEq K (.str (wordK a)) (.str (Str.ofString "at")) H Q := s_eqK .att e k
theorem s_eqK_between {K : PySem.W.Frag} {a : Kd} {H : Hp} {Q : VK} {bv : Bool} (e : decide (a = .between) = bv) (k : Q (.bl bv) H) : gEq K (.str (wordK a)) (.str (Str.ofString "between")) H Q := s_eqK .between e k
theorem s_eqK_read {K : PySem.W.Frag} {a : Kd} {H : Hp} {Q : VK} {bv : Bool} (e : decide (a = .read) = bv) (k : Q (.bl bv) H) : gEq K (.str (wordK a)) (.str (Str.ofString "read")) H Q := s_eqK .read e k
theorem spec_inv {S : Hp} {a : V} {e : Sim} (h : Rp S a (specD e)) : ∃ t, a = .ref t ∧ S t = some (.tup [.str (wordK e.k), .str e.n, .str e.p, .int e.lo, .int e.hi]) := by
  obtain ⟨t, vs, rfl, st, r⟩ := h.tuple_inv
  refine ⟨t, rfl, ?_⟩
  cases r with
  | cons a1 r1 => cases r1 with
    | cons a2 r2 => cases r2 with
      | cons a3 r3 => cases r3 with
        | cons a4 r4 => cases r4 with
          | cons a5 r5 =>
            cases r5
            rw [a1.str_inv, a2.str_inv, a3.str_inv, a4.int_inv, a5.int_inv] at st
            exact st
local macro_rules | `(tactic| wtm_at "eqk") => `(tactic| first | exact decide_eq_false (by decide) | exact decide_eq_true (by decide))
local macro_rules | `(tactic| wtm_at "go1") => `(tactic| first
  | ((with_reducible refine' s_eqK_any ?e ?k); (case e => wtm_at "eqk"))
  | ((with_reducible refine' s_eqK_within ?e ?k); (case e => wtm_at "eqk"))
  | ((with_reducible refine' s_eqK_att ?e ?k); (case e => wtm_at "eqk"))
  | ((with_reducible refine' s_eqK_between ?e ?k); (case e => wtm_at "eqk"))
  | ((with_reducible refine' s_eqK_read ?e ?k); (case e => wtm_at "eqk"))
  | fail "go1k")
abbrev nm_l_made : List Str := ["_law_spec_here", "_law_word", "_law_name", "_law_place", "_law_low", "_law_high"]
theorem sc_l_made : FnScope nm_l_made ["_law_spec_here"] (defScope s_l_made) := ⟨rfl, rfl, rfl, by decide +kernel, rfl, by decide +kernel, by decide +kernel⟩
theorem st_l_made (a : V) : start nm_l_made [a] = [some a, none, none, none, none, none] := rfl
def p_l_made (K : PySem.W.Frag) (ec : EC) (w : Wd) (a : V) (Q : VK) (_ : XK) : Prop := ∃ e T, Rp w.S a (specD e) ∧ SpecOk e T ∧ ∀ v r, Ext Non w v → SimS K ec v.S r e → Q r v.H
theorem ok_l_made {f : Addr} {fd : FuncData} {C_Entry C_Within C_At C_Between C_Table C_Read C_Log C_LogError C_NoEntry C_NoMoment C_NoName C_NoPlace C_NoReading : Addr} (F : Fun K "_law_made" "_law_made" s_l_made f fd) (T : Txt K mg C_Entry C_Within C_At C_Between C_Table C_Read C_Log C_LogError C_NoEntry C_NoMoment C_NoName C_NoPlace C_NoReading) (c_At_init : Mkr P ww K mg base (L2.CX P ww) C_At 5 (pr3 (p_At_init K C_NoName C_NoMoment))) (c_Between_init : Mkr P ww K mg base (L2.CX P ww) C_Between 4 (pr5 (p_Between_init K C_NoName C_NoReading))) (c_Entry_init : Mkr P ww K mg base (L2.CX P ww) C_Entry 3 (pr2 (p_Entry_init K C_NoName))) (c_Read_init : Mkr P ww K mg base (L2.CX P ww) C_Read 5 (pr4 (p_Read_init K C_NoName C_NoReading))) (c_Within_init : Mkr P ww K mg base (L2.CX P ww) C_Within 4 (pr4 (p_Within_init K C_NoName C_NoMoment))) : FnOk P ww K mg base CX0 7 f fd ["_law_spec_here"] (pr1 (p_l_made K (EC.mk C_Entry C_Within C_At C_Between C_Read C_Entry C_Entry))) := by
  refine F.ok sc_l_made (fun vs H Q E h => len1 h) (fun cdv A outer s H vs Q E hr h => ?_)
  obtain ⟨w, x0,  rfl, rfl, h⟩ := h
  have ekT := ek_T T
  have cl_Table := T.cl_Table
  have na_Table_kept_rows := T.na_Table_kept_rows
  have cl_Log := T.cl_Log
  have na_Log_bound := T.na_Log_bound
  have na_Log_clocks := T.na_Log_clocks
  have na_Log_line := T.na_Log_line
  have na_Log_name := T.na_Log_name
  have oex_NoEntry := T.oex_NoEntry; have xf_NoEntry := T.xf_NoEntry; have ec_NoEntry := T.ec_NoEntry; have xn_NoEntry := T.xn_NoEntry
  have oex_NoMoment := T.oex_NoMoment; have xf_NoMoment := T.xf_NoMoment; have ec_NoMoment := T.ec_NoMoment; have xn_NoMoment := T.xn_NoMoment
  have oex_NoName := T.oex_NoName; have xf_NoName := T.xf_NoName; have ec_NoName := T.ec_NoName; have xn_NoName := T.xn_NoName
  have oex_NoPlace := T.oex_NoPlace; have xf_NoPlace := T.xf_NoPlace; have ec_NoPlace := T.ec_NoPlace; have xn_NoPlace := T.xn_NoPlace
  have oex_NoReading := T.oex_NoReading; have xf_NoReading := T.xf_NoReading; have ec_NoReading := T.ec_NoReading; have xn_NoReading := T.xn_NoReading
  have rel_NoEntry_NoEntry := T.rel_NoEntry_NoEntry
  have exm_NoEntry_NoEntry := T.exm_NoEntry_NoEntry
  refine ⟨_, (pss_cons (ps_asg (pv 0) (kgTup K (by rfl) (pgs_cons (pg_name (i := 1) sc_l_made.nd rfl (Or.inl rfl)) (pgs_cons (pg_name (i := 2) sc_l_made.nd rfl (Or.inl rfl)) (pgs_cons (pg_name (i := 3) sc_l_made.nd rfl (Or.inl rfl)) (pgs_cons (pg_name (i := 4) sc_l_made.nd rfl (Or.inl rfl)) (pgs_cons (pg_name (i := 5) sc_l_made.nd rfl (Or.inl rfl)) pgs_nil)))))))
      (pss_cons (ps_if (pt_cmpR (kEq K hr.units) (pv 1) pe_str (nomark _)) (pss_one (ps_ret (pe_mkX takes0 c_Entry_init hr (by decide) T.g_Entry (pa_cons (pv 2) pa_nil)))) pss_nil)
      (pss_cons (ps_if (pt_cmpR (kEq K hr.units) (pv 1) pe_str (nomark _)) (pss_one (ps_ret (pe_mkX takes0 c_Within_init hr (by decide) T.g_Within (pa_cons (pv 2) (pa_cons (pv 4) (pa_cons (pv 5) pa_nil)))))) pss_nil)
      (pss_cons (ps_if (pt_cmpR (kEq K hr.units) (pv 1) pe_str (nomark _)) (pss_one (ps_ret (pe_mkX takes0 c_At_init hr (by decide) T.g_At (pa_cons (pv 2) (pa_cons (pv 4) pa_nil))))) pss_nil)
      (pss_cons (ps_if (pt_cmpR (kEq K hr.units) (pv 1) pe_str (nomark _)) (pss_one (ps_ret (pe_mkX takes0 c_Between_init hr (by decide) T.g_Between (pa_cons (pv 2) (pa_cons (pv 3) (pa_cons (pv 4) (pa_cons (pv 5) pa_nil))))))) pss_nil)
      (pss_one (ps_ret (pe_mkX takes0 c_Read_init hr (by decide) T.g_Read (pa_cons (pv 2) (pa_cons (pv 3) (pa_cons (pv 4) pa_nil))))))))))), ?_⟩
  rw [st_l_made]
  obtain ⟨e, T, hr, ok, k⟩ := h
  obtain ⟨t, rfl, st⟩ := spec_inv hr
  clear hr
  obtain ⟨kd, n, p, lo, hi⟩ := e
  have hk := ok.s
  have hn := ok.n
  have hnb := nameB_ok hn
  have htx := txd_ok hn
  have fin : ∀ (u v : Wd) (x dx : Addr) (m : Addr → Prop), Ext Non w u → w.H x = none → Ext (One x) u v → Own v x (.ins ((EC.mk C_Entry C_Within C_At C_Between C_Read C_Entry C_Entry).of kd) dx (fldS ⟨kd, n, p, lo, hi⟩)) → Q (.ref x) v.H := fun u v x dx _ e1 nx e2 o => by
    refine lay (R := fun H => Q (.ref x) H) o fun v2 e3 s3 => ?_
    exact k v2 (.ref x) ((e1.step e2 fun b hb => .inl (by rw [show b = x from hb]; exact nx)).step e3 fun b hb => .inl (by rw [show b = x from hb]; exact nx)) ⟨ekT, x, dx, rfl, s3⟩
  have st : w.S t = some (.tup [.str (wordK kd), .str n, .str p, .int lo, .int hi]) := st
  have hno : ∀ {b : Bool} {z : Str} {X : Prop}, nameB (.str n) = false → X := fun h => by have : nameB (.str n) = true := hnb; rw [this] at h; cases h
  cases kd
  case joint => exact hk.elim
  case sifted => exact hk.elim
  case any =>
    obtain ⟨h1, h2⟩ := ok.an rfl
    ((with_reducible refine s_seq ?_); (with_reducible refine s_asg ?_); (with_reducible refine' s_var ?q0 ?q1); (case q0 => exact rfl); (with_reducible refine' s_gtup ?q2 ?q3 ?q4); (case q2 => assumption); (case q3 => exact rfl); (with_reducible refine s_gcons ?_); (with_reducible refine' s_gname ?q5 ?q6); (case q5 => simp only [ List.set_cons_succ , List.set_cons_zero ]; exact rfl); (with_reducible refine s_gcons ?_); (with_reducible refine' s_gname ?q7 ?q8); (case q7 => simp only [ List.set_cons_succ , List.set_cons_zero ]; exact rfl); (with_reducible refine s_gcons ?_); (with_reducible refine' s_gname ?q9 ?q10); (case q9 => simp only [ List.set_cons_succ , List.set_cons_zero ]; exact rfl); (with_reducible refine s_gcons ?_); (with_reducible refine' s_gname ?q11 ?q12); (case q11 => simp only [ List.set_cons_succ , List.set_cons_zero ]; exact rfl); (with_reducible refine s_gcons ?_); (with_reducible refine' s_gname ?q13 ?q14); (case q13 => simp only [ List.set_cons_succ , List.set_cons_zero ]; exact rfl); (with_reducible refine s_gnil ?_); (with_reducible refine s_seq ?_); (with_reducible refine s_ifS ?_); (with_reducible refine s_test ?_); (with_reducible refine s_op ?_); (with_reducible refine' s_var ?q15 ?q16); (case q15 => exact rfl); (with_reducible refine s_c ?_); (with_reducible refine' s_eqK_any ?q17 ?q18); (case q17 => exact decide_eq_true ( by decide )); (with_reducible refine s_bl ?_); (with_reducible refine ite_tt ?_); (with_reducible refine s_ret ?_); (with_reducible refine s_makeX ?_); (with_reducible refine s_cons ?_); (with_reducible refine' s_var ?q19 ?q20); (case q19 => exact rfl); (with_reducible refine s_nil ?_))
    refine s_rmake fun x dx v1 e1 n1 o1 => s_pm2 ⟨x, _, dx, _, rfl, o1, (ekT.cl .any trivial), .str n, htx, fun z hz _ v2 e2 o2 => ⟨rfl, ?_⟩, fun h => hno (b := true) (z := n) h⟩
    cases hz
    exact fin v1 v2 x dx Non e1 n1 e2 o2
  case within =>
    obtain ⟨_, b1, b2, b3, b4⟩ := ok.np (fun h => h.elim)
    have w1 : wholeB (.int lo) 0 1000000000 = true := by unfold wholeB; simp; exact ⟨b1, b2⟩
    have w2 : wholeB (.int hi) 0 1000000000 = true := by unfold wholeB; simp; exact ⟨b3, b4⟩
    ((with_reducible refine s_seq ?_); (with_reducible refine s_asg ?_); (with_reducible refine' s_var ?q21 ?q22); (case q21 => exact rfl); (with_reducible refine' s_gtup ?q23 ?q24 ?q25); (case q23 => assumption); (case q24 => exact rfl); (with_reducible refine s_gcons ?_); (with_reducible refine' s_gname ?q26 ?q27); (case q26 => simp only [ List.set_cons_succ , List.set_cons_zero ]; exact rfl); (with_reducible refine s_gcons ?_); (with_reducible refine' s_gname ?q28 ?q29); (case q28 => simp only [ List.set_cons_succ , List.set_cons_zero ]; exact rfl); (with_reducible refine s_gcons ?_); (with_reducible refine' s_gname ?q30 ?q31); (case q30 => simp only [ List.set_cons_succ , List.set_cons_zero ]; exact rfl); (with_reducible refine s_gcons ?_); (with_reducible refine' s_gname ?q32 ?q33); (case q32 => simp only [ List.set_cons_succ , List.set_cons_zero ]; exact rfl); (with_reducible refine s_gcons ?_); (with_reducible refine' s_gname ?q34 ?q35); (case q34 => simp only [ List.set_cons_succ , List.set_cons_zero ]; exact rfl); (with_reducible refine s_gnil ?_); (with_reducible refine s_seq ?_); (with_reducible refine s_ifS ?_); (with_reducible refine s_test ?_); (with_reducible refine s_op ?_); (with_reducible refine' s_var ?q36 ?q37); (case q36 => exact rfl); (with_reducible refine s_c ?_); (with_reducible refine' s_eqK_any ?q38 ?q39); (case q38 => exact decide_eq_false ( by decide )); (with_reducible refine s_bl ?_); (with_reducible refine ite_ff ?_); (with_reducible refine s_next ?_); (with_reducible refine s_seq ?_); (with_reducible refine s_ifS ?_); (with_reducible refine s_test ?_); (with_reducible refine s_op ?_); (with_reducible refine' s_var ?q40 ?q41); (case q40 => exact rfl); (with_reducible refine s_c ?_); (with_reducible refine' s_eqK_within ?q42 ?q43); (case q42 => exact decide_eq_true ( by decide )); (with_reducible refine s_bl ?_); (with_reducible refine ite_tt ?_); (with_reducible refine s_ret ?_); (with_reducible refine s_makeX ?_); (with_reducible refine s_cons ?_); (with_reducible refine' s_var ?q47 ?q48); (case q47 => exact rfl); (with_reducible refine s_cons ?_); (with_reducible refine' s_var ?q49 ?q50); (case q49 => exact rfl); (with_reducible refine s_cons ?_); (with_reducible refine' s_var ?q51 ?q52); (case q51 => exact rfl); (with_reducible refine s_nil ?_))
    refine s_rmake fun x dx v1 e1 n1 o1 => s_pm4 ⟨x, _, dx, _, _, _, rfl, o1, (ekT.cl .within trivial), .str n, htx, .int lo, .int hi, fun z a b hz _ ha hb _ _ _ _ v2 e2 o2 => ⟨rfl, ?_⟩, fun h => hno (b := true) (z := n) h, fun _ h => (by rw [w1] at h; cases h), fun _ _ h => (by rw [w2] at h; cases h)⟩
    cases hz; cases ha; cases hb
    exact fin v1 v2 x dx Non e1 n1 e2 o2
  case att =>
    obtain ⟨_, b1, b2, b3, b4⟩ := ok.np (fun h => h.elim)
    have he : lo = hi := ok.at' (.inl rfl)
    subst he
    have w1 : wholeB (.int lo) 0 1000000000 = true := by unfold wholeB; simp; exact ⟨b1, b2⟩
    ((with_reducible refine s_seq ?_); (with_reducible refine s_asg ?_); (with_reducible refine' s_var ?q53 ?q54); (case q53 => exact rfl); (with_reducible refine' s_gtup ?q55 ?q56 ?q57); (case q55 => assumption); (case q56 => exact rfl); (with_reducible refine s_gcons ?_); (with_reducible refine' s_gname ?q58 ?q59); (case q58 => simp only [ List.set_cons_succ , List.set_cons_zero ]; exact rfl); (with_reducible refine s_gcons ?_); (with_reducible refine' s_gname ?q60 ?q61); (case q60 => simp only [ List.set_cons_succ , List.set_cons_zero ]; exact rfl); (with_reducible refine s_gcons ?_); (with_reducible refine' s_gname ?q62 ?q63); (case q62 => simp only [ List.set_cons_succ , List.set_cons_zero ]; exact rfl); (with_reducible refine s_gcons ?_); (with_reducible refine' s_gname ?q64 ?q65); (case q64 => simp only [ List.set_cons_succ , List.set_cons_zero ]; exact rfl); (with_reducible refine s_gcons ?_); (with_reducible refine' s_gname ?q66 ?q67); (case q66 => simp only [ List.set_cons_succ , List.set_cons_zero ]; exact rfl); (with_reducible refine s_gnil ?_); (with_reducible refine s_seq ?_); (with_reducible refine s_ifS ?_); (with_reducible refine s_test ?_); (with_reducible refine s_op ?_); (with_reducible refine' s_var ?q68 ?q69); (case q68 => exact rfl); (with_reducible refine s_c ?_); (with_reducible refine' s_eqK_any ?q70 ?q71); (case q70 => exact decide_eq_false ( by decide )); (with_reducible refine s_bl ?_); (with_reducible refine ite_ff ?_); (with_reducible refine s_next ?_); (with_reducible refine s_seq ?_); (with_reducible refine s_ifS ?_); (with_reducible refine s_test ?_); (with_reducible refine s_op ?_); (with_reducible refine' s_var ?q72 ?q73); (case q72 => exact rfl); (with_reducible refine s_c ?_); (with_reducible refine' s_eqK_within ?q74 ?q75); (case q74 => exact decide_eq_false ( by decide )); (with_reducible refine s_bl ?_); (with_reducible refine ite_ff ?_); (with_reducible refine s_next ?_); (with_reducible refine s_seq ?_); (with_reducible refine s_ifS ?_); (with_reducible refine s_test ?_); (with_reducible refine s_op ?_); (with_reducible refine' s_var ?q76 ?q77); (case q76 => exact rfl); (with_reducible refine s_c ?_); (with_reducible refine' s_eqK_att ?q78 ?q79); (case q78 => exact decide_eq_true ( by decide )); (with_reducible refine s_bl ?_); (with_reducible refine ite_tt ?_); (with_reducible refine s_ret ?_); (with_reducible refine s_makeX ?_); (with_reducible refine s_cons ?_); (with_reducible refine' s_var ?q83 ?q84); (case q83 => exact rfl); (with_reducible refine s_cons ?_); (with_reducible refine' s_var ?q85 ?q86); (case q85 => exact rfl); (with_reducible refine s_nil ?_))
    refine s_rmake fun x dx v1 e1 n1 o1 => s_pm3 ⟨x, _, dx, _, _, rfl, o1, (ekT.cl .att trivial), .str n, htx, .int lo, fun z a hz _ ha _ _ v2 e2 o2 => ⟨rfl, ?_⟩, fun h => hno (b := true) (z := n) h, fun _ h => (by rw [w1] at h; cases h)⟩
    cases hz; cases ha
    exact fin v1 v2 x dx Non e1 n1 e2 o2
  case between =>
    obtain ⟨hp, _, b1, b2, b3, b4⟩ := ok.pl trivial
    have hpb := nameB_ok hp
    have w1 : wholeB (.int lo) (0 - 10000000000) 10000000000 = true := by unfold wholeB; simp; exact ⟨b1, b2⟩
    have w2 : wholeB (.int hi) (0 - 10000000000) 10000000000 = true := by unfold wholeB; simp; exact ⟨b3, b4⟩
    ((with_reducible refine s_seq ?_); (with_reducible refine s_asg ?_); (with_reducible refine' s_var ?q87 ?q88); (case q87 => exact rfl); (with_reducible refine' s_gtup ?q89 ?q90 ?q91); (case q89 => assumption); (case q90 => exact rfl); (with_reducible refine s_gcons ?_); (with_reducible refine' s_gname ?q92 ?q93); (case q92 => simp only [ List.set_cons_succ , List.set_cons_zero ]; exact rfl); (with_reducible refine s_gcons ?_); (with_reducible refine' s_gname ?q94 ?q95); (case q94 => simp only [ List.set_cons_succ , List.set_cons_zero ]; exact rfl); (with_reducible refine s_gcons ?_); (with_reducible refine' s_gname ?q96 ?q97); (case q96 => simp only [ List.set_cons_succ , List.set_cons_zero ]; exact rfl); (with_reducible refine s_gcons ?_); (with_reducible refine' s_gname ?q98 ?q99); (case q98 => simp only [ List.set_cons_succ , List.set_cons_zero ]; exact rfl); (with_reducible refine s_gcons ?_); (with_reducible refine' s_gname ?q100 ?q101); (case q100 => simp only [ List.set_cons_succ , List.set_cons_zero ]; exact rfl); (with_reducible refine s_gnil ?_); (with_reducible refine s_seq ?_); (with_reducible refine s_ifS ?_); (with_reducible refine s_test ?_); (with_reducible refine s_op ?_); (with_reducible refine' s_var ?q102 ?q103); (case q102 => exact rfl); (with_reducible refine s_c ?_); (with_reducible refine' s_eqK_any ?q104 ?q105); (case q104 => exact decide_eq_false ( by decide )); (with_reducible refine s_bl ?_); (with_reducible refine ite_ff ?_); (with_reducible refine s_next ?_); (with_reducible refine s_seq ?_); (with_reducible refine s_ifS ?_); (with_reducible refine s_test ?_); (with_reducible refine s_op ?_); (with_reducible refine' s_var ?q106 ?q107); (case q106 => exact rfl); (with_reducible refine s_c ?_); (with_reducible refine' s_eqK_within ?q108 ?q109); (case q108 => exact decide_eq_false ( by decide )); (with_reducible refine s_bl ?_); (with_reducible refine ite_ff ?_); (with_reducible refine s_next ?_); (with_reducible refine s_seq ?_); (with_reducible refine s_ifS ?_); (with_reducible refine s_test ?_); (with_reducible refine s_op ?_); (with_reducible refine' s_var ?q110 ?q111); (case q110 => exact rfl); (with_reducible refine s_c ?_); (with_reducible refine' s_eqK_att ?q112 ?q113); (case q112 => exact decide_eq_false ( by decide )); (with_reducible refine s_bl ?_); (with_reducible refine ite_ff ?_); (with_reducible refine s_next ?_); (with_reducible refine s_seq ?_); (with_reducible refine s_ifS ?_); (with_reducible refine s_test ?_); (with_reducible refine s_op ?_); (with_reducible refine' s_var ?q114 ?q115); (case q114 => exact rfl); (with_reducible refine s_c ?_); (with_reducible refine' s_eqK_between ?q116 ?q117); (case q116 => exact decide_eq_true ( by decide )); (with_reducible refine s_bl ?_); (with_reducible refine ite_tt ?_); (with_reducible refine s_ret ?_); (with_reducible refine s_makeX ?_); (with_reducible refine s_cons ?_); (with_reducible refine' s_var ?q121 ?q122); (case q121 => exact rfl); (with_reducible refine s_cons ?_); (with_reducible refine' s_var ?q123 ?q124); (case q123 => exact rfl); (with_reducible refine s_cons ?_); (with_reducible refine' s_var ?q125 ?q126); (case q125 => exact rfl); (with_reducible refine s_cons ?_); (with_reducible refine' s_var ?q127 ?q128); (case q127 => exact rfl); (with_reducible refine s_nil ?_))
    refine s_rmake fun x dx v1 e1 n1 o1 => s_pm5 ⟨x, _, dx, _, _, _, _, rfl, o1, (ekT.cl .between trivial), .str n, htx, .str p, txd_ok hp, .int lo, .int hi, fun z y a b hz _ hy _ ha hb _ _ _ _ v2 e2 o2 => ⟨rfl, ?_⟩, fun h => hno (b := true) (z := n) h, fun _ h => (by have : nameB (.str p) = true := hpb; rw [this] at h; cases h), fun _ _ h => (by rw [w1] at h; cases h), fun _ _ _ h => (by rw [w2] at h; cases h)⟩
    cases hz; cases hy; cases ha; cases hb
    exact fin v1 v2 x dx Non e1 n1 e2 o2
  case read =>
    obtain ⟨hp, _, b1, b2, b3, b4⟩ := ok.pl trivial
    have hpb := nameB_ok hp
    have he : lo = hi := ok.at' (.inr rfl)
    subst he
    have w1 : wholeB (.int lo) (0 - 10000000000) 10000000000 = true := by unfold wholeB; simp; exact ⟨b1, b2⟩
    ((with_reducible refine s_seq ?_); (with_reducible refine s_asg ?_); (with_reducible refine' s_var ?q129 ?q130); (case q129 => exact rfl); (with_reducible refine' s_gtup ?q131 ?q132 ?q133); (case q131 => assumption); (case q132 => exact rfl); (with_reducible refine s_gcons ?_); (with_reducible refine' s_gname ?q134 ?q135); (case q134 => simp only [ List.set_cons_succ , List.set_cons_zero ]; exact rfl); (with_reducible refine s_gcons ?_); (with_reducible refine' s_gname ?q136 ?q137); (case q136 => simp only [ List.set_cons_succ , List.set_cons_zero ]; exact rfl); (with_reducible refine s_gcons ?_); (with_reducible refine' s_gname ?q138 ?q139); (case q138 => simp only [ List.set_cons_succ , List.set_cons_zero ]; exact rfl); (with_reducible refine s_gcons ?_); (with_reducible refine' s_gname ?q140 ?q141); (case q140 => simp only [ List.set_cons_succ , List.set_cons_zero ]; exact rfl); (with_reducible refine s_gcons ?_); (with_reducible refine' s_gname ?q142 ?q143); (case q142 => simp only [ List.set_cons_succ , List.set_cons_zero ]; exact rfl); (with_reducible refine s_gnil ?_); (with_reducible refine s_seq ?_); (with_reducible refine s_ifS ?_); (with_reducible refine s_test ?_); (with_reducible refine s_op ?_); (with_reducible refine' s_var ?q144 ?q145); (case q144 => exact rfl); (with_reducible refine s_c ?_); (with_reducible refine' s_eqK_any ?q146 ?q147); (case q146 => exact decide_eq_false ( by decide )); (with_reducible refine s_bl ?_); (with_reducible refine ite_ff ?_); (with_reducible refine s_next ?_); (with_reducible refine s_seq ?_); (with_reducible refine s_ifS ?_); (with_reducible refine s_test ?_); (with_reducible refine s_op ?_); (with_reducible refine' s_var ?q148 ?q149); (case q148 => exact rfl); (with_reducible refine s_c ?_); (with_reducible refine' s_eqK_within ?q150 ?q151); (case q150 => exact decide_eq_false ( by decide )); (with_reducible refine s_bl ?_); (with_reducible refine ite_ff ?_); (with_reducible refine s_next ?_); (with_reducible refine s_seq ?_); (with_reducible refine s_ifS ?_); (with_reducible refine s_test ?_); (with_reducible refine s_op ?_); (with_reducible refine' s_var ?q152 ?q153); (case q152 => exact rfl); (with_reducible refine s_c ?_); (with_reducible refine' s_eqK_att ?q154 ?q155); (case q154 => exact decide_eq_false ( by decide )); (with_reducible refine s_bl ?_); (with_reducible refine ite_ff ?_); (with_reducible refine s_next ?_); (with_reducible refine s_seq ?_); (with_reducible refine s_ifS ?_); (with_reducible refine s_test ?_); (with_reducible refine s_op ?_); (with_reducible refine' s_var ?q156 ?q157); (case q156 => exact rfl); (with_reducible refine s_c ?_); (with_reducible refine' s_eqK_between ?q158 ?q159); (case q158 => exact decide_eq_false ( by decide )); (with_reducible refine s_bl ?_); (with_reducible refine ite_ff ?_); (with_reducible refine s_next ?_); (with_reducible refine s_ret ?_); (with_reducible refine s_makeX ?_); (with_reducible refine s_cons ?_); (with_reducible refine' s_var ?q163 ?q164); (case q163 => exact rfl); (with_reducible refine s_cons ?_); (with_reducible refine' s_var ?q165 ?q166); (case q165 => exact rfl); (with_reducible refine s_cons ?_); (with_reducible refine' s_var ?q167 ?q168); (case q167 => exact rfl); (with_reducible refine s_nil ?_))
    refine s_rmake fun x dx v1 e1 n1 o1 => s_pm4 ⟨x, _, dx, _, _, _, rfl, o1, (ekT.cl .read trivial), .str n, htx, .str p, txd_ok hp, .int lo, fun z y a hz _ hy _ ha _ _ v2 e2 o2 => ⟨rfl, ?_⟩, fun h => hno (b := true) (z := n) h, fun _ h => (by have : nameB (.str p) = true := hpb; rw [this] at h; cases h), fun _ _ h => (by rw [w1] at h; cases h)⟩
    cases hz; cases hy; cases ha
    exact fin v1 v2 x dx Non e1 n1 e2 o2
abbrev nm_l_spans : List Str := ["_law_spec_here", "_law_tables", "_law_word", "_law_name", "_law_place", "_law_low", "_law_high"]
theorem sc_l_spans : FnScope nm_l_spans ["_law_spec_here", "_law_tables"] (defScope s_l_spans) := ⟨rfl, rfl, rfl, by decide +kernel, rfl, by decide +kernel, by decide +kernel⟩
theorem st_l_spans (a b : V) : start nm_l_spans [a, b] = [some a, some b, none, none, none, none, none] := rfl
def p_l_spans (w : Wd) (a b : V) (Q : VK) (_ : XK) : Prop := ∃ e T, Rp w.S a (specD e) ∧ SpecOk e T ∧ TabsL w b T ∧ Tells w Q fun out => Sp none out ∧ ∀ n, ins out n ↔ inE e T n
theorem ok_l_spans {f : Addr} {fd : FuncData} {C_Entry C_Within C_At C_Between C_Table C_Read C_Log C_LogError C_NoEntry C_NoMoment C_NoName C_NoPlace C_NoReading : Addr} (F : Fun K "_law_spans" "_law_spans" s_l_spans f fd) (T : Txt K mg C_Entry C_Within C_At C_Between C_Table C_Read C_Log C_LogError C_NoEntry C_NoMoment C_NoName C_NoPlace C_NoReading) (c_l_joined : Fnc P ww K mg base CX0 1 "_law_joined" (pr1 (p_l_joined))) (c_l_shown : Fnc P ww K mg base CX0 2 "_law_shown" (pr3 (p_l_shown))) : FnOk P ww K mg base CX0 3 f fd ["_law_spec_here", "_law_tables"] (pr2 (p_l_spans)) := by
  refine F.ok sc_l_spans (fun vs H Q E h => len2 h) (fun cdv A outer s H vs Q E hr h => ?_)
  obtain ⟨w, x0, x1,  rfl, rfl, h⟩ := h
  have ekT := ek_T T
  have oex_NoEntry := T.oex_NoEntry; have xf_NoEntry := T.xf_NoEntry; have ec_NoEntry := T.ec_NoEntry; have xn_NoEntry := T.xn_NoEntry
  have oex_NoMoment := T.oex_NoMoment; have xf_NoMoment := T.xf_NoMoment; have ec_NoMoment := T.ec_NoMoment; have xn_NoMoment := T.xn_NoMoment
  have oex_NoName := T.oex_NoName; have xf_NoName := T.xf_NoName; have ec_NoName := T.ec_NoName; have xn_NoName := T.xn_NoName
  have oex_NoPlace := T.oex_NoPlace; have xf_NoPlace := T.xf_NoPlace; have ec_NoPlace := T.ec_NoPlace; have xn_NoPlace := T.xn_NoPlace
  have oex_NoReading := T.oex_NoReading; have xf_NoReading := T.xf_NoReading; have ec_NoReading := T.ec_NoReading; have xn_NoReading := T.xn_NoReading
  have rel_NoEntry_NoEntry := T.rel_NoEntry_NoEntry
  have exm_NoEntry_NoEntry := T.exm_NoEntry_NoEntry
  refine ⟨_, (pss_cons (ps_asg (pv 0) (kgTup K (by rfl) (pgs_cons (pg_name (i := 2) sc_l_spans.nd rfl (Or.inl rfl)) (pgs_cons (pg_name (i := 3) sc_l_spans.nd rfl (Or.inl rfl)) (pgs_cons (pg_name (i := 4) sc_l_spans.nd rfl (Or.inl rfl)) (pgs_cons (pg_name (i := 5) sc_l_spans.nd rfl (Or.inl rfl)) (pgs_cons (pg_name (i := 6) sc_l_spans.nd rfl (Or.inl rfl)) pgs_nil)))))))
      (pss_cons (ps_if (pt_cmpR (kIn K) (pv 2) (pe_tup (pa_cons pe_str (pa_cons pe_str pa_nil))) (by rfl)) (pss_one (ps_ret (pe_fn c_l_shown hr (by decide) pass0 (pa_cons (pe_dget (hu_of hr) (pv 1) (pv 4) (fun _ _ => rfl)) (pa_cons (pv 5) (pa_cons (pv 6) pa_nil)))))) pss_nil)
      (pss_one (ps_ret (pe_fn c_l_joined hr (by decide) pass0 (pa_cons (pe_lst (pa_cons (pe_tup (pa_cons (pv 5) (pa_cons (pv 6) pa_nil))) pa_nil)) pa_nil)))))), ?_⟩
  rw [st_l_spans]
  obtain ⟨e, T, hr, ok, ⟨td, kvs, rfl, std, htd⟩, k⟩ := h
  obtain ⟨t, rfl, st⟩ := spec_inv hr
  clear hr
  ((with_reducible refine s_seq ?_); (with_reducible refine s_asg ?_); (with_reducible refine' s_var ?q0 ?q1); (case q0 => exact rfl); (with_reducible refine' s_gtup ?q2 ?q3 ?q4); (case q2 => assumption); (case q3 => exact rfl); (with_reducible refine s_gcons ?_); (with_reducible refine' s_gname ?q5 ?q6); (case q5 => simp only [ List.set_cons_succ , List.set_cons_zero ]; exact rfl); (with_reducible refine s_gcons ?_); (with_reducible refine' s_gname ?q7 ?q8); (case q7 => simp only [ List.set_cons_succ , List.set_cons_zero ]; exact rfl); (with_reducible refine s_gcons ?_); (with_reducible refine' s_gname ?q9 ?q10); (case q9 => simp only [ List.set_cons_succ , List.set_cons_zero ]; exact rfl); (with_reducible refine s_gcons ?_); (with_reducible refine' s_gname ?q11 ?q12); (case q11 => simp only [ List.set_cons_succ , List.set_cons_zero ]; exact rfl); (with_reducible refine s_gcons ?_); (with_reducible refine' s_gname ?q13 ?q14); (case q13 => simp only [ List.set_cons_succ , List.set_cons_zero ]; exact rfl); (with_reducible refine s_gnil ?_); (with_reducible refine s_seq ?_); (with_reducible refine s_ifS ?_); (with_reducible refine s_test ?_); (with_reducible refine s_op ?_); (with_reducible refine' s_var ?q15 ?q16); (case q15 => exact rfl); (with_reducible refine t_tup ?_); (with_reducible refine s_cons ?_); (with_reducible refine s_c ?_); (with_reducible refine s_cons ?_); (with_reducible refine s_c ?_); (with_reducible refine s_nil ?_); (with_reducible refine' t_newT ?q17 ?q18); (case q17 => simp only [ List.length , sizeLine_eq ]; omega); intro _ _ _ _ _)
  rename_i tt v4 e4 n4 s4
  refine s_inT s4 (by rfl) ?_
  rw [word_pl]
  obtain ⟨kd, n, p, lo, hi⟩ := e
  have st4 : v4.S t = some (.tup [.str (wordK kd), .str n, .str p, .int lo, .int hi]) := st_go e4 st
  have std4 : Rd v4 td (.dK kvs) := std.go e4 fun z => z
  clear n4 s4 st std
  by_cases hpl : placed kd
  · rw [decide_eq_true hpl]
    obtain ⟨hp, ⟨R, hR⟩, b1, b2, b3, b4⟩ := ok.pl hpl
    obtain ⟨vr, hvr, hrp, hok⟩ := DicR.hit (htd.go e4) hR
    have hdg : DGet v4.H td (.str p) (some vr) := by
      have := dgetR (.inl (Rd.h std4)) (.inr p)
      rw [hvr] at this
      exact this
    ((with_reducible refine s_bl ?_); (with_reducible refine ite_tt ?_); (with_reducible refine s_ret ?_); (with_reducible refine s_call ?_); (with_reducible refine s_cons ?_); (with_reducible refine s_dget ?_); (with_reducible refine' s_var ?q22 ?q23); (case q22 => exact rfl); (with_reducible refine' s_var ?q24 ?q25); (case q24 => exact rfl))
    refine ⟨td, _, rfl, hdg, ?_⟩
    ((with_reducible refine s_cons ?_); (with_reducible refine' s_var ?q31 ?q32); (case q31 => exact rfl); (with_reducible refine s_cons ?_); (with_reducible refine' s_var ?q33 ?q34); (case q33 => exact rfl); (with_reducible refine s_nil ?_); (with_reducible refine s_pr3 ?_))
    refine ⟨R, lo, hi, hrp, hok, rfl, rfl, fun v r vs out e1 n1 o1 r1 ⟨h1, h2⟩ => k v r vs out (e4.trans e1) (e4.back n1) o1 r1 ⟨h1, fun m => (h2 m).trans ?_⟩⟩
    have hi' : inE ⟨kd, n, p, lo, hi⟩ T m ↔ ∃ R, getT T p = some R ∧ ins ((strsR R lo hi R.length).filter ne2) m := by
      unfold inE
      cases kd <;> first | exact hpl.elim | exact Iff.rfl
    rw [hi']
    exact ⟨fun z => ⟨R, hR, z⟩, fun ⟨R', h1, h2⟩ => by have h1 : getT T p = some R' := h1; rw [show getT T p = some R from hR] at h1; cases h1; exact h2⟩
  · rw [decide_eq_false hpl]
    obtain ⟨_, b1, b2, b3, b4⟩ := ok.np hpl
    ((with_reducible refine s_bl ?_); (with_reducible refine ite_ff ?_); (with_reducible refine s_next ?_); (with_reducible refine s_ret ?_); (with_reducible refine s_call ?_); (with_reducible refine s_cons ?_); (with_reducible refine t_lst ?_); (with_reducible refine s_cons ?_); (with_reducible refine t_tup ?_); (with_reducible refine s_cons ?_); (with_reducible refine' s_var ?q38 ?q39); (case q38 => exact rfl); (with_reducible refine s_cons ?_); (with_reducible refine' s_var ?q40 ?q41); (case q40 => exact rfl); (with_reducible refine s_nil ?_); (with_reducible refine' t_newT ?q42 ?q43); (case q42 => simp only [ List.length , sizeLine_eq ]; omega); intro _ _ _ _ _; (with_reducible refine s_nil ?_); (with_reducible refine' t_newLS ?q44 ?q45); (case q44 => simp only [ List.length , sizeLine_eq ]; omega); intro _ _ _ _ _; (with_reducible refine s_nil ?_); (with_reducible refine s_pr1 ?_))
    rename_i t5 v5 e5 n5 s5 t6 v6 e6 n6 s6
    have ew : Ext Non w v6 := e4.trans (e5.trans e6)
    refine ⟨[(lo, hi)], ⟨t6, _, rfl, .inl s6, .cons (.tup (st_go e6 s5) (.cons (.int _) (.cons (.int _) .nil))) .nil⟩, by simp, fun v r vs out e1 n1 o1 r1 ⟨h1, h2⟩ => k v r vs out (ew.trans e1) (ew.back n1) o1 r1 ⟨h1, fun m => (h2 m).trans ?_⟩⟩
    have hm : ins [(lo, hi)] m ↔ lo ≤ m ∧ m ≤ hi := by unfold ins; simp
    rw [hm]
    unfold inE
    have hs := ok.s
    cases kd
    case joint => exact hs.elim
    case sifted => exact hs.elim
    case between => exact absurd trivial hpl
    case read => exact absurd trivial hpl
    case any =>
      obtain ⟨h1, h2⟩ := ok.an rfl
      have h1 : lo = 0 := h1
      have h2 : hi = 1000000000 := h2
      subst h1; subst h2
      exact Iff.rfl
    case within => exact Iff.rfl
    case att => exact Iff.rfl
abbrev nm_l_same : List Str := ["_law_found", "_law_due", "_law_part", "_law_one"]
theorem sc_l_same : FnScope nm_l_same ["_law_found", "_law_due"] (defScope s_l_same) := ⟨rfl, rfl, rfl, by decide +kernel, rfl, by decide +kernel, by decide +kernel⟩
theorem st_l_same (a b : V) : start nm_l_same [a, b] = [some a, some b, none, none] := rfl
def p_l_same (w : Wd) (a b : V) (Q : VK) (_ : XK) : Prop := ∃ ds, LsG w a ds ∧ LsG w b ds ∧ SeqAt.shaped (.list (ds.map PyData.tuple)) = true ∧ flatD ds ∧ ∀ v, Ext Non w v → Q (.bl true) v.H
theorem ok_l_same {f : Addr} {fd : FuncData} {C_Entry C_Within C_At C_Between C_Table C_Read C_Log C_LogError C_NoEntry C_NoMoment C_NoName C_NoPlace C_NoReading : Addr} (F : Fun K "_law_same" "_law_same" s_l_same f fd) (T : Txt K mg C_Entry C_Within C_At C_Between C_Table C_Read C_Log C_LogError C_NoEntry C_NoMoment C_NoName C_NoPlace C_NoReading)  : FnOk P ww K mg base CX0 1 f fd ["_law_found", "_law_due"] (pr2 (p_l_same)) := by
  refine F.ok sc_l_same (fun vs H Q E h => len2 h) (fun cdv A outer s H vs Q E hr h => ?_)
  obtain ⟨w, x0, x1,  rfl, rfl, h⟩ := h
  have ekT := ek_T T
  have oex_NoEntry := T.oex_NoEntry; have xf_NoEntry := T.xf_NoEntry; have ec_NoEntry := T.ec_NoEntry; have xn_NoEntry := T.xn_NoEntry
  have oex_NoMoment := T.oex_NoMoment; have xf_NoMoment := T.xf_NoMoment; have ec_NoMoment := T.ec_NoMoment; have xn_NoMoment := T.xn_NoMoment
  have oex_NoName := T.oex_NoName; have xf_NoName := T.xf_NoName; have ec_NoName := T.ec_NoName; have xn_NoName := T.xn_NoName
  have oex_NoPlace := T.oex_NoPlace; have xf_NoPlace := T.xf_NoPlace; have ec_NoPlace := T.ec_NoPlace; have xn_NoPlace := T.xn_NoPlace
  have oex_NoReading := T.oex_NoReading; have xf_NoReading := T.xf_NoReading; have ec_NoReading := T.ec_NoReading; have xn_NoReading := T.xn_NoReading
  have rel_NoEntry_NoEntry := T.rel_NoEntry_NoEntry
  have exm_NoEntry_NoEntry := T.exm_NoEntry_NoEntry
  refine ⟨_, (pss_cons (ps_if (PW.pt (pw_or (pt_not (pt_val (pe_callB (kIsi K) (by rfl) T.n_isinstance (by decide +kernel) (pa_cons (pv 0) (pa_cons (pe_bltn (v := .ty "list") (u := .type "list") rfl T.n_list (by decide +kernel) rfl) pa_nil))))) (pw_or1 (pt_cmpR (kNe K hr.units) (pv 0) (pv 1) (nomark _))))) (pss_one (ps_ret pe_bl)) pss_nil)
      (pss_cons (ps_for PassesOwn.never rfl (kpList K (pv 0)) (pg_name (i := 2) sc_l_same.nd rfl (Or.inl rfl)) (pss_one (ps_if (PW.pt (pw_or (pt_not (pt_val (pe_callB (kIsi K) (by rfl) T.n_isinstance (by decide +kernel) (pa_cons (pv 2) (pa_cons (pe_bltn (v := .ty "tuple") (u := .type "tuple") rfl T.n_tuple (by decide +kernel) rfl) pa_nil))))) (pw_or1 (pt_cmpR (kNe K hr.units) (pe_lc (own := [("_law_one", 3)]) (g := (gName 3)) (tt := _) (by rfl) sc_l_same.nd (kpTup K (pv 2)) (blkOk_by (own := [("_law_one", 3)]) (N := nm_l_same) (sc := defScope s_l_same) (by decide +kernel)) (fun _ _ _ _ _ => (pg_name (i := 3) sc_l_same.nd rfl (Or.inl rfl))) (fun _ _ _ _ _ => (pts_one (pt_val (pe_callB (kIsi K) (by rfl) T.n_isinstance (by decide +kernel) (pa_cons (pv 3) (pa_cons (pe_bltn (v := .ty "bool") (u := .type "bool") rfl T.n_bool (by decide +kernel) rfl) pa_nil)))))) (fun _ _ _ _ _ => (pv 3))) (pe_lst pa_nil) (nomark _))))) (pss_one (ps_ret pe_bl)) pss_nil)))
      (pss_one (ps_ret pe_bl)))), ?_⟩
  rw [st_l_same]
  obtain ⟨ds, ⟨p, vs, rfl, rp, ra⟩, ⟨q, us, rfl, rq, rb⟩, hsh, hfl, k⟩ := h
  have la := ra.length
  rw [List.length_map] at la
  ((with_reducible refine s_seq ?_); (with_reducible refine s_ifS ?_); (with_reducible refine s_or ?_); (with_reducible refine s_not ?_); (with_reducible refine s_B ?_); (with_reducible refine s_CB ?_); (with_reducible refine s_cons ?_); (with_reducible refine' s_var ?q46 ?q47); (case q46 => exact rfl); (with_reducible refine s_cons ?_); (with_reducible refine s_c ?_); (with_reducible refine s_nil ?_); (with_reducible refine' si_rd ?q64 ?q65 ?q66); (case q64 => assumption); (case q65 => exact kb_bool_int); (with_reducible refine s_bl ?_); (with_reducible refine ite_nt ?_); (with_reducible refine s_test ?_); (with_reducible refine s_op ?_); (with_reducible refine' s_var ?q70 ?q71); (case q70 => exact rfl); (with_reducible refine' s_var ?q72 ?q73); (case q72 => exact rfl))
  refine s_neLs hsh rp ra rq rb ?_
  ((with_reducible refine s_bl ?_); (with_reducible refine ite_ff ?_); (with_reducible refine s_next ?_); (with_reducible refine s_seq ?_); (with_reducible refine s_for ?_); (with_reducible refine s_iList ?_); (with_reducible refine' s_var ?q77 ?q78); (case q77 => exact rfl); refine' ⟨ _ , rfl , ⟨ _ , ?q79 ⟩ , ?q80 ⟩; (case q79 => refine' SqL.of ( Rd.h ?q83 ); (case q83 => assumption)))
  refine forW (ww_list (xs := vs)) (fun i σ u => Ext Non w u ∧ ∃ g, σ = [some (.ref p), some (.ref q), g, none]) ⟨Ext.refl _ _, _, rfl⟩ (fun i σ u _ h => SqL.of (Rd.h (rp.go h.1 fun z => z))) ?_ ?_
  · rintro i x σ _ u hi ⟨eu, g, rfl⟩ ⟨rfl, hx⟩
    obtain ⟨d, hd, hr⟩ := ra.get hx
    rw [List.getElem?_map] at hd
    obtain ⟨ts, hts, rfl⟩ := Option.map_eq_some_iff.mp hd
    obtain ⟨t, xs, rfl, st, rts⟩ := hr.tuple_inv
    obtain ⟨hl, hf⟩ := hfl ts (List.mem_of_getElem? hts)
    have st2 : u.S t = some (.tup xs) := st_go eu st
    have rts2 := rts.go eu
    have lts := rts2.length
    ((with_reducible refine' s_gname ?q84 ?q85); (case q84 => simp only [ List.set_cons_succ , List.set_cons_zero ]; exact rfl); (with_reducible refine s_ifS ?_); (with_reducible refine s_or ?_); (with_reducible refine s_not ?_); (with_reducible refine s_B ?_); (with_reducible refine s_CB ?_); (with_reducible refine s_cons ?_); (with_reducible refine' s_var ?q86 ?q87); (case q86 => exact rfl); (with_reducible refine s_cons ?_); (with_reducible refine s_c ?_); (with_reducible refine s_nil ?_); (with_reducible refine' sd_tuple ?q88 ?q89); (case q88 => refine' Rp.tup ?q90 ?q91; (case q90 => assumption); (case q91 => assumption)); (with_reducible refine s_bl ?_))
    rw [show (!isTup (PyData.tuple ts)) = false from rfl]
    ((with_reducible refine ite_ff ?_); (with_reducible refine s_test ?_); (with_reducible refine s_op ?_); (with_reducible refine s_Lc ?_); (with_reducible refine s_iTup ?_); (with_reducible refine' s_var ?q98 ?q99); (case q98 => exact rfl); refine' ⟨ _ , rfl , ⟨ _ , ?q100 ⟩ , ?q101 ⟩; (case q100 => refine' sqt_of ?q102; (case q102 => assumption)))
    intro D hD
    refine lc_any (rows := ts) (ww_tup (xs := xs)) (fun _ => false) (fun d => d) hD (by omega) (by rw [sizeLine_eq]; omega) (fun i u x v hi y => by obtain ⟨rfl, _⟩ := y; exact Ext.refl _ _) (fun v e => sqt_of (st_go e st2)) ?_ ?_
    · rintro j y n _ v hj ⟨rfl, hy⟩ hn ev ev2 R' Z hR' hZ
      obtain ⟨d2, hd2, hr2⟩ := (rts2.go ev).get hy
      rcases hf d2 (List.mem_of_getElem? hd2) with ⟨n2, rfl⟩ | ⟨z2, rfl⟩
      · obtain rfl := hr2.int_inv
        ((with_reducible refine' s_gname ?q103 ?q104); (case q103 => exact rfl))
        refine ⟨rfl, ?_⟩
        ((with_reducible refine s_B ?_); (with_reducible refine s_CB ?_); (with_reducible refine s_cons ?_); (with_reducible refine' s_var ?q105 ?q106); (case q105 => exact rfl); (with_reducible refine s_cons ?_); (with_reducible refine s_c ?_); (with_reducible refine s_nil ?_); (with_reducible refine' si_int ?q107 ?q108); (case q107 => exact kb_NoneType_int); (with_reducible refine s_bl ?_); (with_reducible refine ite_ff ?_))
        exact hZ _ (Ext.refl _ _) rfl
      · obtain rfl := hr2.str_inv
        ((with_reducible refine' s_gname ?q109 ?q110); (case q109 => exact rfl))
        refine ⟨rfl, ?_⟩
        ((with_reducible refine s_B ?_); (with_reducible refine s_CB ?_); (with_reducible refine s_cons ?_); (with_reducible refine' s_var ?q111 ?q112); (case q111 => exact rfl); (with_reducible refine s_cons ?_); (with_reducible refine s_c ?_); (with_reducible refine s_nil ?_); (with_reducible refine' si_str ?q113 ?q114); (case q113 => exact kb_NoneType_int); (with_reducible refine s_bl ?_); (with_reducible refine ite_ff ?_))
        exact hZ _ (Ext.refl _ _) rfl
    · intro v acc ev hD' o ha2
      have hac : acc = [] := by
        rw [List.filter_eq_nil_iff.mpr (by simp)] at ha2
        cases ha2
        rfl
      subst hac
      ((with_reducible refine t_lst ?_); (with_reducible refine s_nil ?_); (with_reducible refine' t_newLS ?q115 ?q116); (case q115 => simp only [ List.length , sizeLine_eq ]; omega); intro _ _ _ _ _)
      rename_i p3 v3 e3 n3 s3
      refine s_neLs shaped_nil (.inr (o.ext e3 fun z => z)) .nil (.inl s3) .nil ?_
      ((with_reducible refine s_bl ?_); (with_reducible refine ite_ff ?_); (with_reducible refine s_next ?_); (with_reducible refine wds_i ?_))
      exact ⟨(eu.trans ev).trans e3, _, rfl⟩
  · rintro σ u ⟨eu, g, rfl⟩
    ((with_reducible refine s_ret ?_); (with_reducible refine s_c ?_))
    exact k u eu
local macro_rules | `(tactic| wtm_at "go1") => `(tactic| first
  | with_reducible refine s_try ?_
  | with_reducible refine s_iRng2 ?_
  | ((with_reducible refine' s_ninLs ?h ?k); (case h => wtm_at "sq"))
  | fail "go1m")
abbrev nm_l_gone : List Str := ["_law_log", "_law_name", "_law_refused", "_law_way", "e"]
theorem sc_l_gone : FnScope nm_l_gone ["_law_log", "_law_name"] (defScope s_l_gone) := ⟨rfl, rfl, rfl, by decide +kernel, rfl, by decide +kernel, by decide +kernel⟩
theorem st_l_gone (a b : V) : start nm_l_gone [a, b] = [some a, some b, none, none, none] := rfl
def p_l_gone (K : PySem.W.Frag) (ec : EC) (CL CT N : Addr) (w : Wd) (a b : V) (Q : VK) (_ : XK) : Prop := ∃ L cs z, LogO K ec CL CT w a L cs ∧ b = .str z ∧ getT L.E z = none ∧ ∀ v, Ext Non w v → Q (.bl true) v.H
theorem ok_l_gone {f : Addr} {fd : FuncData} {C_Entry C_Within C_At C_Between C_Table C_Read C_Log C_LogError C_NoEntry C_NoMoment C_NoName C_NoPlace C_NoReading : Addr} (F : Fun K "_law_gone" "_law_gone" s_l_gone f fd) (T : Txt K mg C_Entry C_Within C_At C_Between C_Table C_Read C_Log C_LogError C_NoEntry C_NoMoment C_NoName C_NoPlace C_NoReading) (c_Log_bind : Mth P ww K mg base (L2.CX P ww) C_Log 4 "bind" (pr4 (p_Log_bind K (EC.mk C_Entry C_Within C_At C_Between C_Read C_Entry C_Entry) C_Log C_Table C_NoEntry))) (c_Log_entry : Mth P ww K mg base (L2.CX P ww) C_Log 3 "entry" (pr2 (p_Log_entry K (EC.mk C_Entry C_Within C_At C_Between C_Read C_Entry C_Entry) C_Log C_Table C_NoEntry))) (c_Log_spans : Mth P ww K mg base (L2.CX P ww) C_Log 5 "spans" (pr2 (p_Log_spans K (EC.mk C_Entry C_Within C_At C_Between C_Read C_Entry C_Entry) C_Log C_Table C_NoEntry))) : FnOk P ww K mg base CX0 6 f fd ["_law_log", "_law_name"] (pr2 (p_l_gone K (EC.mk C_Entry C_Within C_At C_Between C_Read C_Entry C_Entry) C_Log C_Table C_NoEntry)) := by
  refine F.ok sc_l_gone (fun vs H Q E h => len2 h) (fun cdv A outer s H vs Q E hr h => ?_)
  obtain ⟨w, x0, x1,  rfl, rfl, h⟩ := h
  have ekT := ek_T T
  have cl_Table := T.cl_Table
  have na_Table_kept_rows := T.na_Table_kept_rows
  have cl_Log := T.cl_Log
  have na_Log_bound := T.na_Log_bound
  have na_Log_clocks := T.na_Log_clocks
  have na_Log_line := T.na_Log_line
  have na_Log_name := T.na_Log_name
  have oex_NoEntry := T.oex_NoEntry; have xf_NoEntry := T.xf_NoEntry; have ec_NoEntry := T.ec_NoEntry; have xn_NoEntry := T.xn_NoEntry
  have oex_NoMoment := T.oex_NoMoment; have xf_NoMoment := T.xf_NoMoment; have ec_NoMoment := T.ec_NoMoment; have xn_NoMoment := T.xn_NoMoment
  have oex_NoName := T.oex_NoName; have xf_NoName := T.xf_NoName; have ec_NoName := T.ec_NoName; have xn_NoName := T.xn_NoName
  have oex_NoPlace := T.oex_NoPlace; have xf_NoPlace := T.xf_NoPlace; have ec_NoPlace := T.ec_NoPlace; have xn_NoPlace := T.xn_NoPlace
  have oex_NoReading := T.oex_NoReading; have xf_NoReading := T.xf_NoReading; have ec_NoReading := T.ec_NoReading; have xn_NoReading := T.xn_NoReading
  have rel_NoEntry_NoEntry := T.rel_NoEntry_NoEntry
  have exm_NoEntry_NoEntry := T.exm_NoEntry_NoEntry
  refine ⟨_, (pss_cons (ps_set (i := 2) sc_l_gone.nd rfl (Or.inl rfl) pe_int)
      (pss_cons (ps_for PassesOwn.never rfl (pi_range1 rfl T.n_range (pa_cons pe_int pa_nil)) (pg_name (i := 3) sc_l_gone.nd rfl (Or.inl rfl)) (pss_one (ps_try_asT (i := 4) rfl rfl sc_l_gone.nd rfl rfl ⟨rfl, by decide, .inl T.g_NoEntry⟩ takes0 (fun W pn xe tk po => (pss_one (ps_if (pt_cmpR (kEq K hr.units) (pv 3) pe_int (nomark _)) (pss_one (ps_expr (pe_mthX tk c_Log_entry T.cl_Log hr (by decide) (pv 0) (pa_cons (pv 1) pa_nil)))) (pss_one (ps_if (pt_cmpR (kEq K hr.units) (pv 3) pe_int (nomark _)) (pss_one (ps_expr (pe_mthX tk c_Log_spans T.cl_Log hr (by decide) (pv 0) (pa_cons (pv 1) pa_nil)))) (pss_one (ps_expr (pe_mthX tk c_Log_bind T.cl_Log hr (by decide) (pv 0) (pa_cons (pv 1) (pa_cons (pv 1) (pa_cons pe_int pa_nil))))))))))) (fun xa xo xc xd pn hz hf => (pss_one (ps_set (i := 2) sc_l_gone.nd rfl (Or.inl rfl) (pe_op (kAdd K) (pv 2) (pe_callTy g_int (by rfl) T.n_int (by decide +kernel) (pa_cons (pe_cmpR (kEqU K hr.units) (pe_xg (K := K) rfl hz hf (pv 4)) (pv 1) (nomark _)) pa_nil)))))))))
      (pss_one (ps_ret (pe_cmpR (kEq K hr.units) (pv 2) pe_int (nomark _)))))), ?_⟩
  rw [st_l_gone]
  obtain ⟨L, cs, z, hL, rfl, hg, k⟩ := h
  obtain ⟨x, dx, c, l, b, kc, kl, bs, rfl, ox, _⟩ := id hL
  ((with_reducible refine s_seq ?_); (with_reducible refine s_asg ?_); (with_reducible refine s_c ?_); (with_reducible refine' s_gname ?q0 ?q1); (case q0 => simp only [ List.set_cons_succ , List.set_cons_zero ]; exact rfl); (with_reducible refine s_seq ?_); (with_reducible refine s_for ?_); (with_reducible refine s_iRng1 ?_); (with_reducible refine s_cons ?_); (with_reducible refine s_c ?_); (with_reducible refine s_nil ?_); refine' ⟨ _ , rfl , ?q2 , ?q3 , ?q4 ⟩; (case q2 => show ( - ( 2 ^ 62 ) : Int ) ≤ _; omega); (case q3 => show _ < ( 2 ^ 62 : Int ); omega))
  refine forW (ww_range (lo := 0) (m := _)) (fun i σ u => Ext Non w u ∧ ∃ g3 g4, σ = [some (.ref x), some (.str z), some (.int (i : Int)), g3, g4]) ⟨Ext.refl _ _, _, _, rfl⟩ (fun _ _ _ _ _ => trivial) ?_ ?_
  · rintro i _ σ _ u hi ⟨eu, g3, g4, rfl⟩ ⟨rfl, rfl⟩
    have hLu := hL.go0 eu
    have oxu := ox.ext eu fun z => z
    ((with_reducible refine' s_gname ?q5 ?q6); (case q5 => simp only [ List.set_cons_succ , List.set_cons_zero ]; exact rfl); (with_reducible refine s_try ?_); (with_reducible refine s_ifS ?_); (with_reducible refine s_test ?_); (with_reducible refine s_op ?_); (with_reducible refine' s_var ?q7 ?q8); (case q7 => exact rfl); (with_reducible refine s_c ?_); (with_reducible refine s_eqI ?_); (with_reducible refine s_bl ?_))
    rcases (show i = 0 ∨ i = 1 ∨ i = 2 by omega) with rfl | rfl | rfl
    · skip
      rw [if_pos (by decide)]
      ((with_reducible refine s_drop ?_); (with_reducible refine s_methX ?_); (with_reducible refine' s_var ?q9 ?q10); (case q9 => exact rfl); (with_reducible refine' s_rmeth ?q11 ?q12 ?q13); (case q11 => refine' Own.h ?q16; (case q16 => assumption)); (case q12 => refine' lk_tl ?q17 ?q18; (case q17 => decide +kernel); (case q18 => refine' lk_tl ?q19 ?q20; (case q19 => decide +kernel); (case q20 => refine' lk_tl ?q21 ?q22; (case q21 => decide +kernel); (case q22 => exact lk_nil)))); (with_reducible refine s_cons ?_); (with_reducible refine' s_var ?q23 ?q24); (case q23 => exact rfl); (with_reducible refine s_nil ?_); (with_reducible refine s_pm2 ?_))
      refine ⟨L, cs, .str z, hLu, .str z, fun z' e' hz' he' => (by cases hz'; rw [hg] at he'; cases he'), fun _ v ex ev n o => ?_⟩
      refine s_wAs exm_NoEntry_NoEntry fun xa hxa => ?_
      ((with_reducible refine s_asg ?_); (with_reducible refine s_op ?_); (with_reducible refine' s_var ?q25 ?q26); (case q25 => exact rfl); (with_reducible refine s_CB ?_); (with_reducible refine s_cons ?_); (with_reducible refine s_op ?_); (with_reducible refine s_xg ?_); (with_reducible refine' s_var ?q27 ?q28); (case q27 => exact rfl); (with_reducible refine' s_xgv ?q29 ?q30 ?q31 ?q32); (case q29 => refine' Own.h ?q36; (case q36 => assumption)); (case q30 => assumption); (case q31 => assumption); (with_reducible refine' s_var ?q37 ?q38); (case q37 => exact rfl))
      refine .inl (s_eqS ?_)
      rw [decide_eq_true rfl]
      ((with_reducible refine s_nil ?_); (with_reducible refine s_intt ?_); (with_reducible refine s_add ?_); (with_reducible refine' s_gname ?q39 ?q40); (case q39 => simp only [ List.set_cons_succ , List.set_cons_zero ]; exact rfl); (with_reducible refine wds_i ?_))
      exact ⟨eu.trans ev, _, _, rfl⟩
    · skip
      rw [if_neg (by decide)]
      ((with_reducible refine s_ifS ?_); (with_reducible refine s_test ?_); (with_reducible refine s_op ?_); (with_reducible refine' s_var ?q41 ?q42); (case q41 => exact rfl); (with_reducible refine s_c ?_); (with_reducible refine s_eqI ?_); (with_reducible refine s_bl ?_))
      rw [if_pos (by decide)]
      ((with_reducible refine s_drop ?_); (with_reducible refine s_methX ?_); (with_reducible refine' s_var ?q46 ?q47); (case q46 => exact rfl); (with_reducible refine' s_rmeth ?q48 ?q49 ?q50); (case q48 => refine' Own.h ?q53; (case q53 => assumption)); (case q49 => refine' lk_tl ?q54 ?q55; (case q54 => decide +kernel); (case q55 => refine' lk_tl ?q56 ?q57; (case q56 => decide +kernel); (case q57 => refine' lk_tl ?q58 ?q59; (case q58 => decide +kernel); (case q59 => exact lk_nil)))); (with_reducible refine s_cons ?_); (with_reducible refine' s_var ?q60 ?q61); (case q60 => exact rfl); (with_reducible refine s_nil ?_); (with_reducible refine s_pm2 ?_))
      refine ⟨L, cs, .str z, hLu, .str z, fun z' e' hz' he' => (by cases hz'; rw [hg] at he'; cases he'), fun _ v ex ev n o => ?_⟩
      refine s_wAs exm_NoEntry_NoEntry fun xa hxa => ?_
      ((with_reducible refine s_asg ?_); (with_reducible refine s_op ?_); (with_reducible refine' s_var ?q62 ?q63); (case q62 => exact rfl); (with_reducible refine s_CB ?_); (with_reducible refine s_cons ?_); (with_reducible refine s_op ?_); (with_reducible refine s_xg ?_); (with_reducible refine' s_var ?q64 ?q65); (case q64 => exact rfl); (with_reducible refine' s_xgv ?q66 ?q67 ?q68 ?q69); (case q66 => refine' Own.h ?q73; (case q73 => assumption)); (case q67 => assumption); (case q68 => assumption); (with_reducible refine' s_var ?q74 ?q75); (case q74 => exact rfl))
      refine .inl (s_eqS ?_)
      rw [decide_eq_true rfl]
      ((with_reducible refine s_nil ?_); (with_reducible refine s_intt ?_); (with_reducible refine s_add ?_); (with_reducible refine' s_gname ?q76 ?q77); (case q76 => simp only [ List.set_cons_succ , List.set_cons_zero ]; exact rfl); (with_reducible refine wds_i ?_))
      exact ⟨eu.trans ev, _, _, rfl⟩
    · skip
      rw [if_neg (by decide)]
      ((with_reducible refine s_ifS ?_); (with_reducible refine s_test ?_); (with_reducible refine s_op ?_); (with_reducible refine' s_var ?q78 ?q79); (case q78 => exact rfl); (with_reducible refine s_c ?_); (with_reducible refine s_eqI ?_); (with_reducible refine s_bl ?_))
      rw [if_neg (by decide)]
      ((with_reducible refine s_drop ?_); (with_reducible refine s_methX ?_); (with_reducible refine' s_var ?q83 ?q84); (case q83 => exact rfl); (with_reducible refine' s_rmeth ?q85 ?q86 ?q87); (case q85 => refine' Own.h ?q90; (case q90 => assumption)); (case q86 => refine' lk_tl ?q91 ?q92; (case q91 => decide +kernel); (case q92 => refine' lk_tl ?q93 ?q94; (case q93 => decide +kernel); (case q94 => refine' lk_tl ?q95 ?q96; (case q95 => decide +kernel); (case q96 => exact lk_nil)))); (with_reducible refine s_cons ?_); (with_reducible refine' s_var ?q97 ?q98); (case q97 => exact rfl); (with_reducible refine s_cons ?_); (with_reducible refine' s_var ?q99 ?q100); (case q99 => exact rfl); (with_reducible refine s_cons ?_); (with_reducible refine s_c ?_); (with_reducible refine s_nil ?_); (with_reducible refine s_pm4 ?_))
      refine ⟨L, cs, z, z, 0, hLu, rfl, rfl, rfl, fun _ v ex ev n o => ?_, fun ⟨e, h⟩ => by rw [hg] at h; cases h⟩
      refine s_wAs exm_NoEntry_NoEntry fun xa hxa => ?_
      ((with_reducible refine s_asg ?_); (with_reducible refine s_op ?_); (with_reducible refine' s_var ?q101 ?q102); (case q101 => exact rfl); (with_reducible refine s_CB ?_); (with_reducible refine s_cons ?_); (with_reducible refine s_op ?_); (with_reducible refine s_xg ?_); (with_reducible refine' s_var ?q103 ?q104); (case q103 => exact rfl); (with_reducible refine' s_xgv ?q105 ?q106 ?q107 ?q108); (case q105 => refine' Own.h ?q112; (case q112 => assumption)); (case q106 => assumption); (case q107 => assumption); (with_reducible refine' s_var ?q113 ?q114); (case q113 => exact rfl))
      refine .inl (s_eqS ?_)
      rw [decide_eq_true rfl]
      ((with_reducible refine s_nil ?_); (with_reducible refine s_intt ?_); (with_reducible refine s_add ?_); (with_reducible refine' s_gname ?q115 ?q116); (case q115 => simp only [ List.set_cons_succ , List.set_cons_zero ]; exact rfl); (with_reducible refine wds_i ?_))
      exact ⟨eu.trans ev, _, _, rfl⟩
  · rintro σ u ⟨eu, g3, g4, rfl⟩
    ((with_reducible refine s_ret ?_); (with_reducible refine s_op ?_); (with_reducible refine' s_var ?q117 ?q118); (case q117 => exact rfl); (with_reducible refine s_c ?_); (with_reducible refine s_eqI ?_))
    exact k u eu
abbrev nm_l_copy : List Str := ["_law_kept", "_law_tables"]
theorem sc_l_copy : FnScope nm_l_copy ["_law_kept"] (defScope s_l_copy) := ⟨rfl, rfl, rfl, by decide +kernel, rfl, by decide +kernel, by decide +kernel⟩
theorem st_l_copy (a : V) : start nm_l_copy [a] = [some a, none] := rfl
def p_l_copy (w : Wd) (a : V) (Q : VK) (_ : XK) : Prop := ∃ M cs, KeptO w a M cs ∧ ∀ v r cs', Ext Non w v → KeptO v r M cs' → (∀ y, cs' y → w.H y = none) → Q r v.H
theorem ok_l_copy {f : Addr} {fd : FuncData} {C_Entry C_Within C_At C_Between C_Table C_Read C_Log C_LogError C_NoEntry C_NoMoment C_NoName C_NoPlace C_NoReading : Addr} (F : Fun K "_law_copy" "_law_copy" s_l_copy f fd) (T : Txt K mg C_Entry C_Within C_At C_Between C_Table C_Read C_Log C_LogError C_NoEntry C_NoMoment C_NoName C_NoPlace C_NoReading)  : FnOk P ww K mg base CX0 1 f fd ["_law_kept"] (pr1 (p_l_copy)) := by
  refine F.ok sc_l_copy (fun vs H Q E h => len1 h) (fun cdv A outer s H vs Q E hr h => ?_)
  obtain ⟨w, x0,  rfl, rfl, h⟩ := h
  have ekT := ek_T T
  have oex_NoEntry := T.oex_NoEntry; have xf_NoEntry := T.xf_NoEntry; have ec_NoEntry := T.ec_NoEntry; have xn_NoEntry := T.xn_NoEntry
  have oex_NoMoment := T.oex_NoMoment; have xf_NoMoment := T.xf_NoMoment; have ec_NoMoment := T.ec_NoMoment; have xn_NoMoment := T.xn_NoMoment
  have oex_NoName := T.oex_NoName; have xf_NoName := T.xf_NoName; have ec_NoName := T.ec_NoName; have xn_NoName := T.xn_NoName
  have oex_NoPlace := T.oex_NoPlace; have xf_NoPlace := T.xf_NoPlace; have ec_NoPlace := T.ec_NoPlace; have xn_NoPlace := T.xn_NoPlace
  have oex_NoReading := T.oex_NoReading; have xf_NoReading := T.xf_NoReading; have ec_NoReading := T.ec_NoReading; have xn_NoReading := T.xn_NoReading
  have rel_NoEntry_NoEntry := T.rel_NoEntry_NoEntry
  have exm_NoEntry_NoEntry := T.exm_NoEntry_NoEntry
  refine ⟨_, (pss_cons (ps_set (i := 1) sc_l_copy.nd rfl (Or.inl rfl) (pe_callTy kDictC (by rfl) T.n_dict (by decide +kernel) (pa_cons (pe_dget (hu_of hr) (pv 0) pe_str (fun _ _ => rfl)) pa_nil)))
      (pss_one (ps_ret (pe_disp (pps_cons pe_str (pv 1) (pps_cons pe_str (pe_callTy (kList K) (by rfl) T.n_list (by decide +kernel) (pa_cons (pe_dget (hu_of hr) (pv 0) pe_str (fun _ _ => rfl)) pa_nil)) (pps_cons pe_str (pe_callTy (kList K) (by rfl) T.n_list (by decide +kernel) (pa_cons (pe_dget (hu_of hr) (pv 0) pe_str (fun _ _ => rfl)) pa_nil)) (pps_cons pe_str (pe_callTy (kList K) (by rfl) T.n_list (by decide +kernel) (pa_cons (pe_dget (hu_of hr) (pv 0) pe_str (fun _ _ => rfl)) pa_nil)) pps_nil)))) (by rfl) (by rfl) (fun z => by cases z) (by decide))))), ?_⟩
  rw [st_l_copy]
  obtain ⟨M, cs, hK, k⟩ := h
  obtain ⟨x, t, s, b, g, kt, ss, bs, rfl, ox, ot, tt, os, rs, ob, rb, og, d1, d2, d3, d4, hc⟩ := id hK
  ((with_reducible refine s_seq ?_); (with_reducible refine s_asg ?_); (with_reducible refine s_CB ?_); (with_reducible refine s_cons ?_); (with_reducible refine s_dget ?_); (with_reducible refine' s_var ?q0 ?q1); (case q0 => exact rfl); (with_reducible refine s_c ?_); (with_reducible refine' ⟨ _ , _ , rfl , dgetS ?q2 ?q3 , ?q4 ⟩); (case q2 => assumption); (case q3 => exact valS_pos); (with_reducible refine s_nil ?_))
  refine s_dictC ot fun t2 v1 e1 n1 o1 => ?_
  have ox1 := ox.ext e1 fun z => z
  have os1 := os.ext e1 fun z => z
  have ob1 := ob.ext e1 fun z => z
  have og1 := og.ext e1 fun z => z
  ((with_reducible refine' s_gname ?q5 ?q6); (case q5 => simp only [ List.set_cons_succ , List.set_cons_zero ]; exact rfl); (with_reducible refine s_ret ?_); (with_reducible refine t_disp ?_))
  intro p v2 e2 n2 o2
  have ox2 := ox1.ext e2 fun z => z
  have os2 := os1.ext e2 fun z => z
  have ob2 := ob1.ext e2 fun z => z
  have og2 := og1.ext e2 fun z => z
  ((with_reducible refine s_pcons ?_); (with_reducible refine s_c ?_); (with_reducible refine' s_var ?q7 ?q8); (case q7 => exact rfl); (with_reducible refine s_pcons ?_); (with_reducible refine s_c ?_); (with_reducible refine s_CB ?_); (with_reducible refine s_cons ?_); (with_reducible refine s_dget ?_); (with_reducible refine' s_var ?q9 ?q10); (case q9 => exact rfl); (with_reducible refine s_c ?_); (with_reducible refine' ⟨ _ , _ , rfl , dgetS ?q11 ?q12 , ?q13 ⟩); (case q11 => assumption); (case q12 => refine' valS_neg ?q14 ?q15; (case q14 => decide +kernel); (case q15 => exact valS_pos)); (with_reducible refine s_nil ?_))
  refine s_listO (.inl (SqL.of os2.h)) fun s3 v3 e3 n3 o3 => ?_
  have ox3 := ox2.ext e3 fun z => z
  have ob3 := ob2.ext e3 fun z => z
  have og3 := og2.ext e3 fun z => z
  ((with_reducible refine s_pcons ?_); (with_reducible refine s_c ?_); (with_reducible refine s_CB ?_); (with_reducible refine s_cons ?_); (with_reducible refine s_dget ?_); (with_reducible refine' s_var ?q16 ?q17); (case q16 => exact rfl); (with_reducible refine s_c ?_); (with_reducible refine' ⟨ _ , _ , rfl , dgetS ?q18 ?q19 , ?q20 ⟩); (case q18 => assumption); (case q19 => refine' valS_neg ?q21 ?q22; (case q21 => decide +kernel); (case q22 => refine' valS_neg ?q23 ?q24; (case q23 => decide +kernel); (case q24 => exact valS_pos))); (with_reducible refine s_nil ?_))
  refine s_listO (.inl (SqL.of ob3.h)) fun b4 v4 e4 n4 o4 => ?_
  have ox4 := ox3.ext e4 fun z => z
  have og4 := og3.ext e4 fun z => z
  ((with_reducible refine s_pcons ?_); (with_reducible refine s_c ?_); (with_reducible refine s_CB ?_); (with_reducible refine s_cons ?_); (with_reducible refine s_dget ?_); (with_reducible refine' s_var ?q25 ?q26); (case q25 => exact rfl); (with_reducible refine s_c ?_); (with_reducible refine' ⟨ _ , _ , rfl , dgetS ?q27 ?q28 , ?q29 ⟩); (case q27 => assumption); (case q28 => refine' valS_neg ?q30 ?q31; (case q30 => decide +kernel); (case q31 => refine' valS_neg ?q32 ?q33; (case q32 => decide +kernel); (case q33 => refine' valS_neg ?q34 ?q35; (case q34 => decide +kernel); (case q35 => exact valS_pos)))); (with_reducible refine s_nil ?_))
  refine s_listO (.inl (SqL.of og4.h)) fun g5 v5 e5 n5 o5 => ?_
  have o25 : Own v5 p (.dK []) := ((o2.ext e3 fun z => z).ext e4 fun z => z).ext e5 fun z => z
  ((with_reducible refine s_pnil ?_))
  refine t_dispE o25 [(.inr "tables", .ref t2), (.inr "specs", .ref s3), (.inr "bonds", .ref b4), (.inr "gone", .ref g5)] [(.inr "tables", .ref t2), (.inr "specs", .ref s3), (.inr "bonds", .ref b4), (.inr "gone", .ref g5)] rfl (mergeK_nd (show ([.inr "tables", .inr "specs", .inr "bonds", .inr "gone"] : List Key).Nodup by decide +kernel)) (by simp) fun v6 e6 o6 => ?_
  have f2 := e1.trans e2
  have f3 := f2.trans e3
  have f4 := f3.trans e4
  have f5 := f4.trans e5
  have np : w.H p = none := e1.back n2
  have f6 : Ext Non w v6 := f5.step e6 fun y hy => .inl (by rw [show y = p from hy]; exact np)
  have dp1 : t2 ≠ p := o1.ne n2
  have dp3 : s3 ≠ p := fun h => by rw [h] at n3; rw [o2.h] at n3; cases n3
  have dp4 : b4 ≠ p := fun h => by rw [h] at n4; rw [(o2.ext e3 fun z => z).h] at n4; cases n4
  have dp5 : g5 ≠ p := fun h => by rw [h] at n5; rw [((o2.ext e3 fun z => z).ext e4 fun z => z).h] at n5; cases n5
  have d34 : s3 ≠ b4 := o3.ne n4
  have d35 : s3 ≠ g5 := (o3.ext e4 fun z => z).ne n5
  have d45 : b4 ≠ g5 := o4.ne n5
  refine k v6 (.ref p) (fun y => y = p ∨ y = t2 ∨ y = s3 ∨ y = b4 ∨ y = g5) f6 ⟨p, t2, s3, b4, g5, kt, ss, bs, rfl, o6, (((((o1.ext e2 fun z => z).ext e3 fun z => z).ext e4 fun z => z).ext e5 fun z => z).ext e6 dp1), TbL.go f6 tt, ((o3.ext e4 fun z => z).ext e5 fun z => z).ext e6 dp3, rs.go f6, (o4.ext e5 fun z => z).ext e6 dp4, rb.go f6, o5.ext e6 dp5, dp1.symm, d34, d35, d45, fun y => Iff.rfl⟩ fun y hy => ?_
  rcases hy with rfl | rfl | rfl | rfl | rfl
  · exact np
  · exact n1
  · exact f2.back n3
  · exact f3.back n4
  · exact f4.back n5
abbrev nm_l_right : List Str := ["_law_log", "_law_kept", "_law_spec_here", "_law_names_here", "_law_name"]
theorem sc_l_right : FnScope nm_l_right ["_law_log", "_law_kept"] (defScope s_l_right) := ⟨rfl, rfl, rfl, by decide +kernel, rfl, by decide +kernel, by decide +kernel⟩
theorem st_l_right (a b : V) : start nm_l_right [a, b] = [some a, some b, none, none, none] := rfl
def p_l_right (K : PySem.W.Frag) (ec : EC) (CL CT N : Addr) (w : Wd) (a b : V) (Q : VK) (_ : XK) : Prop := ∃ zs L M g cs ds, Nm20 zs ∧ LogO K ec CL CT w a L cs ∧ KeptO w b M ds ∧ Lk zs L M g ∧ g < 1000 ∧ ∀ v, Ext Non w v → Q (.bl true) v.H
theorem ok_l_right {f : Addr} {fd : FuncData} {C_Entry C_Within C_At C_Between C_Table C_Read C_Log C_LogError C_NoEntry C_NoMoment C_NoName C_NoPlace C_NoReading : Addr} (F : Fun K "_law_right" "_law_right" s_l_right f fd) (T : Txt K mg C_Entry C_Within C_At C_Between C_Table C_Read C_Log C_LogError C_NoEntry C_NoMoment C_NoName C_NoPlace C_NoReading) (c_Log_bonds : Mth P ww K mg base CX0 C_Log 1 "bonds" (pr1 (p_Log_bonds K (EC.mk C_Entry C_Within C_At C_Between C_Read C_Entry C_Entry) C_Log C_Table))) (c_Log_names : Mth P ww K mg base CX0 C_Log 1 "names" (pr1 (p_Log_names K (EC.mk C_Entry C_Within C_At C_Between C_Read C_Entry C_Entry) C_Log C_Table))) (c_Log_places : Mth P ww K mg base CX0 C_Log 1 "places" (pr1 (p_Log_places K (EC.mk C_Entry C_Within C_At C_Between C_Read C_Entry C_Entry) C_Log C_Table))) (c_Log_spans : Mth P ww K mg base (L2.CX P ww) C_Log 5 "spans" (pr2 (p_Log_spans K (EC.mk C_Entry C_Within C_At C_Between C_Read C_Entry C_Entry) C_Log C_Table C_NoEntry))) (c_l_gone : Fnc P ww K mg base CX0 6 "_law_gone" (pr2 (p_l_gone K (EC.mk C_Entry C_Within C_At C_Between C_Read C_Entry C_Entry) C_Log C_Table C_NoEntry))) (c_l_same : Fnc P ww K mg base CX0 1 "_law_same" (pr2 (p_l_same))) (c_l_spans : Fnc P ww K mg base CX0 3 "_law_spans" (pr2 (p_l_spans))) : FnOk P ww K mg base CX0 7 f fd ["_law_log", "_law_kept"] (pr2 (p_l_right K (EC.mk C_Entry C_Within C_At C_Between C_Read C_Entry C_Entry) C_Log C_Table C_NoEntry)) := by
  refine F.ok sc_l_right (fun vs H Q E h => len2 h) (fun cdv A outer s H vs Q E hr h => ?_)
  obtain ⟨w, x0, x1,  rfl, rfl, h⟩ := h
  have ekT := ek_T T
  have cl_Table := T.cl_Table
  have na_Table_kept_rows := T.na_Table_kept_rows
  have cl_Log := T.cl_Log
  have na_Log_bound := T.na_Log_bound
  have na_Log_clocks := T.na_Log_clocks
  have na_Log_line := T.na_Log_line
  have na_Log_name := T.na_Log_name
  have oex_NoEntry := T.oex_NoEntry; have xf_NoEntry := T.xf_NoEntry; have ec_NoEntry := T.ec_NoEntry; have xn_NoEntry := T.xn_NoEntry
  have oex_NoMoment := T.oex_NoMoment; have xf_NoMoment := T.xf_NoMoment; have ec_NoMoment := T.ec_NoMoment; have xn_NoMoment := T.xn_NoMoment
  have oex_NoName := T.oex_NoName; have xf_NoName := T.xf_NoName; have ec_NoName := T.ec_NoName; have xn_NoName := T.xn_NoName
  have oex_NoPlace := T.oex_NoPlace; have xf_NoPlace := T.xf_NoPlace; have ec_NoPlace := T.ec_NoPlace; have xn_NoPlace := T.xn_NoPlace
  have oex_NoReading := T.oex_NoReading; have xf_NoReading := T.xf_NoReading; have ec_NoReading := T.ec_NoReading; have xn_NoReading := T.xn_NoReading
  have rel_NoEntry_NoEntry := T.rel_NoEntry_NoEntry
  have exm_NoEntry_NoEntry := T.exm_NoEntry_NoEntry
  refine ⟨_, (pss_cons (ps_setLc (i := 3) (own := [("_law_spec_here", 2)]) (g := (gName 2)) (tt := tYes) (by rfl) sc_l_right.nd rfl rfl (sw_true rfl rfl rfl (by decide +kernel)) (kpList K (pe_dget (hu_of hr) (pv 1) pe_str (fun _ _ => rfl))) (blkOk_by (own := [("_law_spec_here", 2)]) (N := nm_l_right) (sc := defScope s_l_right) (by decide +kernel)) (fun _ _ _ _ _ => (pg_name (i := 2) sc_l_right.nd rfl (Or.inl rfl))) (fun _ _ _ _ _ => pts_nil) (fun _ _ _ _ _ => (pe_ix (kIx K) (pv 2) pe_int (fun _ _ => rfl))))
      (pss_cons (ps_if (PW.pt (pw_or (pt_cmpR (kNe K hr.units) (pe_mth0 c_Log_names T.cl_Log hr (by decide) pass0 (pv 0)) (pv 3) (nomark _)) (pw_or (pt_cmpR (kNe K hr.units) (pe_mth0 c_Log_places T.cl_Log hr (by decide) pass0 (pv 0)) (pe_callB (kSortDT rfl) (by rfl) T.n_sorted (by decide +kernel) (pa_cons (pe_dget (hu_of hr) (pv 1) pe_str (fun _ _ => rfl)) pa_nil)) (nomark _)) (pw_or1 (pt_not (pt_val (pe_fn c_l_same hr (by decide) pass0 (pa_cons (pe_mth0 c_Log_bonds T.cl_Log hr (by decide) pass0 (pv 0)) (pa_cons (pe_dget (hu_of hr) (pv 1) pe_str (fun _ _ => rfl)) pa_nil))))))))) (pss_one (ps_ret pe_bl)) pss_nil)
      (pss_cons (ps_for PassesOwn.never rfl (kpList K (pe_dget (hu_of hr) (pv 1) pe_str (fun _ _ => rfl))) (pg_name (i := 2) sc_l_right.nd rfl (Or.inl rfl)) (pss_one (ps_if (pt_not (pt_val (pe_fn c_l_same hr (by decide) pass0 (pa_cons (pe_mthX takes0 c_Log_spans T.cl_Log hr (by decide) (pv 0) (pa_cons (pe_ix (kIx K) (pv 2) pe_int (fun _ _ => rfl)) pa_nil)) (pa_cons (pe_fn c_l_spans hr (by decide) pass0 (pa_cons (pv 2) (pa_cons (pe_dget (hu_of hr) (pv 1) pe_str (fun _ _ => rfl)) pa_nil))) pa_nil))))) (pss_one (ps_ret pe_bl)) pss_nil)))
      (pss_cons (ps_for PassesOwn.never rfl (kpList K (pe_dget (hu_of hr) (pv 1) pe_str (fun _ _ => rfl))) (pg_name (i := 4) sc_l_right.nd rfl (Or.inl rfl)) (pss_one (ps_if (PW.pt (pw_and (pt_cmpR (kNotIn K) (pv 4) (pv 3) (by rfl)) (pw_and1 (pt_not (pt_val (pe_fn c_l_gone hr (by decide) pass0 (pa_cons (pv 0) (pa_cons (pv 4) pa_nil)))))))) (pss_one (ps_ret pe_bl)) pss_nil)))
      (pss_one (ps_ret pe_bl)))))), ?_⟩
  rw [st_l_right]
  obtain ⟨zs, L, M, gn, cs, ds, hz, hL, hK, lk, hg, k⟩ := h
  obtain ⟨x, dx, c, l, b, kc, kl, bs, rfl, ox, oc, tc, ol, tl, ob, rb, hcl, hcs⟩ := id hL
  obtain ⟨y, t, s, bb, g, kt, ss, bbs, rfl, oy, ot, tt, os, rs, obb, rbb, og, d1, d2, d3, d4, hc⟩ := id hK
  have lss := rs.length
  rw [List.length_map] at lss
  have hsl := lk.sl hz
  have htl := lk.tl hz
  ((with_reducible refine s_seq ?_); (with_reducible refine s_asg ?_); (with_reducible refine s_Lc ?_); (with_reducible refine s_iList ?_); (with_reducible refine s_dget ?_); (with_reducible refine' s_var ?q0 ?q1); (case q0 => exact rfl); (with_reducible refine s_c ?_); (with_reducible refine' ⟨ _ , _ , rfl , dgetS ?q2 ?q3 , ?q4 ⟩); (case q2 => assumption); (case q3 => refine' valS_neg ?q5 ?q6; (case q5 => decide +kernel); (case q6 => exact valS_pos)); refine' ⟨ _ , rfl , ⟨ _ , ?q7 ⟩ , ?q8 ⟩; (case q7 => refine' SqL.of ( Own.h ?q10 ); (case q10 => assumption)))
  intro D hD
  have hsD := os.ne hD
  refine lc_gen (rows := M.S) (ww_list (xs := ss)) (fun _ => true) (fun e => .str e.n) hD (by omega) (by rw [sizeLine_eq]; omega) (fun u e => SqL.of (os.ext e hsD).h) ?_ ?_
  · intro i x1 e u hi hx hq eu R' Z hR' hZ
    obtain ⟨d, hd1, hd2⟩ := rs.get hx
    rw [List.getElem?_map, hq] at hd1
    obtain rfl := Option.some.inj hd1
    obtain ⟨tt, rfl, st⟩ := spec_inv (hd2.go eu)
    ((with_reducible refine' s_gname ?q11 ?q12); (case q11 => exact rfl))
    refine ⟨rfl, s_yes (ite_tt ?_)⟩
    ((with_reducible refine s_op ?_); (with_reducible refine' s_var ?q13 ?q14); (case q13 => exact rfl); (with_reducible refine s_c ?_); (with_reducible refine' s_ixT ?q15 ?q16 ?q17); (case q15 => assumption); (case q16 => exact rfl))
    exact hR' _ _ (Ext.refl _ _) rfl (.str _)
  · intro u1 acc eu1 hD' oD ra
    rw [filter_all] at ra
    obtain rfl := RpA.strs_inv (ns := M.S.map (·.n)) (by rw [List.map_map]; exact ra)
    have hLu := hL.go0 eu1
    have oxu := ox.ext eu1 fun z => z
    ((with_reducible refine' s_gname ?q18 ?q19); (case q18 => simp only [ List.set_cons_succ , List.set_cons_zero ]; exact rfl); (with_reducible refine s_seq ?_); (with_reducible refine s_ifS ?_); (with_reducible refine s_or ?_); (with_reducible refine s_test ?_); (with_reducible refine s_op ?_); (with_reducible refine s_meth ?_); (with_reducible refine' s_var ?q20 ?q21); (case q20 => exact rfl); (with_reducible refine' s_rmeth ?q22 ?q23 ?q24); (case q22 => refine' Own.h ?q27; (case q27 => assumption)); (case q23 => refine' lk_tl ?q28 ?q29; (case q28 => decide +kernel); (case q29 => refine' lk_tl ?q30 ?q31; (case q30 => decide +kernel); (case q31 => refine' lk_tl ?q32 ?q33; (case q32 => decide +kernel); (case q33 => exact lk_nil)))); (with_reducible refine s_nil ?_); (with_reducible refine s_pm1 ?_))
    refine ⟨L, cs, hLu, fun v2 r2 e2 n2 o2 => ?_⟩
    rw [lk.e, ens_names] at o2
    have oD2 : Own v2 D _ := oD.ext e2 fun z => z
    have hok : ∀ z ∈ M.S.map (·.n), PyData.strOk z = true := fun z hh => by
      obtain ⟨e, he, rfl⟩ := List.mem_map.mp hh
      exact ((lk.ok e he).n.tx).ok
    ((with_reducible refine' s_var ?q34 ?q35); (case q34 => exact rfl))
    refine s_neLs (shaped_strs hok) (.inr o2) (rpa_strs _) (.inr oD2) (rpa_strs _) ?_
    have f2 := eu1.trans e2
    have hL2 := hL.go0 f2
    have ox2 := ox.ext f2 fun z => z
    clear hLu oxu o2
    ((with_reducible refine s_bl ?_); (with_reducible refine ite_ff ?_); (with_reducible refine s_or ?_); (with_reducible refine s_test ?_); (with_reducible refine s_op ?_); (with_reducible refine s_meth ?_); (with_reducible refine' s_var ?q39 ?q40); (case q39 => exact rfl); (with_reducible refine' s_rmeth ?q41 ?q42 ?q43); (case q41 => refine' Own.h ?q46; (case q46 => assumption)); (case q42 => refine' lk_tl ?q47 ?q48; (case q47 => decide +kernel); (case q48 => refine' lk_tl ?q49 ?q50; (case q49 => decide +kernel); (case q50 => refine' lk_tl ?q51 ?q52; (case q51 => decide +kernel); (case q52 => exact lk_nil)))); (with_reducible refine s_nil ?_); (with_reducible refine s_pm1 ?_))
    refine ⟨L, cs, hL2, by rw [lk.t]; omega, fun v3 r3 ys p3 q3 e3 n3 o3 => ?_⟩
    rw [lk.t] at p3
    have f3 := f2.trans e3
    have oy3 := oy.ext f3 fun z => z
    have ot3 := ot.ext f3 fun z => z
    ((with_reducible refine s_CB ?_); (with_reducible refine s_cons ?_); (with_reducible refine s_dget ?_); (with_reducible refine' s_var ?q53 ?q54); (case q53 => exact rfl); (with_reducible refine s_c ?_); (with_reducible refine' ⟨ _ , _ , rfl , dgetS ?q55 ?q56 , ?q57 ⟩); (case q55 => assumption); (case q56 => exact valS_pos); (with_reducible refine s_nil ?_))
    refine s_sortDTo ot3.h (DicR.keys tt) (by rw [List.length_map]; omega) fun ys2 r4 v4 p4 q4 e4 n4 o4 => ?_
    have hyy : ys = ys2 := sortedS_uniq q3 q4 (p3.trans p4.symm)
    subst hyy
    have hyok : ∀ z ∈ ys, PyData.strOk z = true := fun z hh => by
      obtain ⟨y, hy, rfl⟩ := List.mem_map.mp (p4.mem_iff.mp hh)
      exact ((lk.tok hz y hy).tx).ok
    refine s_neLs (shaped_strs hyok) (.inr (o3.ext e4 fun z => z)) (rpa_strs _) (.inr o4) (rpa_strs _) ?_
    have f4 := f3.trans e4
    have h4 := (e2.trans e3).trans e4
    have hL4 := hL.go0 f4
    have ox4 := ox.ext f4 fun z => z
    have oy4 := oy.ext f4 fun z => z
    clear hL2 ox2 oy3 ot3 o3 o4 e4 e3 n3 n4 q3 q4 p3 p4
    ((with_reducible refine s_bl ?_); (with_reducible refine ite_ff ?_); (with_reducible refine s_not ?_); (with_reducible refine s_B ?_); (with_reducible refine s_call ?_); (with_reducible refine s_cons ?_); (with_reducible refine s_meth ?_); (with_reducible refine' s_var ?q61 ?q62); (case q61 => exact rfl); (with_reducible refine' s_rmeth ?q63 ?q64 ?q65); (case q63 => refine' Own.h ?q69; (case q69 => assumption)); (case q64 => refine' lk_tl ?q70 ?q71; (case q70 => decide +kernel); (case q71 => refine' lk_tl ?q72 ?q73; (case q72 => decide +kernel); (case q73 => refine' lk_tl ?q74 ?q75; (case q74 => decide +kernel); (case q75 => exact lk_nil)))); (with_reducible refine s_nil ?_); (with_reducible refine s_pm1 ?_))
    refine ⟨L, cs, hL4, fun v5 r5 us e5 n5 o5 ra5 => ?_⟩
    rw [lk.b] at ra5
    have f5 := f4.trans e5
    have oy5 := oy.ext f5 fun z => z
    have ob5 := obb.ext f5 fun z => z
    ((with_reducible refine s_cons ?_); (with_reducible refine s_dget ?_); (with_reducible refine' s_var ?q76 ?q77); (case q76 => exact rfl); (with_reducible refine s_c ?_); (with_reducible refine' ⟨ _ , _ , rfl , dgetS ?q78 ?q79 , ?q80 ⟩); (case q78 => assumption); (case q79 => refine' valS_neg ?q81 ?q82; (case q81 => decide +kernel); (case q82 => refine' valS_neg ?q83 ?q84; (case q83 => decide +kernel); (case q84 => exact valS_pos))); (with_reducible refine s_nil ?_); (with_reducible refine s_pr2 ?_))
    refine ⟨M.B.map bondU, ⟨r5, us, rfl, .inr o5, by rw [bondU_map]; exact ra5⟩, ⟨bb, bbs, rfl, .inr ob5, by rw [bondU_map]; exact rbb.go f5⟩, by rw [bondU_map]; exact shaped_bonds lk.bo, bondU_flat _, fun v6 e6 => ?_⟩
    have f6 := f5.trans e6
    have oy6 := oy.ext f6 fun z => z
    have oD6 : Own v6 D (.lst ((M.S.map (·.n)).map V.str)) := oD.ext ((h4.trans e5).trans e6) fun z => z
    clear e2 n2 oD2 e5 n5 o5 ra5 oy5 ob5 e6 h4 hL4 ox4 oy4 f2 f3 f4 f5
    ((with_reducible refine s_bl ?_); (with_reducible refine ite_nt ?_); (with_reducible refine s_next ?_); (with_reducible refine s_seq ?_); (with_reducible refine s_for ?_); (with_reducible refine s_iList ?_); (with_reducible refine s_dget ?_); (with_reducible refine' s_var ?q88 ?q89); (case q88 => exact rfl); (with_reducible refine s_c ?_); (with_reducible refine' ⟨ _ , _ , rfl , dgetS ?q90 ?q91 , ?q92 ⟩); (case q90 => assumption); (case q91 => refine' valS_neg ?q93 ?q94; (case q93 => decide +kernel); (case q94 => exact valS_pos)); refine' ⟨ _ , rfl , ⟨ _ , ?q95 ⟩ , ?q96 ⟩; (case q95 => refine' SqL.of ( Own.h ?q99 ); (case q99 => refine' Own.ext ( by assumption ) ?q100 ?q101; (case q100 => exact fun h => h); (case q101 => assumption))))
    refine forW (ww_list (xs := ss)) (fun i σ u => Ext Non v6 u ∧ ∃ g2, σ = [some (.ref x), some (.ref y), g2, some (.ref D), none]) ⟨Ext.refl _ _, _, rfl⟩ (fun i σ u _ hh => SqL.of (os.ext (f6.trans hh.1) fun z => z).h) ?_ ?_
    · rintro i x1 σ _ u hi ⟨eu, g2, rfl⟩ ⟨rfl, hx⟩
      obtain ⟨d, hd1, hd2⟩ := rs.get hx
      rw [List.getElem?_map] at hd1
      obtain ⟨e, he, rfl⟩ := Option.map_eq_some_iff.mp hd1
      have hem := List.mem_of_getElem? he
      have fu := f6.trans eu
      obtain ⟨q, rfl, st⟩ := spec_inv (hd2.go fu)
      have hLu := hL.go0 fu
      have oxu := ox.ext fu fun z => z
      have hge : getT L.E e.n = some e := by rw [lk.e]; exact ens_get lk.sn hem
      ((with_reducible refine' s_gname ?q102 ?q103); (case q102 => simp only [ List.set_cons_succ , List.set_cons_zero ]; exact rfl); (with_reducible refine s_ifS ?_); (with_reducible refine s_not ?_); (with_reducible refine s_B ?_); (with_reducible refine s_call ?_); (with_reducible refine s_cons ?_); (with_reducible refine s_methX ?_); (with_reducible refine' s_var ?q104 ?q105); (case q104 => exact rfl); (with_reducible refine' s_rmeth ?q106 ?q107 ?q108); (case q106 => refine' Own.h ?q111; (case q111 => assumption)); (case q107 => refine' lk_tl ?q112 ?q113; (case q112 => decide +kernel); (case q113 => refine' lk_tl ?q114 ?q115; (case q114 => decide +kernel); (case q115 => refine' lk_tl ?q116 ?q117; (case q116 => decide +kernel); (case q117 => exact lk_nil)))); (with_reducible refine s_cons ?_); (with_reducible refine s_op ?_); (with_reducible refine' s_var ?q118 ?q119); (case q118 => exact rfl); (with_reducible refine s_c ?_); (with_reducible refine' s_ixT ?q120 ?q121 ?q122); (case q120 => assumption); (case q121 => exact rfl); (with_reducible refine s_nil ?_); (with_reducible refine s_pm2 ?_))
      refine ⟨L, cs, .str e.n, hLu, .str _, fun z' e' hz' he' => ?_, fun h => by have := h e.n rfl; rw [hge] at this; cases this⟩
      cases hz'
      rw [hge] at he'
      cases he'
      refine ⟨fun hp => by rw [lk.t]; exact ((lk.ok e hem).pl hp).2.1, fun v7 r7 vs7 out7 e7 n7 o7 ra7 ⟨sp7, _, in7⟩ => ?_⟩
      have f7 := fu.trans e7
      have oy7 := oy.ext f7 fun z => z
      have st7 := st_go e7 st
      ((with_reducible refine s_cons ?_); (with_reducible refine s_call ?_); (with_reducible refine s_cons ?_); (with_reducible refine' s_var ?q123 ?q124); (case q123 => exact rfl); (with_reducible refine s_cons ?_); (with_reducible refine s_dget ?_); (with_reducible refine' s_var ?q125 ?q126); (case q125 => exact rfl); (with_reducible refine s_c ?_); (with_reducible refine' ⟨ _ , _ , rfl , dgetS ?q127 ?q128 , ?q129 ⟩); (case q127 => assumption); (case q128 => exact valS_pos); (with_reducible refine s_nil ?_); (with_reducible refine s_pr2 ?_))
      refine ⟨e, M.T, (hd2.go f7), lk.ok e hem, ⟨t, kt, rfl, .inr (ot.ext f7 fun z => z), TbL.go f7 tt⟩, fun v8 r8 vs8 out8 e8 n8 o8 ra8 ⟨sp8, in8⟩ => ?_⟩
      have hRR : out7 = out8 := canon sp7 sp8 fun n => (in7 n).trans (by rw [lk.t]; exact (in8 n).symm)
      subst hRR
      ((with_reducible refine s_nil ?_); (with_reducible refine s_pr2 ?_))
      refine ⟨out7.map prU, ⟨r7, vs7, rfl, .inr (o7.ext e8 fun z => z), by rw [prU_map]; exact ra7.go e8⟩, ⟨r8, vs8, rfl, .inr o8, by rw [prU_map]; exact ra8⟩, by rw [prU_map]; exact shaped_spD out7, prU_flat _, fun v9 e9 => ?_⟩
      ((with_reducible refine s_bl ?_); (with_reducible refine ite_nt ?_); (with_reducible refine s_next ?_); (with_reducible refine wds_i ?_))
      exact ⟨eu.trans (e7.trans (e8.trans e9)), _, rfl⟩
    · rintro σ u ⟨eu, g2, rfl⟩
      have fu := f6.trans eu
      have oyu := oy.ext fu fun z => z
      ((with_reducible refine s_seq ?_); (with_reducible refine s_for ?_); (with_reducible refine s_iList ?_); (with_reducible refine s_dget ?_); (with_reducible refine' s_var ?q133 ?q134); (case q133 => exact rfl); (with_reducible refine s_c ?_); (with_reducible refine' ⟨ _ , _ , rfl , dgetS ?q135 ?q136 , ?q137 ⟩); (case q135 => assumption); (case q136 => refine' valS_neg ?q138 ?q139; (case q138 => decide +kernel); (case q139 => refine' valS_neg ?q140 ?q141; (case q140 => decide +kernel); (case q141 => refine' valS_neg ?q142 ?q143; (case q142 => decide +kernel); (case q143 => exact valS_pos)))); refine' ⟨ _ , rfl , ⟨ _ , ?q144 ⟩ , ?q145 ⟩; (case q144 => refine' SqL.of ( Own.h ?q148 ); (case q148 => refine' Own.ext ( by assumption ) ?q149 ?q150; (case q149 => exact fun h => h); (case q150 => assumption))))
      refine forW (ww_list (xs := M.G.map V.str)) (fun i σ v => Ext Non u v ∧ ∃ g4, σ = [some (.ref x), some (.ref y), g2, some (.ref D), g4]) ⟨Ext.refl _ _, _, rfl⟩ (fun i σ v _ hh => SqL.of (og.ext (fu.trans hh.1) fun z => z).h) ?_ ?_
      · rintro i x1 σ _ v hi ⟨ev, g4, rfl⟩ ⟨rfl, hx⟩
        rw [List.getElem?_map] at hx
        obtain ⟨z, hzi, rfl⟩ := Option.map_eq_some_iff.mp hx
        have fv := fu.trans ev
        have hLv := hL.go0 fv
        have oDv : Own v D _ := (oD6.ext eu fun z => z).ext ev fun z => z
        ((with_reducible refine' s_gname ?q151 ?q152); (case q151 => simp only [ List.set_cons_succ , List.set_cons_zero ]; exact rfl); (with_reducible refine s_ifS ?_); (with_reducible refine s_and ?_); (with_reducible refine s_test ?_); (with_reducible refine s_op ?_); (with_reducible refine' s_var ?q153 ?q154); (case q153 => exact rfl); (with_reducible refine' s_var ?q155 ?q156); (case q155 => exact rfl); (with_reducible refine' s_ninLs ?q157 ?q158); (case q157 => refine' SqL.of ( Own.h ?q161 ); (case q161 => assumption)); (with_reducible refine s_bl ?_))
        by_cases hm : z ∈ M.S.map (·.n)
        · rw [decide_eq_true hm]
          ((with_reducible refine ite_nt ?_); (with_reducible refine ite_ff ?_); (with_reducible refine s_next ?_); (with_reducible refine wds_i ?_))
          exact ⟨ev, _, rfl⟩
        · rw [decide_eq_false hm]
          ((with_reducible refine ite_nf ?_); (with_reducible refine s_not ?_); (with_reducible refine s_B ?_); (with_reducible refine s_call ?_); (with_reducible refine s_cons ?_); (with_reducible refine' s_var ?q171 ?q172); (case q171 => exact rfl); (with_reducible refine s_cons ?_); (with_reducible refine' s_var ?q173 ?q174); (case q173 => exact rfl); (with_reducible refine s_nil ?_); (with_reducible refine s_pr2 ?_))
          refine ⟨L, cs, z, hLv, rfl, by rw [lk.e]; exact ens_none.mpr hm, fun v2 e2 => ?_⟩
          ((with_reducible refine s_bl ?_); (with_reducible refine ite_nt ?_); (with_reducible refine s_next ?_); (with_reducible refine wds_i ?_))
          exact ⟨ev.trans e2, _, rfl⟩
      · rintro σ v ⟨ev, g4, rfl⟩
        ((with_reducible refine s_ret ?_); (with_reducible refine s_c ?_))
        exact k v (fu.trans ev)
abbrev nm_l_bound : List Str := ["_law_log", "_law_kept", "_law_state", "_law_names_here", "_law_later", "_law_earlier", "_law_minutes", "_law_spec_here"]
theorem sc_l_bound : FnScope nm_l_bound ["_law_log", "_law_kept", "_law_state"] (defScope s_l_bound) := ⟨rfl, rfl, rfl, by decide +kernel, rfl, by decide +kernel, by decide +kernel⟩
theorem st_l_bound (a b c : V) : start nm_l_bound [a, b, c] = [some a, some b, some c, none, none, none, none, none] := rfl
def p_l_bound (K : PySem.W.Frag) (ec : EC) (CL CT : Addr) (w : Wd) (a b c : V) (Q : VK) (_ : XK) : Prop := ∃ zs, Deed K ec CL CT zs (fun _ => True) w a b c Q
theorem ok_l_bound {f : Addr} {fd : FuncData} {C_Entry C_Within C_At C_Between C_Table C_Read C_Log C_LogError C_NoEntry C_NoMoment C_NoName C_NoPlace C_NoReading : Addr} (F : Fun K "_law_bound" "_law_bound" s_l_bound f fd) (T : Txt K mg C_Entry C_Within C_At C_Between C_Table C_Read C_Log C_LogError C_NoEntry C_NoMoment C_NoName C_NoPlace C_NoReading) (c_Log_bind : Mth P ww K mg base (L2.CX P ww) C_Log 4 "bind" (pr4 (p_Log_bind K (EC.mk C_Entry C_Within C_At C_Between C_Read C_Entry C_Entry) C_Log C_Table C_NoEntry))) (c_l_pull : Fnc P ww K mg base CX0 2 "_law_pull" (pr2 (p_l_pull))) : FnOk P ww K mg base CX0 5 f fd ["_law_log", "_law_kept", "_law_state"] (pr3 (p_l_bound K (EC.mk C_Entry C_Within C_At C_Between C_Read C_Entry C_Entry) C_Log C_Table)) := by
  refine F.ok sc_l_bound (fun vs H Q E h => len3 h) (fun cdv A outer s H vs Q E hr h => ?_)
  obtain ⟨w, x0, x1, x2,  rfl, rfl, h⟩ := h
  have ekT := ek_T T
  have cl_Table := T.cl_Table
  have na_Table_kept_rows := T.na_Table_kept_rows
  have cl_Log := T.cl_Log
  have na_Log_bound := T.na_Log_bound
  have na_Log_clocks := T.na_Log_clocks
  have na_Log_line := T.na_Log_line
  have na_Log_name := T.na_Log_name
  have oex_NoEntry := T.oex_NoEntry; have xf_NoEntry := T.xf_NoEntry; have ec_NoEntry := T.ec_NoEntry; have xn_NoEntry := T.xn_NoEntry
  have oex_NoMoment := T.oex_NoMoment; have xf_NoMoment := T.xf_NoMoment; have ec_NoMoment := T.ec_NoMoment; have xn_NoMoment := T.xn_NoMoment
  have oex_NoName := T.oex_NoName; have xf_NoName := T.xf_NoName; have ec_NoName := T.ec_NoName; have xn_NoName := T.xn_NoName
  have oex_NoPlace := T.oex_NoPlace; have xf_NoPlace := T.xf_NoPlace; have ec_NoPlace := T.ec_NoPlace; have xn_NoPlace := T.xn_NoPlace
  have oex_NoReading := T.oex_NoReading; have xf_NoReading := T.xf_NoReading; have ec_NoReading := T.ec_NoReading; have xn_NoReading := T.xn_NoReading
  have rel_NoEntry_NoEntry := T.rel_NoEntry_NoEntry
  have exm_NoEntry_NoEntry := T.exm_NoEntry_NoEntry
  refine ⟨_, (pss_cons (ps_setLc (i := 3) (own := [("_law_spec_here", 7)]) (g := (gName 7)) (tt := tYes) (by rfl) sc_l_bound.nd rfl rfl (sw_true rfl rfl rfl (by decide +kernel)) (kpList K (pe_dget (hu_of hr) (pv 1) pe_str (fun _ _ => rfl))) (blkOk_by (own := [("_law_spec_here", 7)]) (N := nm_l_bound) (sc := defScope s_l_bound) (by decide +kernel)) (fun _ _ _ _ _ => (pg_name (i := 7) sc_l_bound.nd rfl (Or.inl rfl))) (fun _ _ _ _ _ => pts_nil) (fun _ _ _ _ _ => (pe_ix (kIx K) (pv 7) pe_int (fun _ _ => rfl))))
      (pss_cons (ps_if (PW.pt (pw_or (pt_cmpR (kEq K hr.units) (pv 3) (pe_lst pa_nil) (nomark _)) (pw_or1 (pt_cmpR g_ge (pe_callB (kLen K) (by rfl) T.n_len (by decide +kernel) (pa_cons (pe_dget (hu_of hr) (pv 1) pe_str (fun _ _ => rfl)) pa_nil)) pe_int (nomark _))))) (pss_one ps_retN) pss_nil)
      (pss_cons (ps_set (i := 4) sc_l_bound.nd rfl (Or.inl rfl) (pe_ix (kIx K) (pv 3) (pe_fn c_l_pull hr (by decide) pass0 (pa_cons (pv 2) (pa_cons (pe_callB (kLen K) (by rfl) T.n_len (by decide +kernel) (pa_cons (pv 3) pa_nil)) pa_nil))) (fun _ _ => rfl)))
      (pss_cons (ps_set (i := 5) sc_l_bound.nd rfl (Or.inl rfl) (pe_ix (kIx K) (pv 3) (pe_fn c_l_pull hr (by decide) pass0 (pa_cons (pv 2) (pa_cons (pe_callB (kLen K) (by rfl) T.n_len (by decide +kernel) (pa_cons (pv 3) pa_nil)) pa_nil))) (fun _ _ => rfl)))
      (pss_cons (ps_set (i := 6) sc_l_bound.nd rfl (Or.inl rfl) (pe_ix (kIx K) (pe_lst (pa_cons (pe_op g_sub (pe_fn c_l_pull hr (by decide) pass0 (pa_cons (pv 2) (pa_cons pe_int pa_nil))) pe_int) (pa_cons (pe_op g_sub (pe_fn c_l_pull hr (by decide) pass0 (pa_cons (pv 2) (pa_cons (pe_op (kMul K) pe_int (pe_op g_pow pe_int pe_int)) pa_nil))) (pe_op g_pow pe_int pe_int)) pa_nil))) (pe_fn c_l_pull hr (by decide) pass0 (pa_cons (pv 2) (pa_cons pe_int pa_nil))) (fun _ _ => rfl)))
      (pss_cons (ps_expr (pe_mthX takes0 c_Log_bind T.cl_Log hr (by decide) (pv 0) (pa_cons (pv 4) (pa_cons (pv 5) (pa_cons (pv 6) pa_nil)))))
      (pss_one (ps_expr (pe_bm PySem.F.plainAttrs_list PySem.F.slot_list_append PySem.F.type_list_append mt_append (pe_dget (hu_of hr) (pv 1) pe_str (fun _ _ => rfl)) (pa_cons (pe_tup (pa_cons (pv 4) (pa_cons (pv 5) (pa_cons (pv 6) pa_nil)))) pa_nil)))))))))), ?_⟩
  rw [st_l_bound]
  obtain ⟨zs, L, M, gn, cs, ds, p, hz, hgn, _, P, rfl, pu, np1, np2, k⟩ := h
  have pu : Stt w p := pu
  obtain ⟨x, dx, c, l, b, kc, kl, bs, rfl, ox, _⟩ := id P.l
  obtain ⟨y, t, s, bb, g, kt, ss, bbs, rfl, oy, ot, tt, os, rs, obb, rbb, og, d1, d2, d3, d4, hc⟩ := id P.k
  have hsl := P.lk.sl hz
  ((with_reducible refine s_seq ?_); (with_reducible refine s_asg ?_); (with_reducible refine s_Lc ?_); (with_reducible refine s_iList ?_); (with_reducible refine s_dget ?_); (with_reducible refine' s_var ?q0 ?q1); (case q0 => exact rfl); (with_reducible refine s_c ?_); (with_reducible refine' ⟨ _ , _ , rfl , dgetS ?q2 ?q3 , ?q4 ⟩); (case q2 => assumption); (case q3 => refine' valS_neg ?q5 ?q6; (case q5 => decide +kernel); (case q6 => exact valS_pos)); refine' ⟨ _ , rfl , ⟨ _ , ?q7 ⟩ , ?q8 ⟩; (case q7 => refine' SqL.of ( Own.h ?q10 ); (case q10 => assumption)))
  intro D hD
  refine lc_names (.inr os) rs hD (by omega) (fun _ => rfl) (fun _ => rfl) fun u1 e1 oD => ?_
  ((with_reducible refine' s_gname ?q11 ?q12); (case q11 => simp only [ List.set_cons_succ , List.set_cons_zero ]; exact rfl); (with_reducible refine s_seq ?_); (with_reducible refine s_ifS ?_); (with_reducible refine s_or ?_); (with_reducible refine s_test ?_); (with_reducible refine s_op ?_); (with_reducible refine' s_var ?q13 ?q14); (case q13 => exact rfl); (with_reducible refine t_lst ?_); (with_reducible refine s_nil ?_); (with_reducible refine' t_newLS ?q15 ?q16); (case q15 => simp only [ List.length , sizeLine_eq ]; omega); intro _ _ _ _ _)
  rename_i l2 v2 e2 n2 s2
  have hok : ∀ z ∈ M.S.map (·.n), PyData.strOk z = true := fun z hh => by
    obtain ⟨e, he, rfl⟩ := List.mem_map.mp hh
    exact ((P.lk.ok e he).n.tx).ok
  refine s_eqNs (shaped_strs hok) (.inr (oD.ext e2 fun z => z)) (rpa_strs _) s2 ?_
  have f2 := e1.trans e2
  have hDp : D ≠ p := stt_new hD pu
  have hyp : y ≠ p := fun h => np2 (h ▸ (hc y).mpr (.inl rfl))
  have hbp : bb ≠ p := fun h => np2 (h ▸ (hc bb).mpr (.inr (.inr (.inr (.inl rfl)))))
  have hxp : x ≠ p := fun h => np1 (h ▸ (by obtain ⟨_, _, _, _, _, _, _, _, hx, _, _, _, _, _, _, _, _, hcs⟩ := P.l; cases hx; exact (hcs x).mpr (.inl rfl)))
  have stay : ∀ v, Ext (Tch cs ds p) w v → Ext (One p) w v → Stt v p → Q .non v.H := fun v e e' pv => k v L M cs ds e ((P.one e' np1 np2).mono (Nat.le_succ _)) pv (fun _ h => .inl h) fun _ h => .inl h
  have hlb := rbb.length
  rw [List.length_map] at hlb
  have oD2 : Own v2 D _ := oD.ext e2 fun z => z
  have oy2 := oy.ext f2 fun z => z
  have obb2 := obb.ext f2 fun z => z
  have ox2 := ox.ext f2 fun z => z
  have pu2 : Stt v2 p := pu.go f2 fun z => z
  have hnl : ((M.S.map (·.n)).map V.str).length = M.S.length := by rw [List.length_map, List.length_map]
  clear e1 e2 s2 n2 oD pu
  by_cases he : M.S = []
  · rw [show (List.map PyData.str (M.S.map (·.n))).isEmpty = true by rw [he]; rfl]
    ((with_reducible refine s_bl ?_); (with_reducible refine ite_tt ?_); (with_reducible refine ite_tt ?_); (with_reducible refine s_retN ?_))
    exact stay v2 (f2.more fun _ z => z.elim) (f2.more fun _ z => z.elim) pu2
  have hpos : 0 < M.S.length := List.length_pos_iff.mpr he
  rw [show (List.map PyData.str (M.S.map (·.n))).isEmpty = false by cases h : M.S with
    | nil => exact absurd h he
    | cons _ _ => rfl]
  ((with_reducible refine s_bl ?_); (with_reducible refine ite_ff ?_); (with_reducible refine s_test ?_); (with_reducible refine s_op ?_); (with_reducible refine s_CB ?_); (with_reducible refine s_cons ?_); (with_reducible refine s_dget ?_); (with_reducible refine' s_var ?q20 ?q21); (case q20 => exact rfl); (with_reducible refine s_c ?_); (with_reducible refine' ⟨ _ , _ , rfl , dgetS ?q22 ?q23 , ?q24 ⟩); (case q22 => assumption); (case q23 => refine' valS_neg ?q25 ?q26; (case q25 => decide +kernel); (case q26 => refine' valS_neg ?q27 ?q28; (case q27 => decide +kernel); (case q28 => exact valS_pos))); (with_reducible refine s_nil ?_); (with_reducible refine' s_lenO ?q35 ?q36); (case q35 => assumption); (with_reducible refine s_c ?_); (with_reducible refine s_ge ?_); (with_reducible refine s_bl ?_))
  refine ite_d (fun hb => ?_) (fun hb => ?_)
  · ((with_reducible refine s_retN ?_))
    exact stay v2 (f2.more fun _ z => z.elim) (f2.more fun _ z => z.elim) pu2
  wtm_at "gs"
  ((with_reducible refine' s_ixOm ?q86 ?q87 ?q88 ?q89); (case q86 => refine' Own.ext ( by assumption ) ?q90 ?q91; (case q90 => refine nm_one ?_; refine' stt_new ?q92 ?q93; (case q92 => assumption); (case q93 => assumption)); (case q91 => assumption)); (case q87 => omega); (case q88 => omega))
  intro z1 _ hz1
  obtain ⟨q1, hq1, rfl⟩ := List.mem_map.mp hz1
  wtm_at "gs"
  ((with_reducible refine' s_ixOm ?q165 ?q166 ?q167 ?q168); (case q165 => refine' Own.ext ( by assumption ) ?q169 ?q170; (case q169 => refine nm_one ?_; refine' stt_new ?q171 ?q172; (case q171 => assumption); (case q172 => assumption)); (case q170 => refine' Own.ext ( by assumption ) ?q173 ?q174; (case q173 => refine nm_one ?_; refine' stt_new ?q175 ?q176; (case q175 => assumption); (case q176 => assumption)); (case q174 => assumption))); (case q166 => omega); (case q167 => omega))
  intro z2 _ hz2
  obtain ⟨q2, hq2, rfl⟩ := List.mem_map.mp hz2
  wtm_at "gs"
  rename_i v3 j3 e3 pu3 h30 h31 g1 v4 j4 e4 pu4 h40 h41 g2 v5 j5 e5 pu5 h50 h51 v6 j6 e6 pu6 h60 h61 l7 v7 e7 n7 s7 v8 j8 e8 pu8 h80 h81
  have ew8 : Ext (One p) w v8 := (f2.more fun _ z => z.elim).trans (by (refine' Ext.step ?q302 ?q303 ?q304; (case q303 => assumption); (case q302 => refine' Ext.step ?q305 ?q306 ?q307; (case q306 => assumption); (case q305 => refine' Ext.step ?q308 ?q309 ?q310; (case q309 => assumption); (case q308 => refine' Ext.step ?q311 ?q312 ?q313; (case q312 => assumption); (case q311 => refine' Ext.step ?q314 ?q315 ?q316; (case q315 => assumption); (case q314 => assumption); (case q316 => refine tch_one ?q317; refine Or.inr ?_; rfl)); (case q313 => refine tch_one ?q318; refine Or.inr ?_; rfl)); (case q310 => refine tch_one ?q319; refine Or.inr ?_; rfl)); (case q307 => exact fun _ z => z.elim)); (case q304 => refine tch_one ?q320; refine Or.inr ?_; rfl)))
  have s78 := st_go e8 s7
  have P8 := P.one ew8 np1 np2
  have ox8 := ox.ext ew8 hxp
  have nb : ∀ z, ds z → ¬ (cs z ∨ z = p) := fun z hz h => h.elim (fun h => P.dj z h hz) fun h => np2 (h ▸ hz)
  clear e3 e4 e5 e6 e7 e8 pu3 pu4 pu5 pu6 n7 s7 pu2 oD2 oy2 obb2 ox2 f2 stay hz1 hz2 g1 g2
  refine s_ixSm s78 h80 (by simp; omega) ?_
  intro mv _ hm
  simp only [List.mem_cons, List.not_mem_nil, or_false] at hm
  obtain ⟨m, rfl, hm0, hm1⟩ : ∃ n : Int, mv = .int n ∧ -1000000000 ≤ n ∧ n ≤ 1000000000 := by rcases hm with rfl | rfl <;> exact ⟨_, rfl, by omega, by omega⟩
  clear hm
  have gt : ∀ z ∈ M.S.map (·.n), ∃ e, getT L.E z = some e := fun z hz => getT_mem (by rw [P.lk.e, ens_names]; exact hz)
  have nmo : ∀ z ∈ M.S.map (·.n), NmOk z := fun z hz => by
    obtain ⟨e, he, rfl⟩ := List.mem_map.mp hz
    exact (P.lk.ok e he).n
  have hbl : M.B.length < 100 := by omega
  ((with_reducible refine' s_gname ?q321 ?q322); (case q321 => simp only [ List.set_cons_succ , List.set_cons_zero ]; exact rfl); (with_reducible refine s_seq ?_); (with_reducible refine s_drop ?_); (with_reducible refine s_methX ?_); (with_reducible refine' s_var ?q323 ?q324); (case q323 => exact rfl); (with_reducible refine' s_rmeth ?q325 ?q326 ?q327); (case q325 => refine' Own.h ?q330; (case q330 => assumption)); (case q326 => refine' lk_tl ?q331 ?q332; (case q331 => decide +kernel); (case q332 => refine' lk_tl ?q333 ?q334; (case q333 => decide +kernel); (case q334 => refine' lk_tl ?q335 ?q336; (case q335 => decide +kernel); (case q336 => exact lk_nil)))); (with_reducible refine s_cons ?_); (with_reducible refine' s_var ?q337 ?q338); (case q337 => exact rfl); (with_reducible refine s_cons ?_); (with_reducible refine' s_var ?q339 ?q340); (case q339 => exact rfl); (with_reducible refine s_cons ?_); (with_reducible refine' s_var ?q341 ?q342); (case q341 => exact rfl); (with_reducible refine s_nil ?_); (with_reducible refine s_pm4 ?_))
  refine ⟨L, cs, q1, q2, m, P8.l, rfl, rfl, rfl, fun h => absurd h (by obtain ⟨e, h⟩ := gt q1 hq1; rw [h]; exact fun z => by cases z), fun _ => ⟨gt q2 hq2, by omega, by omega, by rw [P.lk.b]; exact hbl, fun v9 e9 hL9 => ?_⟩⟩
  have ew9 : Ext (fun z => cs z ∨ z = p) w v9 := (ew8.more fun _ z => .inr (.inr z)).trans (e9.more fun _ z => .inr (.inl z))
  have oy9 := oy.ext ew9 (nb y ((hc y).mpr (.inl rfl)))
  have ot9 := ot.ext ew9 (nb t ((hc t).mpr (.inr (.inl rfl))))
  have os9 := os.ext ew9 (nb s ((hc s).mpr (.inr (.inr (.inl rfl)))))
  have ob9 := obb.ext ew9 (nb bb ((hc bb).mpr (.inr (.inr (.inr (.inl rfl))))))
  have og9 := og.ext ew9 (nb g ((hc g).mpr (.inr (.inr (.inr (.inr rfl))))))
  have pu9 : Stt v9 p := pu8.go e9 np1
  ((with_reducible refine s_drop ?_); (with_reducible refine s_BM ?_); (with_reducible refine s_dget ?_); (with_reducible refine' s_var ?q343 ?q344); (case q343 => exact rfl); (with_reducible refine s_c ?_); (with_reducible refine' ⟨ _ , _ , rfl , dgetS ?q345 ?q346 , ?q347 ⟩); (case q345 => assumption); (case q346 => refine' valS_neg ?q348 ?q349; (case q348 => decide +kernel); (case q349 => refine' valS_neg ?q350 ?q351; (case q350 => decide +kernel); (case q351 => exact valS_pos))); (with_reducible refine' s_ty ?q352 ?q353); (case q352 => assumption); (with_reducible refine s_cons ?_); (with_reducible refine t_tup ?_); (with_reducible refine s_cons ?_); (with_reducible refine' s_var ?q354 ?q355); (case q354 => exact rfl); (with_reducible refine s_cons ?_); (with_reducible refine' s_var ?q356 ?q357); (case q356 => exact rfl); (with_reducible refine s_cons ?_); (with_reducible refine' s_var ?q358 ?q359); (case q358 => exact rfl); (with_reducible refine s_nil ?_); (with_reducible refine' t_newT ?q360 ?q361); (case q360 => simp only [ List.length , sizeLine_eq ]; omega); intro _ _ _ _ _; (with_reducible refine s_nil ?_); (with_reducible refine' s_app ?q362 ?q363 ?q364); (case q362 => refine' Own.ext ( by assumption ) ?q365 ?q366; (case q365 => exact fun h => h); (case q366 => assumption)); (case q363 => simp only [ List.length_append , List.length_cons , List.length_nil , List.length_map , List.length_reverse , List.length_replicate , sizeLine_eq ]; omega); intro _ _ _)
  rename_i p10 v10 e10 n10 s10 v11 e11 o11
  have e911 : Ext (One bb) v9 v11 := (e10.more fun _ z => z.elim).trans e11
  have htb : t ≠ bb := own_ne ot obb (fun z => by cases z)
  have hyb : y ≠ bb := own_ne oy obb (fun z => by cases z)
  have hLb : ∀ z, cs z → z ≠ bb := fun z hz h => P.dj z hz (h ▸ (hc bb).mpr (.inr (.inr (.inr (.inl rfl)))))
  have ew11 : Ext (Tch cs ds p) w v11 := (ew9.more fun z h => .inr (h.elim .inl fun h => .inr (.inr h))).trans (e911.more fun z h => .inr (.inr (.inl (by rw [show z = bb from h]; exact (hc bb).mpr (.inr (.inr (.inr (.inl rfl))))))))
  refine k v11 { L with B := L.B ++ [(q1, q2, m)] } { M with B := M.B ++ [(q1, q2, m)] } cs ds ew11 ⟨hL9.go e911 fun z hz h => hLb z hz h, ⟨y, t, s, bb, g, kt, ss, bbs ++ [.ref p10], rfl, oy9.ext e911 hyb, ot9.ext e911 htb, TbL.go ew11 tt, os9.ext e911 d2, rs.go ew11, o11, ?_, og9.ext e911 (fun h => d4 h.symm), d1, d2, d3, d4, hc⟩, (P.lk.bind hbl (nmo q1 hq1) (nmo q2 hq2)).mono (Nat.le_succ _), P.dj⟩ (pu9.go e911 fun h => hbp (show p = bb from h).symm) (fun _ h => .inl h) fun _ h => .inl h
  show RpA v11.S (bbs ++ [.ref p10]) ((M.B ++ [(q1, q2, m)]).map bondD)
  rw [List.map_append]
  exact (rbb.go ew11).append (.cons (.tup (st_go e11 s10) (.cons (.str _) (.cons (.str _) (.cons (.int _) .nil)))) .nil)
abbrev nm_l_dropped : List Str := ["_law_log", "_law_kept", "_law_state", "_law_spec_here", "_law_bond"]
theorem sc_l_dropped : FnScope nm_l_dropped ["_law_log", "_law_kept", "_law_state"] (defScope s_l_dropped) := ⟨rfl, rfl, rfl, by decide +kernel, rfl, by decide +kernel, by decide +kernel⟩
theorem st_l_dropped (a b c : V) : start nm_l_dropped [a, b, c] = [some a, some b, some c, none, none] := rfl
def p_l_dropped (K : PySem.W.Frag) (ec : EC) (CL CT : Addr) (w : Wd) (a b c : V) (Q : VK) (_ : XK) : Prop := ∃ zs, Deed K ec CL CT zs (fun _ => True) w a b c Q
theorem ok_l_dropped {f : Addr} {fd : FuncData} {C_Entry C_Within C_At C_Between C_Table C_Read C_Log C_LogError C_NoEntry C_NoMoment C_NoName C_NoPlace C_NoReading : Addr} (F : Fun K "_law_dropped" "_law_dropped" s_l_dropped f fd) (T : Txt K mg C_Entry C_Within C_At C_Between C_Table C_Read C_Log C_LogError C_NoEntry C_NoMoment C_NoName C_NoPlace C_NoReading) (c_Log_drop : Mth P ww K mg base CX0 C_Log 4 "drop" (pr2 (p_Log_drop K (EC.mk C_Entry C_Within C_At C_Between C_Read C_Entry C_Entry) C_Log C_Table C_NoEntry))) (c_l_pull : Fnc P ww K mg base CX0 2 "_law_pull" (pr2 (p_l_pull))) : FnOk P ww K mg base CX0 5 f fd ["_law_log", "_law_kept", "_law_state"] (pr3 (p_l_dropped K (EC.mk C_Entry C_Within C_At C_Between C_Read C_Entry C_Entry) C_Log C_Table)) := by
  refine F.ok sc_l_dropped (fun vs H Q E h => len3 h) (fun cdv A outer s H vs Q E hr h => ?_)
  obtain ⟨w, x0, x1, x2,  rfl, rfl, h⟩ := h
  have ekT := ek_T T
  have cl_Table := T.cl_Table
  have na_Table_kept_rows := T.na_Table_kept_rows
  have cl_Log := T.cl_Log
  have na_Log_bound := T.na_Log_bound
  have na_Log_clocks := T.na_Log_clocks
  have na_Log_line := T.na_Log_line
  have na_Log_name := T.na_Log_name
  have oex_NoEntry := T.oex_NoEntry; have xf_NoEntry := T.xf_NoEntry; have ec_NoEntry := T.ec_NoEntry; have xn_NoEntry := T.xn_NoEntry
  have oex_NoMoment := T.oex_NoMoment; have xf_NoMoment := T.xf_NoMoment; have ec_NoMoment := T.ec_NoMoment; have xn_NoMoment := T.xn_NoMoment
  have oex_NoName := T.oex_NoName; have xf_NoName := T.xf_NoName; have ec_NoName := T.ec_NoName; have xn_NoName := T.xn_NoName
  have oex_NoPlace := T.oex_NoPlace; have xf_NoPlace := T.xf_NoPlace; have ec_NoPlace := T.ec_NoPlace; have xn_NoPlace := T.xn_NoPlace
  have oex_NoReading := T.oex_NoReading; have xf_NoReading := T.xf_NoReading; have ec_NoReading := T.ec_NoReading; have xn_NoReading := T.xn_NoReading
  have rel_NoEntry_NoEntry := T.rel_NoEntry_NoEntry
  have exm_NoEntry_NoEntry := T.exm_NoEntry_NoEntry
  refine ⟨_, (pss_cons (ps_if (pt_cmpR (kEq K hr.units) (pe_dget (hu_of hr) (pv 1) pe_str (fun _ _ => rfl)) (pe_lst pa_nil) (nomark _)) (pss_one ps_retN) pss_nil)
      (pss_cons (ps_set (i := 3) sc_l_dropped.nd rfl (Or.inr rfl) (pe_bm PySem.F.plainAttrs_list PySem.F.slot_list_pop PySem.F.type_list_pop mt_popAt (pe_dget (hu_of hr) (pv 1) pe_str (fun _ _ => rfl)) (pa_cons (pe_fn c_l_pull hr (by decide) pass0 (pa_cons (pv 2) (pa_cons (pe_callB (kLen K) (by rfl) T.n_len (by decide +kernel) (pa_cons (pe_dget (hu_of hr) (pv 1) pe_str (fun _ _ => rfl)) pa_nil)) pa_nil))) pa_nil)))
      (pss_cons (ps_expr (pe_mth c_Log_drop T.cl_Log hr (by decide) pass0 (pv 0) (pa_cons (pe_ix (kIx K) (pv 3) pe_int (fun _ _ => rfl)) pa_nil)))
      (pss_cons (ps_expr (pe_bm PySem.F.plainAttrs_list PySem.F.slot_list_append PySem.F.type_list_append mt_append (pe_dget (hu_of hr) (pv 1) pe_str (fun _ _ => rfl)) (pa_cons (pe_ix (kIx K) (pv 3) pe_int (fun _ _ => rfl)) pa_nil)))
      (pss_one (ps_dput (hu_of hr) (pv 1) pe_str (pe_lc (own := [("_law_bond", 4)]) (g := (gName 4)) (tt := _) (by rfl) sc_l_dropped.nd (kpList K (pe_dget (hu_of hr) (pv 1) pe_str (fun _ _ => rfl))) (blkOk_by (own := [("_law_bond", 4)]) (N := nm_l_dropped) (sc := defScope s_l_dropped) (by decide +kernel)) (fun _ _ _ _ _ => (pg_name (i := 4) sc_l_dropped.nd rfl (Or.inl rfl))) (fun _ _ _ _ _ => (pts_one (pt_cmpR (kNotIn K) (pe_ix (kIx K) (pv 3) pe_int (fun _ _ => rfl)) (pe_tup (pa_cons (pe_ix (kIx K) (pv 4) pe_int (fun _ _ => rfl)) (pa_cons (pe_ix (kIx K) (pv 4) pe_int (fun _ _ => rfl)) pa_nil))) (by rfl)))) (fun _ _ _ _ _ => (pv 4))) rfl)))))), ?_⟩
  rw [st_l_dropped]
  obtain ⟨zs, L, M, gn, cs, ds, p, hz, hgn, _, P, rfl, pu, np1, np2, k⟩ := h
  have pu : Stt w p := pu
  obtain ⟨x, dx, c, l, b, kc, kl, bs, rfl, ox, _⟩ := id P.l
  obtain ⟨y, t, s, bb, g, kt, ss, bbs, rfl, oy, ot, tt, os, rs, obb, rbb, og, d1, d2, d3, d4, hc⟩ := id P.k
  have hsl := P.lk.sl hz
  have lss := rs.length
  rw [List.length_map] at lss
  have hyp : y ≠ p := fun h => np2 (h ▸ (hc y).mpr (.inl rfl))
  have hsp : s ≠ p := fun h => np2 (h ▸ (hc s).mpr (.inr (.inr (.inl rfl))))
  have hxp : x ≠ p := fun h => np1 (h ▸ (by obtain ⟨_, _, _, _, _, _, _, _, hx, _, _, _, _, _, _, _, _, hcs⟩ := P.l; cases hx; exact (hcs x).mpr (.inl rfl)))
  ((with_reducible refine s_seq ?_); (with_reducible refine s_ifS ?_); (with_reducible refine s_test ?_); (with_reducible refine s_op ?_); (with_reducible refine s_dget ?_); (with_reducible refine' s_var ?q0 ?q1); (case q0 => exact rfl); (with_reducible refine s_c ?_); (with_reducible refine' ⟨ _ , _ , rfl , dgetS ?q2 ?q3 , ?q4 ⟩); (case q2 => assumption); (case q3 => refine' valS_neg ?q5 ?q6; (case q5 => decide +kernel); (case q6 => exact valS_pos)); (with_reducible refine t_lst ?_); (with_reducible refine s_nil ?_); (with_reducible refine' t_newLS ?q7 ?q8); (case q7 => simp only [ List.length , sizeLine_eq ]; omega); intro _ _ _ _ _)
  rename_i l1 v1 e1 n1 s1
  refine s_eqNs P.lk.shS (.inr (os.ext e1 fun z => z)) (rs.go e1) s1 ?_
  have pu1 : Stt v1 p := pu.go e1 fun z => z
  have oy1 := oy.ext e1 fun z => z
  have os1 := os.ext e1 fun z => z
  by_cases he : M.S = []
  · rw [show (List.map specD M.S).isEmpty = true by rw [he]; rfl]
    ((with_reducible refine s_bl ?_); (with_reducible refine ite_tt ?_); (with_reducible refine s_retN ?_))
    exact k v1 L M cs ds (e1.more fun _ z => z.elim) ((P.go0 e1).mono (Nat.le_succ _)) pu1 (fun _ h => .inl h) fun _ h => .inl h
  have hpos : 0 < M.S.length := List.length_pos_iff.mpr he
  rw [show (List.map specD M.S).isEmpty = false by cases h : M.S with
    | nil => exact absurd h he
    | cons _ _ => rfl]
  clear n1 s1
  wtm_at "gs"
  rename_i v2 j2 e2 pu2 h20 h21
  obtain ⟨i, rfl⟩ := Int.eq_ofNat_of_zero_le h20
  have hi : i < ss.length := by omega
  obtain ⟨se, hse⟩ : ∃ se, M.S[i]? = some se := ⟨_, List.getElem?_eq_getElem (show i < M.S.length by omega)⟩
  obtain ⟨q, hq, hqe⟩ := rs.get' (i := i) (d := specD se) (by rw [List.getElem?_map, hse]; rfl)
  refine s_popA (os1.ext e2 hsp) hq (by omega) fun v3 e3 o3 => ?_
  obtain ⟨tq, rfl, sq⟩ := specn_inv hqe
  have ew3 : Ext (Two s p) w v3 := ((e1.more fun _ z => z.elim).trans (e2.more fun _ z => .inr (.inr z))).trans (e3.more fun _ z => .inr (.inl z))
  have cy := (hc y).mpr (.inl rfl)
  have ct := (hc t).mpr (.inr (.inl rfl))
  have cS := (hc s).mpr (.inr (.inr (.inl rfl)))
  have cb := (hc bb).mpr (.inr (.inr (.inr (.inl rfl))))
  have cg := (hc g).mpr (.inr (.inr (.inr (.inr rfl))))
  have hys : y ≠ s := own_ne oy os (fun z => by cases z)
  have hts : t ≠ s := own_ne ot os (fun z => by cases z)
  have hyb : y ≠ bb := own_ne oy obb (fun z => by cases z)
  have hyg : y ≠ g := own_ne oy og (fun z => by cases z)
  have htg : t ≠ g := own_ne ot og (fun z => by cases z)
  have hL3 := P.l.go ew3 fun z hz h => h.elim (fun h => P.dj z hz (h ▸ cS)) fun h => np1 (h ▸ hz)
  have oy3 : Own v3 y _ := (oy1.ext e2 hyp).ext e3 hys
  have ot3 := ot.ext ew3 fun h => h.elim hts fun h => np2 (h ▸ ct)
  have ob3 := obb.ext ew3 fun h => h.elim (fun h => d2 h.symm) fun h => np2 (h ▸ cb)
  have og3 := og.ext ew3 fun h => h.elim (fun h => d3 h.symm) fun h => np2 (h ▸ cg)
  have ox3 := ox.ext ew3 fun h => h.elim (fun h => P.dj x (by obtain ⟨_, _, _, _, _, _, _, _, hx, _, _, _, _, _, _, _, _, hcs⟩ := P.l; cases hx; exact (hcs x).mpr (.inl rfl)) (by rw [show x = s from h]; exact cS)) hxp
  have ex3 : ∀ z, ds z → v3.H z ≠ none := fun z hz => ew3.al z (by obtain ⟨o, ho⟩ := P.k.cell hz; rw [ho.h]; exact fun z => by cases z)
  have pu3 : Stt v3 p := pu2.go e3 fun h => hsp (show p = s from h).symm
  have s3 := st_go ew3 sq
  have hge : getT L.E se.n = some se := by rw [P.lk.e]; exact ens_get P.lk.sn (List.mem_of_getElem? hse)
  have hbl := P.lk.bl
  clear e1 e2 e3 pu1 pu2 oy1 os1 hqe hq
  ((with_reducible refine' s_gname ?q42 ?q43); (case q42 => simp only [ List.set_cons_succ , List.set_cons_zero ]; exact rfl); (with_reducible refine s_seq ?_); (with_reducible refine s_drop ?_); (with_reducible refine s_meth ?_); (with_reducible refine' s_var ?q44 ?q45); (case q44 => exact rfl); (with_reducible refine' s_rmeth ?q46 ?q47 ?q48); (case q46 => refine' Own.h ?q51; (case q51 => assumption)); (case q47 => refine' lk_tl ?q52 ?q53; (case q52 => decide +kernel); (case q53 => refine' lk_tl ?q54 ?q55; (case q54 => decide +kernel); (case q55 => refine' lk_tl ?q56 ?q57; (case q56 => decide +kernel); (case q57 => exact lk_nil)))); (with_reducible refine s_cons ?_); (with_reducible refine s_op ?_); (with_reducible refine' s_var ?q58 ?q59); (case q58 => exact rfl); (with_reducible refine s_c ?_); (with_reducible refine' s_ixT ?q60 ?q61 ?q62); (case q60 => assumption); (case q61 => exact rfl); (with_reducible refine s_nil ?_); (with_reducible refine s_pm2 ?_))
  refine ⟨L, cs, se.n, se, hL3, rfl, hge, by rw [P.lk.b]; omega, by rw [P.lk.e]; unfold ens; rw [List.length_map]; omega, fun v4 cs4 e4 hL4 hc4 => ?_⟩
  have no : ∀ z, ds z → ¬ cs z := fun z h1 h2 => P.dj z h2 h1
  have oy4 := oy3.ext e4 (no y cy)
  have ot4 := ot3.ext e4 (no t ct)
  have os4 := o3.ext e4 (no s cS)
  have ob4 := ob3.ext e4 (no bb cb)
  have og4 := og3.ext e4 (no g cg)
  have pu4 : Stt v4 p := pu3.go e4 np1
  have s4 := st_go e4 s3
  have hgl := P.lk.gl
  have hglm : (M.G.map V.str).length ≤ gn := by rw [List.length_map]; exact hgl
  clear oy3 ot3 o3 ob3 og3 pu3 s3 ox3
  ((with_reducible refine s_seq ?_); (with_reducible refine s_drop ?_); (with_reducible refine s_BM ?_); (with_reducible refine s_dget ?_); (with_reducible refine' s_var ?q63 ?q64); (case q63 => exact rfl); (with_reducible refine s_c ?_); (with_reducible refine' ⟨ _ , _ , rfl , dgetS ?q65 ?q66 , ?q67 ⟩); (case q65 => assumption); (case q66 => refine' valS_neg ?q68 ?q69; (case q68 => decide +kernel); (case q69 => refine' valS_neg ?q70 ?q71; (case q70 => decide +kernel); (case q71 => refine' valS_neg ?q72 ?q73; (case q72 => decide +kernel); (case q73 => exact valS_pos)))); (with_reducible refine' s_ty ?q74 ?q75); (case q74 => assumption); (with_reducible refine s_cons ?_); (with_reducible refine s_op ?_); (with_reducible refine' s_var ?q76 ?q77); (case q76 => exact rfl); (with_reducible refine s_c ?_); (with_reducible refine' s_ixT ?q78 ?q79 ?q80); (case q78 => assumption); (case q79 => exact rfl); (with_reducible refine s_nil ?_); (with_reducible refine' s_app ?q81 ?q82 ?q83); (case q81 => assumption); (case q82 => simp only [ List.length_append , List.length_cons , List.length_nil , List.length_map , List.length_reverse , List.length_replicate , sizeLine_eq ]; omega); intro _ _ _; (with_reducible refine s_dput ?_); (with_reducible refine s_Lc ?_); (with_reducible refine s_iList ?_); (with_reducible refine s_dget ?_); (with_reducible refine' s_var ?q84 ?q85); (case q84 => exact rfl); (with_reducible refine s_c ?_); (with_reducible refine' ⟨ _ , _ , rfl , dgetS ?q86 ?q87 , ?q88 ⟩); (case q86 => refine' Own.ext ( by assumption ) ?q89 ?q90; (case q89 => refine nm_one ?_; assumption); (case q90 => assumption)); (case q87 => refine' valS_neg ?q95 ?q96; (case q95 => decide +kernel); (case q96 => refine' valS_neg ?q97 ?q98; (case q97 => decide +kernel); (case q98 => exact valS_pos))); refine' ⟨ _ , rfl , ⟨ _ , ?q99 ⟩ , ?q100 ⟩; (case q99 => refine' SqL.of ( Own.h ?q105 ); (case q105 => refine' Own.ext ( by assumption ) ?q106 ?q107; (case q106 => refine nm_one ?_; assumption); (case q107 => assumption))))
  rename_i v5 e5 o5
  have oy5 := oy4.ext e5 hyg
  have ot5 := ot4.ext e5 htg
  have os5 := os4.ext e5 d3
  have ob5 := ob4.ext e5 d4
  have pu5 : Stt v5 p := pu4.go e5 fun h => np2 (h ▸ cg)
  have s5 := st_go e5 s4
  have ew5 : Ext (Tch cs ds p) w v5 := ((ew3.more fun z h => .inr (h.elim (fun h => .inr (.inl (h ▸ cS))) fun h => .inr (.inr h))).trans (e4.more fun z h => .inr (.inl h))).trans (e5.more fun z h => .inr (.inr (.inl (h ▸ cg))))
  clear oy4 ot4 os4 ob4 og4 pu4 s4
  have lbb := rbb.length
  rw [List.length_map] at lbb
  skip
  intro D hD
  have hbD := ob5.ne hD
  have rb5 := rbb.go ew5
  refine lc_gen (rows := M.B) (ww_list (xs := bbs)) (noB se.n) bondD hD (by omega) (by rw [sizeLine_eq]; omega) (fun u e => SqL.of (ob5.ext e hbD).h) ?_ ?_
  · intro i x1 q u hi hx hq eu R' Z hR' hZ
    obtain ⟨d, hd1, hd2⟩ := rb5.get hx
    rw [List.getElem?_map, hq] at hd1
    obtain rfl := Option.some.inj hd1
    obtain ⟨t1, rfl, st⟩ := bond_inv hd2
    have su := st_go eu st
    have s5u := st_go eu s5
    ((with_reducible refine' s_gname ?q112 ?q113); (case q112 => exact rfl))
    refine ⟨rfl, ?_⟩
    ((with_reducible refine s_test ?_); (with_reducible refine s_op ?_); (with_reducible refine s_op ?_); (with_reducible refine' s_var ?q114 ?q115); (case q114 => exact rfl); (with_reducible refine s_c ?_); (with_reducible refine' s_ixT ?q116 ?q117 ?q118); (case q116 => assumption); (case q117 => exact rfl); (with_reducible refine t_tup ?_); (with_reducible refine s_cons ?_); (with_reducible refine s_op ?_); (with_reducible refine' s_var ?q119 ?q120); (case q119 => exact rfl); (with_reducible refine s_c ?_); (with_reducible refine' s_ixT ?q121 ?q122 ?q123); (case q121 => assumption); (case q122 => exact rfl); (with_reducible refine s_cons ?_); (with_reducible refine s_op ?_); (with_reducible refine' s_var ?q124 ?q125); (case q124 => exact rfl); (with_reducible refine s_c ?_); (with_reducible refine' s_ixT ?q126 ?q127 ?q128); (case q126 => assumption); (case q127 => exact rfl); (with_reducible refine s_nil ?_); (with_reducible refine' t_newT ?q129 ?q130); (case q129 => simp only [ List.length , sizeLine_eq ]; omega); intro _ _ _ _ _; (with_reducible refine' s_ninS2 ?q363 ?q364); (case q363 => assumption); (with_reducible refine s_bl ?_))
    rename_i p3 v6 e6 n6 s6
    cases hb : (decide (se.n = q.1) || decide (se.n = q.2.1)) with
    | true =>
      rw [if_neg (by decide)]
      refine hZ v6 e6 ?_
      rw [Bool.or_eq_true, decide_eq_true_eq, decide_eq_true_eq] at hb
      unfold noB
      rcases hb with h | h <;> simp [h]
    | false =>
      rw [if_pos (show (!false) = true from rfl)]
      refine s_var rfl (hR' v6 (.ref t1) e6 ?_ ((hd2.go eu).go e6))
      rw [Bool.or_eq_false_iff, decide_eq_false_iff_not, decide_eq_false_iff_not] at hb
      unfold noB
      rw [decide_eq_false (fun h => hb.1 h.symm), decide_eq_false (fun h => hb.2 h.symm)]
      rfl
  · intro u acc eu hD' oD ra
    have oyu := oy5.ext eu fun z => z
    have hyD : y ≠ D := oy5.ne hD
    have htD : t ≠ D := ot5.ne hD
    have hsD : s ≠ D := os5.ne hD
    have hgD : g ≠ D := o5.ne hD
    ((with_reducible refine' s_var ?q365 ?q366); (case q365 => exact rfl); (with_reducible refine s_c ?_); (with_reducible refine' s_dputS ?q367 ?q368 ?q369 ?q370); (case q367 => assumption); (case q368 => refine' putS_neg ?q371 ?q372; (case q371 => decide +kernel); (case q372 => refine' putS_neg ?q373 ?q374; (case q373 => decide +kernel); (case q374 => refine' putS_pos ?q375; (case q375 => refine' valS_neg ?q376 ?q377; (case q376 => decide +kernel); (case q377 => exact valS_nil))))); (case q369 => simp only [ List.length , sizeLine_eq ]; omega); intro _ _ _)
    rename_i v6 e6 o6
    have hno : ∀ z, ds z → ¬ cs4 z := fun z hz h => (hc4 z h).elim (fun h => P.dj z h hz) (ex3 z hz)
    have hnD : ¬ cs4 D := fun h => by
      obtain ⟨o, ho⟩ := hL4.cell h
      exact e5.al D (by rw [ho.h]; exact fun z => by cases z) hD
    have e56 : Ext (One y) v5 v6 := (eu.more fun _ z => z.elim).trans e6
    have e46 : Ext (fun z => z = g ∨ z = y) v4 v6 := (e5.more fun z h => .inr (.inl h)).trans (e56.more fun z h => .inr (.inr h))
    have ew6 : Ext (Tch cs ds p) w v6 := ew5.trans (e56.more fun z h => .inr (.inr (.inl (by rw [show z = y from h]; exact cy))))
    have nwD : w.H D = none := ew5.back hD
    refine k v6 { L with E := dropT L.E se.n, B := L.B.filter (noB se.n) } { M with S := M.S.eraseIdx i, B := M.B.filter (noB se.n), G := M.G ++ [se.n] } cs4 (fun z => z = y ∨ z = t ∨ z = s ∨ z = D ∨ z = g) ew6
      ⟨hL4.go e46 fun z hz h => h.elim (fun h => hno g cg (by rw [← show z = g from h]; exact hz)) (fun h => hno y cy (by rw [← show z = y from h]; exact hz)),
       ⟨y, t, s, D, g, kt, ss.eraseIdx i, acc, rfl, o6, (ot5.ext eu fun z => z).ext e6 (fun h => d1 (show t = y from h).symm), TbL.go ew6 tt, (os5.ext eu fun z => z).ext e6 (fun h => hys (show s = y from h).symm), ?_, oD.ext e6 (fun h => hyD (show D = y from h).symm), ra.go e6, ?_, d1, hsD, d3, fun h => hgD h.symm, fun z => Iff.rfl⟩, P.lk.drop hse, fun z hz h => ?_⟩
      ((pu5.go eu fun z => z).go e6 fun h => hyp (show p = y from h).symm) (fun z hz => (hc4 z hz).elim .inl fun h => .inr (ew3.back h)) fun z hz => ?_
    · show RpA v6.S (ss.eraseIdx i) ((M.S.eraseIdx i).map specD)
      rw [← map_erase]
      exact (rs.go ew6).erase i
    · show Own v6 g (.lst ((M.G ++ [se.n]).map V.str))
      rw [List.map_append]
      exact (o5.ext eu fun z => z).ext e6 (fun h => hyg (show g = y from h).symm)
    · rcases h with rfl | rfl | rfl | rfl | rfl
      · exact hno _ cy hz
      · exact hno _ ct hz
      · exact hno _ cS hz
      · exact hnD hz
      · exact hno _ cg hz
    · rcases hz with rfl | rfl | rfl | rfl | rfl
      · exact .inl cy
      · exact .inl ct
      · exact .inl cS
      · exact .inr nwD
      · exact .inl cg
abbrev nm_l_put : List Str := ["_law_log", "_law_kept", "_law_state", "_law_names_here", "_law_spec_here", "_law_taken", "_law_free", "_law_name"]
theorem sc_l_put : FnScope nm_l_put ["_law_log", "_law_kept", "_law_state", "_law_names_here"] (defScope s_l_put) := ⟨rfl, rfl, rfl, by decide +kernel, rfl, by decide +kernel, by decide +kernel⟩
theorem st_l_put (a b c d : V) : start nm_l_put [a, b, c, d] = [some a, some b, some c, some d, none, none, none, none] := rfl
def p_l_put (K : PySem.W.Frag) (ec : EC) (CL CT : Addr) (w : Wd) (a b c d : V) (Q : VK) (_ : XK) : Prop := ∃ zs q, d = .ref q ∧ w.S q = some (.lst (zs.map V.str)) ∧ Deed K ec CL CT zs (fun M => M.T ≠ []) w a b c Q
theorem ok_l_put {f : Addr} {fd : FuncData} {C_Entry C_Within C_At C_Between C_Table C_Read C_Log C_LogError C_NoEntry C_NoMoment C_NoName C_NoPlace C_NoReading : Addr} (F : Fun K "_law_put" "_law_put" s_l_put f fd) (T : Txt K mg C_Entry C_Within C_At C_Between C_Table C_Read C_Log C_LogError C_NoEntry C_NoMoment C_NoName C_NoPlace C_NoReading) (c_Log_put : Mth P ww K mg base CX0 C_Log 2 "put" (pr2 (p_Log_put K (EC.mk C_Entry C_Within C_At C_Between C_Read C_Entry C_Entry) C_Log C_Table))) (c_l_made : Fnc P ww K mg base CX0 7 "_law_made" (pr1 (p_l_made K (EC.mk C_Entry C_Within C_At C_Between C_Read C_Entry C_Entry)))) (c_l_pull : Fnc P ww K mg base CX0 2 "_law_pull" (pr2 (p_l_pull))) (c_l_spec : Fnc P ww K mg base CX0 4 "_law_spec" (pr4 (p_l_spec))) : FnOk P ww K mg base CX0 8 f fd ["_law_log", "_law_kept", "_law_state", "_law_names_here"] (pr4 (p_l_put K (EC.mk C_Entry C_Within C_At C_Between C_Read C_Entry C_Entry) C_Log C_Table)) := by
  refine F.ok sc_l_put (fun vs H Q E h => len4 h) (fun cdv A outer s H vs Q E hr h => ?_)
  obtain ⟨w, x0, x1, x2, x3,  rfl, rfl, h⟩ := h
  have ekT := ek_T T
  have cl_Table := T.cl_Table
  have na_Table_kept_rows := T.na_Table_kept_rows
  have cl_Log := T.cl_Log
  have na_Log_bound := T.na_Log_bound
  have na_Log_clocks := T.na_Log_clocks
  have na_Log_line := T.na_Log_line
  have na_Log_name := T.na_Log_name
  have oex_NoEntry := T.oex_NoEntry; have xf_NoEntry := T.xf_NoEntry; have ec_NoEntry := T.ec_NoEntry; have xn_NoEntry := T.xn_NoEntry
  have oex_NoMoment := T.oex_NoMoment; have xf_NoMoment := T.xf_NoMoment; have ec_NoMoment := T.ec_NoMoment; have xn_NoMoment := T.xn_NoMoment
  have oex_NoName := T.oex_NoName; have xf_NoName := T.xf_NoName; have ec_NoName := T.ec_NoName; have xn_NoName := T.xn_NoName
  have oex_NoPlace := T.oex_NoPlace; have xf_NoPlace := T.xf_NoPlace; have ec_NoPlace := T.ec_NoPlace; have xn_NoPlace := T.xn_NoPlace
  have oex_NoReading := T.oex_NoReading; have xf_NoReading := T.xf_NoReading; have ec_NoReading := T.ec_NoReading; have xn_NoReading := T.xn_NoReading
  have rel_NoEntry_NoEntry := T.rel_NoEntry_NoEntry
  have exm_NoEntry_NoEntry := T.exm_NoEntry_NoEntry
  refine ⟨_, (pss_cons (ps_set (i := 5) sc_l_put.nd rfl (Or.inr rfl) (pe_lc (own := [("_law_spec_here", 4)]) (g := (gName 4)) (tt := tYes) (by rfl) sc_l_put.nd (kpList K (pe_dget (hu_of hr) (pv 1) pe_str (fun _ _ => rfl))) (blkOk_by (own := [("_law_spec_here", 4)]) (N := nm_l_put) (sc := defScope s_l_put) (by decide +kernel)) (fun _ _ _ _ _ => (pg_name (i := 4) sc_l_put.nd rfl (Or.inl rfl))) (fun _ _ _ _ _ => pts_nil) (fun _ _ _ _ _ => (pe_ix (kIx K) (pv 4) pe_int (fun _ _ => rfl)))))
      (pss_cons (ps_setLc (i := 6) (own := [("_law_name", 7)]) (g := (gName 7)) (tt := _) (by rfl) sc_l_put.nd rfl rfl (sw_true rfl rfl rfl (by decide +kernel)) (kpList K (pe_slice (kSl K) (pv 3) (po_some pe_int) po_none)) (blkOk_by (own := [("_law_name", 7)]) (N := nm_l_put) (sc := defScope s_l_put) (by decide +kernel)) (fun _ _ _ _ _ => (pg_name (i := 7) sc_l_put.nd rfl (Or.inl rfl))) (fun _ _ _ _ _ => (pts_one (pt_cmpR (kNotIn K) (pv 7) (pv 5) (by rfl)))) (fun _ _ _ _ _ => (pv 7)))
      (pss_cons (ps_if (pt_cmpR (kEq K hr.units) (pv 6) (pe_lst pa_nil) (nomark _)) (pss_one ps_retN) pss_nil)
      (pss_cons (ps_set (i := 4) sc_l_put.nd rfl (Or.inl rfl) (pe_fn c_l_spec hr (by decide) pass0 (pa_cons (pv 2) (pa_cons (pe_ix (kIx K) (pv 6) (pe_fn c_l_pull hr (by decide) pass0 (pa_cons (pv 2) (pa_cons (pe_callB (kLen K) (by rfl) T.n_len (by decide +kernel) (pa_cons (pv 6) pa_nil)) pa_nil))) (fun _ _ => rfl)) (pa_cons (pe_callTy (kListDK rfl) (by rfl) T.n_list (by decide +kernel) (pa_cons (pe_dget (hu_of hr) (pv 1) pe_str (fun _ _ => rfl)) pa_nil)) (pa_cons (pe_dget (hu_of hr) (pv 1) pe_str (fun _ _ => rfl)) pa_nil))))))
      (pss_cons (ps_expr (pe_mth c_Log_put T.cl_Log hr (by decide) pass0 (pv 0) (pa_cons (pe_fn c_l_made hr (by decide) pass0 (pa_cons (pv 4) pa_nil)) pa_nil)))
      (pss_one (ps_expr (pe_bm PySem.F.plainAttrs_list PySem.F.slot_list_append PySem.F.type_list_append mt_append (pe_dget (hu_of hr) (pv 1) pe_str (fun _ _ => rfl)) (pa_cons (pv 4) pa_nil))))))))), ?_⟩
  rw [st_l_put]
  obtain ⟨zs, qz, rfl, sqz, L, M, gn, cs, ds, p, hz, hgn, hT, P, rfl, pu, np1, np2, k⟩ := h
  have pu : Stt w p := pu
  obtain ⟨x, dx, c, l, b, kc, kl, bs, rfl, ox, _⟩ := id P.l
  obtain ⟨y, t, s, bb, g, kt, ss, bbs, rfl, oy, ot, tt, os, rs, obb, rbb, og, d1, d2, d3, d4, hc⟩ := id P.k
  have hsl := P.lk.sl hz
  have htl := P.lk.tl hz
  have lss := rs.length
  rw [List.length_map] at lss
  have cy := (hc y).mpr (.inl rfl)
  have ct := (hc t).mpr (.inr (.inl rfl))
  have cS := (hc s).mpr (.inr (.inr (.inl rfl)))
  have cb := (hc bb).mpr (.inr (.inr (.inr (.inl rfl))))
  have cg := (hc g).mpr (.inr (.inr (.inr (.inr rfl))))
  have hyp : y ≠ p := fun h => np2 (h ▸ cy)
  have hsp : s ≠ p := fun h => np2 (h ▸ cS)
  have htp : t ≠ p := fun h => np2 (h ▸ ct)
  have hxp : x ≠ p := fun h => np1 (h ▸ (by obtain ⟨_, _, _, _, _, _, _, _, hx, _, _, _, _, _, _, _, _, hcs⟩ := P.l; cases hx; exact (hcs x).mpr (.inl rfl)))
  have hys : y ≠ s := own_ne oy os (fun z => by cases z)
  have hts : t ≠ s := own_ne ot os (fun z => by cases z)
  ((with_reducible refine s_seq ?_); (with_reducible refine s_asg ?_); (with_reducible refine s_Lc ?_); (with_reducible refine s_iList ?_); (with_reducible refine s_dget ?_); (with_reducible refine' s_var ?q0 ?q1); (case q0 => exact rfl); (with_reducible refine s_c ?_); (with_reducible refine' ⟨ _ , _ , rfl , dgetS ?q2 ?q3 , ?q4 ⟩); (case q2 => assumption); (case q3 => refine' valS_neg ?q5 ?q6; (case q5 => decide +kernel); (case q6 => exact valS_pos)); refine' ⟨ _ , rfl , ⟨ _ , ?q7 ⟩ , ?q8 ⟩; (case q7 => refine' SqL.of ( Own.h ?q10 ); (case q10 => assumption)))
  intro D hD
  refine lc_names (.inr os) rs hD (by omega) (fun _ => rfl) (fun _ => rfl) fun u1 e1 oD => ?_
  have hDp : D ≠ p := stt_new hD pu
  ((with_reducible refine' s_gname ?q11 ?q12); (case q11 => simp only [ List.set_cons_succ , List.set_cons_zero ]; exact rfl); (with_reducible refine s_seq ?_); (with_reducible refine s_asg ?_); (with_reducible refine s_Lc ?_); (with_reducible refine s_iList ?_); (with_reducible refine s_sl ?_); (with_reducible refine' s_var ?q13 ?q14); (case q13 => exact rfl); (with_reducible refine s_part ?_); (with_reducible refine s_c ?_); (with_reducible refine s_int ?_); (with_reducible refine s_nopart ?_); (with_reducible refine' s_slS ?q15 ?q16); (case q15 => refine' SqL.of ( Wd.ok _ _ _ ?q17 ); (case q17 => refine' st_go ( by assumption ) ?q18; (case q18 => assumption))); intro _ _ _ _ _; refine' ⟨ _ , rfl , ⟨ _ , ?q19 ⟩ , ?q20 ⟩; (case q19 => refine' SqL.of ( Wd.ok _ _ _ ?q21 ); (case q21 => assumption)))
  rename_i l2 v2 e2 n2 s2
  rw [cut_from (by decide)] at s2
  rw [show (6 : Int).toNat = 6 from rfl, ← List.map_drop] at s2
  have f2 := e1.trans e2
  have oD2 := oD.ext e2 fun z => z
  intro F hF
  have hDF : D ≠ F := oD2.ne hF
  have lz : ((zs.drop 6).map V.str).length = 14 := by rw [List.length_map, List.length_drop, hz.l]
  refine lc_gen (rows := zs.drop 6) (ww_list (xs := (zs.drop 6).map V.str)) (fun z => !decide (z ∈ M.S.map (·.n))) PyData.str hF (by rw [lz, List.length_drop, hz.l]) (by rw [lz, sizeLine_eq]; omega) (fun u e => sql_of (st_go e s2)) ?_ ?_
  · intro i x1 z u hi hx hq eu R' Z hR' hZ
    rw [List.getElem?_map, hq] at hx
    cases hx
    have oDu := oD2.ext eu hDF
    ((with_reducible refine' s_gname ?q22 ?q23); (case q22 => exact rfl))
    refine ⟨rfl, ?_⟩
    ((with_reducible refine s_test ?_); (with_reducible refine s_op ?_); (with_reducible refine' s_var ?q24 ?q25); (case q24 => exact rfl); (with_reducible refine' s_var ?q26 ?q27); (case q26 => exact rfl); (with_reducible refine' s_ninLs ?q28 ?q29); (case q28 => refine' SqL.of ( Own.h ?q33 ); (case q33 => assumption)); (with_reducible refine s_bl ?_))
    cases hb : (!decide (z ∈ M.S.map (·.n))) with
    | true => rw [if_pos rfl]; exact s_var rfl (hR' u _ (Ext.refl _ _) hb (.str _))
    | false => rw [if_neg (by decide)]; exact hZ u (Ext.refl _ _) hb
  · intro u acc eu hF' oF ra
    obtain rfl := RpA.strs_inv ra
    have hfr : ∀ z ∈ (zs.drop 6).filter (fun z => !decide (z ∈ M.S.map (·.n))), z ∈ zs.drop 6 ∧ z ∉ M.S.map (·.n) := fun z hh => by
      obtain ⟨h1, h2⟩ := List.mem_filter.mp hh
      exact ⟨h1, by simpa using h2⟩
    have hfl : ((zs.drop 6).filter (fun z => !decide (z ∈ M.S.map (·.n)))).length ≤ 14 := by
      have := List.length_filter_le (fun z => !decide (z ∈ M.S.map (·.n))) (zs.drop 6)
      rw [List.length_drop, hz.l] at this
      exact this
    generalize (zs.drop 6).filter (fun z => !decide (z ∈ M.S.map (·.n))) = fr at *
    have hok : ∀ z ∈ fr, PyData.strOk z = true := fun z hh => ((hz.ok z (List.mem_of_mem_drop (hfr z hh).1)).tx).ok
    have fu := f2.trans eu
    have puu : Stt u p := pu.go fu fun z => z
    have hFp : F ≠ p := fun h => by
      have := f2.al p (by obtain ⟨_, _, _, _, o⟩ := pu; rw [o.h]; exact fun z => by cases z)
      rw [← h] at this
      exact this hF
    clear e1 e2 n2 s2 oD oD2 f2 eu ra
    ((with_reducible refine' s_gname ?q34 ?q35); (case q34 => simp only [ List.set_cons_succ , List.set_cons_zero ]; exact rfl); (with_reducible refine s_seq ?_); (with_reducible refine s_ifS ?_); (with_reducible refine s_test ?_); (with_reducible refine s_op ?_); (with_reducible refine' s_var ?q36 ?q37); (case q36 => exact rfl); (with_reducible refine t_lst ?_); (with_reducible refine s_nil ?_); (with_reducible refine' t_newLS ?q38 ?q39); (case q38 => simp only [ List.length , sizeLine_eq ]; omega); intro _ _ _ _ _)
    rename_i l3 v3 e3 n3 s3
    refine s_eqNs (shaped_strs hok) (.inr (oF.ext e3 fun z => z)) (rpa_strs _) s3 ?_
    have f3 := fu.trans e3
    have pu3 : Stt v3 p := puu.go e3 fun z => z
    by_cases he : fr = []
    · rw [show (List.map PyData.str fr).isEmpty = true by rw [he]; rfl]
      ((with_reducible refine s_bl ?_); (with_reducible refine ite_tt ?_); (with_reducible refine s_retN ?_))
      exact k v3 L M cs ds (f3.more fun _ z => z.elim) ((P.go0 f3).mono (Nat.le_succ _)) pu3 (fun _ h => .inl h) fun _ h => .inl h
    have hpos : 0 < fr.length := List.length_pos_iff.mpr he
    rw [show (List.map PyData.str fr).isEmpty = false by cases h : fr with
      | nil => exact absurd h he
      | cons _ _ => rfl]
    have oF3 := oF.ext e3 fun z => z
    have oy3 := oy.ext f3 fun z => z
    have ot3 := ot.ext f3 fun z => z
    have lfr : (fr.map V.str).length = fr.length := by rw [List.length_map]
    clear e3 n3 s3 fu puu oF
    wtm_at "gs"
    ((with_reducible refine' s_ixOm ?q100 ?q101 ?q102 ?q103); (case q100 => refine' Own.ext ( by assumption ) ?q104 ?q105; (case q104 => refine nm_one ?_; assumption); (case q105 => assumption)); (case q101 => omega); (case q102 => omega))
    intro zv _ hz1
    obtain ⟨z1, hz1, rfl⟩ := List.mem_map.mp hz1
    rename_i v4 j4 e4 pu4 h40 h41 _ _
    have f4 : Ext (One p) w v4 := (f3.more fun _ z => z.elim).trans e4
    have oy4 := oy3.ext e4 hyp
    have ot4 := ot3.ext e4 htp
    clear oF3 oy3 ot3 pu3 f3 e4
    ((with_reducible refine s_cons ?_); (with_reducible refine s_CB ?_); (with_reducible refine s_cons ?_); (with_reducible refine s_dget ?_); (with_reducible refine' s_var ?q110 ?q111); (case q110 => exact rfl); (with_reducible refine s_c ?_); (with_reducible refine' ⟨ _ , _ , rfl , dgetS ?q112 ?q113 , ?q114 ⟩); (case q112 => assumption); (case q113 => exact valS_pos); (with_reducible refine s_nil ?_))
    refine s_listDK ot4 fun l9 v9 e9 n9 s9 => ?_
    rw [DicR.kVs tt] at s9
    have f9 : Ext (One p) w v9 := f4.trans (e9.more fun _ z => z.elim)
    have pu9 : Stt v9 p := pu4.go e9 fun z => z
    have oy9 := oy4.ext e9 fun z => z
    have ot9 := ot4.ext e9 fun z => z
    clear e9 n9 oy4 ot4 pu4 f4
    ((with_reducible refine s_cons ?_); (with_reducible refine s_dget ?_); (with_reducible refine' s_var ?q115 ?q116); (case q115 => exact rfl); (with_reducible refine s_c ?_); (with_reducible refine' ⟨ _ , _ , rfl , dgetS ?q117 ?q118 , ?q119 ⟩); (case q117 => assumption); (case q118 => exact valS_pos); (with_reducible refine s_nil ?_); (with_reducible refine s_pr4 ?_))
    refine ⟨p, z1, l9, M.T, rfl, pu9, rfl, hz.ok z1 (List.mem_of_mem_drop (hfr z1 ‹_›).1), rfl, s9, ⟨t, kt, rfl, .inr ot9, TbL.go f9 tt⟩, hT, by omega, P.lk.tok hz, fun v10 r10 e e10 pu10 hr10 ok10 hen => ?_⟩
    have f10 := f9.trans e10
    have P10 := P.one f10 np1 np2
    have ox10 := ox.ext f10 hxp
    have oy10 := oy9.ext e10 hyp
    clear s9 pu9 oy9 ot9 f9 e10
    ((with_reducible refine' s_gname ?q120 ?q121); (case q120 => simp only [ List.set_cons_succ , List.set_cons_zero ]; exact rfl); (with_reducible refine s_seq ?_); (with_reducible refine s_drop ?_); (with_reducible refine s_meth ?_); (with_reducible refine' s_var ?q122 ?q123); (case q122 => exact rfl); (with_reducible refine' s_rmeth ?q124 ?q125 ?q126); (case q124 => refine' Own.h ?q129; (case q129 => assumption)); (case q125 => refine' lk_tl ?q130 ?q131; (case q130 => decide +kernel); (case q131 => refine' lk_tl ?q132 ?q133; (case q132 => decide +kernel); (case q133 => refine' lk_tl ?q134 ?q135; (case q134 => decide +kernel); (case q135 => exact lk_nil)))); (with_reducible refine s_cons ?_); (with_reducible refine s_call ?_); (with_reducible refine s_cons ?_); (with_reducible refine' s_var ?q136 ?q137); (case q136 => exact rfl); (with_reducible refine s_nil ?_); (with_reducible refine s_pr1 ?_))
    refine ⟨e, M.T, hr10, ok10, fun v11 r11 e11 hS11 => ?_⟩
    have P11 := P10.go0 e11
    have ox11 := ox10.ext e11 fun z => z
    have hfz := hfr z1 ‹_›
    ((with_reducible refine s_nil ?_); (with_reducible refine s_pm2 ?_))
    refine ⟨L, cs, e, P11.l, hS11, ok10.ok, by rw [P.lk.e, ens_none, hen]; exact hfz.2, fun hp => by rw [P.lk.t]; exact (ok10.pl hp).2.1, by rw [P.lk.e]; unfold ens; rw [List.length_map]; omega, fun v12 e12 hL12 => ?_⟩
    have no : ∀ z, ds z → ¬ cs z := fun z h1 h2 => P.dj z h2 h1
    have f11 := f10.trans (e11.more fun _ z => z.elim)
    have f12 : Ext (fun z => cs z ∨ z = p) w v12 := (f11.more fun _ z => .inr (.inr z)).trans (e12.more fun _ z => .inr (.inl z))
    have nb : ∀ z, ds z → ¬ (cs z ∨ z = p) := fun z hz h => h.elim (fun h => P.dj z h hz) fun h => np2 (h ▸ hz)
    have oy12 := oy.ext f12 (nb y cy)
    have ot12 := ot.ext f12 (nb t ct)
    have os12 := os.ext f12 (nb s cS)
    have ob12 := obb.ext f12 (nb bb cb)
    have og12 := og.ext f12 (nb g cg)
    have pu12 : Stt v12 p := (pu10.go e11 fun z => z).go e12 np1
    have hr12 := (hr10.go e11).go e12
    clear P10 P11 ox10 ox11 oy10 hr10 e11 e12 f10 f11 pu10
    ((with_reducible refine s_drop ?_); (with_reducible refine s_BM ?_); (with_reducible refine s_dget ?_); (with_reducible refine' s_var ?q138 ?q139); (case q138 => exact rfl); (with_reducible refine s_c ?_); (with_reducible refine' ⟨ _ , _ , rfl , dgetS ?q140 ?q141 , ?q142 ⟩); (case q140 => assumption); (case q141 => refine' valS_neg ?q143 ?q144; (case q143 => decide +kernel); (case q144 => exact valS_pos)); (with_reducible refine' s_ty ?q145 ?q146); (case q145 => assumption); (with_reducible refine s_cons ?_); (with_reducible refine' s_var ?q147 ?q148); (case q147 => exact rfl); (with_reducible refine s_nil ?_); (with_reducible refine' s_app ?q149 ?q150 ?q151); (case q149 => assumption); (case q150 => simp only [ List.length_append , List.length_cons , List.length_nil , List.length_map , List.length_reverse , List.length_replicate , sizeLine_eq ]; omega); intro _ _ _)
    rename_i v13 e13 o13
    have hLs : ∀ z, cs z → ¬ One s z := fun z hz h => P.dj z hz (by rw [show z = s from h]; exact cS)
    have f13 : Ext (Tch cs ds p) w v13 := (f12.more fun z h => .inr (h.elim .inl fun h => .inr (.inr h))).trans (e13.more fun z h => .inr (.inr (.inl (by rw [show z = s from h]; exact cS))))
    refine k v13 { L with E := L.E ++ [(e.n, e)] } { M with S := M.S ++ [e] } cs ds f13 ⟨hL12.go e13 hLs, ⟨y, t, s, bb, g, kt, ss ++ [r10], bbs, rfl, oy12.ext e13 hys, ot12.ext e13 hts, TbL.go f13 tt, o13, ?_, ob12.ext e13 (fun h => d2 (show bb = s from h).symm), rbb.go f13, og12.ext e13 (fun h => d3 (show g = s from h).symm), d1, d2, d3, d4, hc⟩, (P.lk.put ok10 (by rw [hen]; exact hfz.2) (by rw [hen]; exact hfz.1)).mono (Nat.le_succ _), P.dj⟩ (pu12.go e13 fun h => hsp (show p = s from h).symm) (fun _ h => .inl h) fun _ h => .inl h
    show RpA v13.S (ss ++ [r10]) ((M.S ++ [e]).map specD)
    rw [List.map_append]
    exact (rs.go f13).append (.cons (hr12.go e13) .nil)
abbrev nm_l_done : List Str := ["_law_log", "_law_kept", "_law_state", "_law_names_here", "_law_way", "_law_place", "_law_number"]
theorem sc_l_done : FnScope nm_l_done ["_law_log", "_law_kept", "_law_state", "_law_names_here"] (defScope s_l_done) := ⟨rfl, rfl, rfl, by decide +kernel, rfl, by decide +kernel, by decide +kernel⟩
theorem st_l_done (a b c d : V) : start nm_l_done [a, b, c, d] = [some a, some b, some c, some d, none, none, none] := rfl
def p_l_done (K : PySem.W.Frag) (ec : EC) (CL CT : Addr) (w : Wd) (a b c d : V) (Q : VK) (_ : XK) : Prop := ∃ zs q, d = .ref q ∧ w.S q = some (.lst (zs.map V.str)) ∧ Deed K ec CL CT zs (fun _ => True) w a b c Q
theorem ok_l_done {f : Addr} {fd : FuncData} {C_Entry C_Within C_At C_Between C_Table C_Read C_Log C_LogError C_NoEntry C_NoMoment C_NoName C_NoPlace C_NoReading : Addr} (F : Fun K "_law_done" "_law_done" s_l_done f fd) (T : Txt K mg C_Entry C_Within C_At C_Between C_Table C_Read C_Log C_LogError C_NoEntry C_NoMoment C_NoName C_NoPlace C_NoReading) (c_Log_clock : Mth P ww K mg base CX0 C_Log 2 "clock" (pr3 (p_Log_clock K (EC.mk C_Entry C_Within C_At C_Between C_Read C_Entry C_Entry) C_Log C_Table))) (c_Log_unbind : Mth P ww K mg base CX0 C_Log 2 "unbind" (pr2 (p_Log_unbind K (EC.mk C_Entry C_Within C_At C_Between C_Read C_Entry C_Entry) C_Log C_Table))) (c_Table_init : Mkr P ww K mg base CX0 C_Table 5 (pr2 (p_Table_init C_Table))) (c_l_bound : Fnc P ww K mg base CX0 5 "_law_bound" (pr3 (p_l_bound K (EC.mk C_Entry C_Within C_At C_Between C_Read C_Entry C_Entry) C_Log C_Table))) (c_l_dropped : Fnc P ww K mg base CX0 5 "_law_dropped" (pr3 (p_l_dropped K (EC.mk C_Entry C_Within C_At C_Between C_Read C_Entry C_Entry) C_Log C_Table))) (c_l_pull : Fnc P ww K mg base CX0 2 "_law_pull" (pr2 (p_l_pull))) (c_l_put : Fnc P ww K mg base CX0 8 "_law_put" (pr4 (p_l_put K (EC.mk C_Entry C_Within C_At C_Between C_Read C_Entry C_Entry) C_Log C_Table))) (c_l_rows : Fnc P ww K mg base CX0 4 "_law_rows" (pr1 (p_l_rows))) : FnOk P ww K mg base CX0 9 f fd ["_law_log", "_law_kept", "_law_state", "_law_names_here"] (pr4 (p_l_done K (EC.mk C_Entry C_Within C_At C_Between C_Read C_Entry C_Entry) C_Log C_Table)) := by
  refine F.ok sc_l_done (fun vs H Q E h => len4 h) (fun cdv A outer s H vs Q E hr h => ?_)
  obtain ⟨w, x0, x1, x2, x3,  rfl, rfl, h⟩ := h
  have ekT := ek_T T
  have cl_Table := T.cl_Table
  have na_Table_kept_rows := T.na_Table_kept_rows
  have cl_Log := T.cl_Log
  have na_Log_bound := T.na_Log_bound
  have na_Log_clocks := T.na_Log_clocks
  have na_Log_line := T.na_Log_line
  have na_Log_name := T.na_Log_name
  have oex_NoEntry := T.oex_NoEntry; have xf_NoEntry := T.xf_NoEntry; have ec_NoEntry := T.ec_NoEntry; have xn_NoEntry := T.xn_NoEntry
  have oex_NoMoment := T.oex_NoMoment; have xf_NoMoment := T.xf_NoMoment; have ec_NoMoment := T.ec_NoMoment; have xn_NoMoment := T.xn_NoMoment
  have oex_NoName := T.oex_NoName; have xf_NoName := T.xf_NoName; have ec_NoName := T.ec_NoName; have xn_NoName := T.xn_NoName
  have oex_NoPlace := T.oex_NoPlace; have xf_NoPlace := T.xf_NoPlace; have ec_NoPlace := T.ec_NoPlace; have xn_NoPlace := T.xn_NoPlace
  have oex_NoReading := T.oex_NoReading; have xf_NoReading := T.xf_NoReading; have ec_NoReading := T.ec_NoReading; have xn_NoReading := T.xn_NoReading
  have rel_NoEntry_NoEntry := T.rel_NoEntry_NoEntry
  have exm_NoEntry_NoEntry := T.exm_NoEntry_NoEntry
  refine ⟨_, (pss_cons (ps_set (i := 4) sc_l_done.nd rfl (Or.inl rfl) (pe_fn c_l_pull hr (by decide) pass0 (pa_cons (pv 2) (pa_cons pe_int pa_nil))))
      (pss_one (ps_if (PW.pt (pw_or (pt_cmpR (kEq K hr.units) (pv 4) pe_int (nomark _)) (pw_or1 (pt_cmpR (kEqD0 hr.units) (pe_dget (hu_of hr) (pv 1) pe_str (fun _ _ => rfl)) pe_dnewK (nomark _))))) (pss_cons (ps_set (i := 5) sc_l_done.nd rfl (Or.inl rfl) (pe_ix (kIx K) (pv 3) (pe_fn c_l_pull hr (by decide) pass0 (pa_cons (pv 2) (pa_cons pe_int pa_nil))) (fun _ _ => rfl)))
      (pss_cons (ps_dput (hu_of hr) (pe_dget (hu_of hr) (pv 1) pe_str (fun _ _ => rfl)) (pv 5) (pe_fn c_l_rows hr (by decide) pass0 (pa_cons (pv 2) pa_nil)) rfl)
      (pss_one (ps_expr (pe_mth c_Log_clock T.cl_Log hr (by decide) pass0 (pv 0) (pa_cons (pv 5) (pa_cons (pe_mk c_Table_init hr (by decide) T.g_Table pass0 (pa_cons (pe_callTy (kList K) (by rfl) T.n_list (by decide +kernel) (pa_cons (pe_dget (hu_of hr) (pe_dget (hu_of hr) (pv 1) pe_str (fun _ _ => rfl)) (pv 5) (fun _ _ => rfl)) pa_nil)) pa_nil)) pa_nil))))))) (pss_one (ps_if (pt_cmpR g_lt (pv 4) pe_int (nomark _)) (pss_one (ps_expr (pe_fn c_l_put hr (by decide) pass0 (pa_cons (pv 0) (pa_cons (pv 1) (pa_cons (pv 2) (pa_cons (pv 3) pa_nil))))))) (pss_one (ps_if (pt_cmpR g_lt (pv 4) pe_int (nomark _)) (pss_one (ps_expr (pe_fn c_l_bound hr (by decide) pass0 (pa_cons (pv 0) (pa_cons (pv 1) (pa_cons (pv 2) pa_nil)))))) (pss_one (ps_if (PW.pt (pw_and (pt_cmpR g_lt (pv 4) pe_int (nomark _)) (pw_and1 (pt_cmpR (kNe K hr.units) (pe_dget (hu_of hr) (pv 1) pe_str (fun _ _ => rfl)) (pe_lst pa_nil) (nomark _))))) (pss_cons (ps_set (i := 6) sc_l_done.nd rfl (Or.inl rfl) (pe_fn c_l_pull hr (by decide) pass0 (pa_cons (pv 2) (pa_cons (pe_callB (kLen K) (by rfl) T.n_len (by decide +kernel) (pa_cons (pe_dget (hu_of hr) (pv 1) pe_str (fun _ _ => rfl)) pa_nil)) pa_nil))))
      (pss_cons (ps_expr (pe_mth c_Log_unbind T.cl_Log hr (by decide) pass0 (pv 0) (pa_cons (pv 6) pa_nil)))
      (pss_one (ps_expr (pe_bm PySem.F.plainAttrs_list PySem.F.slot_list_pop PySem.F.type_list_pop mt_popAt (pe_dget (hu_of hr) (pv 1) pe_str (fun _ _ => rfl)) (pa_cons (pv 6) pa_nil)))))) (pss_one (ps_expr (pe_fn c_l_dropped hr (by decide) pass0 (pa_cons (pv 0) (pa_cons (pv 1) (pa_cons (pv 2) pa_nil))))))))))))))), ?_⟩
  rw [st_l_done]
  obtain ⟨zs, qz, rfl, sqz, L, M, gn, cs, ds, p, hz, hgn, _, P, rfl, pu, np1, np2, k⟩ := h
  have pu : Stt w p := pu
  obtain ⟨x, dx, c, l, b, kc, kl, bs, rfl, ox, _⟩ := id P.l
  obtain ⟨y, t, s, bb, g, kt, ss, bbs, rfl, oy, ot, tt, os, rs, obb, rbb, og, d1, d2, d3, d4, hc⟩ := id P.k
  have cy := (hc y).mpr (.inl rfl)
  have ct := (hc t).mpr (.inr (.inl rfl))
  have cS := (hc s).mpr (.inr (.inr (.inl rfl)))
  have cb := (hc bb).mpr (.inr (.inr (.inr (.inl rfl))))
  have cg := (hc g).mpr (.inr (.inr (.inr (.inr rfl))))
  have hyp : y ≠ p := fun h => np2 (h ▸ cy)
  have htp : t ≠ p := fun h => np2 (h ▸ ct)
  have hbp : bb ≠ p := fun h => np2 (h ▸ cb)
  have hxp : x ≠ p := fun h => np1 (h ▸ (by obtain ⟨_, _, _, _, _, _, _, _, hx, _, _, _, _, _, _, _, _, hcs⟩ := P.l; cases hx; exact (hcs x).mpr (.inl rfl)))
  have lkt := DicR.len tt
  have htl := P.lk.tl hz
  have lbb := rbb.length
  rw [List.length_map] at lbb
  wtm_at "gsi"
  rename_i v1 j1 e1 pu1 h10 h11
  have f1 : Ext (Tch cs ds p) w v1 := e1.more fun _ h => .inr (.inr (.inr h))
  have P1 := P.one e1 np1 np2
  have oy1 := oy.ext e1 hyp
  have ot1 := ot.ext e1 htp
  have fin : ∀ v u L' M' cs' ds', Ext (One p) w v → Ext (Tch cs ds p) v u → Pair K _ _ _ zs u (.ref x) (.ref y) (gn + 1) L' M' cs' ds' → Stt u p → (∀ y, cs' y → cs y ∨ v.H y = none) → (∀ y, ds' y → ds y ∨ v.H y = none) → Q .non u.H := fun v u L' M' cs' ds' e e' P' pu' h1 h2 =>
    k u L' M' cs' ds' ((e.more fun _ h => .inr (.inr (.inr h))).trans e') P' pu' (fun y hy => (h1 y hy).elim .inl fun h => .inr (e.back h)) fun y hy => (h2 y hy).elim .inl fun h => .inr (e.back h)
  have key : ∀ (R : Bool → Hp → Prop), (∀ u, Ext Non v1 u → R (decide (j1 = 0) || kt.isEmpty) u.H) → tOr (tTest (tOp (gEq K) (tVar 4) (tC (V.int 0)))) (tTest (tOp rEqD0 (tDGet (tVar 1) (tC (V.str (Str.ofString "tables")))) tDNewK)) [some (.ref x), some (.ref y), some (.ref p), some (.ref qz), some (.int j1), none, none] v1.H R := fun R hR => by
    ((with_reducible refine s_or ?_); (with_reducible refine s_test ?_); (with_reducible refine s_op ?_); (with_reducible refine' s_var ?q8 ?q9); (case q8 => exact rfl); (with_reducible refine s_c ?_); (with_reducible refine s_eqI ?_); (with_reducible refine s_bl ?_))
    refine ite_d (fun h => ?_) (fun h => ?_)
    · have := hR v1 (Ext.refl _ _)
      rw [decide_eq_true h] at this
      exact this
    · ((with_reducible refine s_test ?_); (with_reducible refine s_op ?_); (with_reducible refine s_dget ?_); (with_reducible refine' s_var ?q10 ?q11); (case q10 => exact rfl); (with_reducible refine s_c ?_); (with_reducible refine' ⟨ _ , _ , rfl , dgetS ?q12 ?q13 , ?q14 ⟩); (case q12 => assumption); (case q13 => exact valS_pos); (with_reducible refine' s_dnewS ?q15); intro _ _ _ _ _)
      rename_i l2 v2 e2 n2 s2
      refine s_eqD0 (Own.h (ot1.ext e2 fun z => z)) (v2.ok _ _ s2) ⟨_, rfl, ?_⟩
      have := hR v2 e2
      rw [decide_eq_false h] at this
      exact this
  refine s_ifS (key _ fun v2 e2 => ?_)
  have e12 : Ext (One p) w v2 := e1.trans (e2.more fun _ z => z.elim)
  have P2 := P1.go0 e2
  have oy2 := oy1.ext e2 fun z => z
  have ot2 := ot1.ext e2 fun z => z
  have ob2 := (obb.ext e1 hbp).ext e2 fun z => z
  have ox2 := (ox.ext e1 hxp).ext e2 fun z => z
  have pu2 : Stt v2 p := pu1.go e2 fun z => z
  have sq2 := st_go e12 sqz
  clear key e1 e2 P1 oy1 ot1 pu1 f1
  cases hb : (decide (j1 = 0) || kt.isEmpty) with
  | true =>
    rw [if_pos rfl]
    have lz : (zs.map V.str).length = 20 := by rw [List.length_map, hz.l]
    wtm_at "gs"
    rename_i v3 j3 e3 pu3 h30 h31
    refine s_ixSm (st_go e3 sq2) h30 (by omega) ?_
    intro zv hzv hzm
    rw [List.getElem?_map] at hzv
    obtain ⟨z, hzi, rfl⟩ := Option.map_eq_some_iff.mp hzv
    have hz6 : z ∈ zs.take 6 := List.mem_of_getElem? (i := j3.toNat) (by rw [List.getElem?_take, if_pos (by omega)]; exact hzi)
    clear hzv hzm hzi
    ((with_reducible refine' s_gname ?q93 ?q94); (case q93 => simp only [ List.set_cons_succ , List.set_cons_zero ]; exact rfl); (with_reducible refine s_seq ?_); (with_reducible refine s_dput ?_); (with_reducible refine s_call ?_); (with_reducible refine s_cons ?_); (with_reducible refine' s_var ?q95 ?q96); (case q95 => exact rfl); (with_reducible refine s_nil ?_); (with_reducible refine s_pr1 ?_))
    refine ⟨p, rfl, pu3, fun v4 r4 R e4 pu4 hr4 hok4 => ?_⟩
    have f4 : Ext (One p) w v4 := e12.trans (e3.trans e4)
    have P4 := P.one f4 np1 np2
    have oy4 := oy.ext f4 hyp
    have ot4 := ot.ext f4 htp
    have ox4 := ox.ext f4 hxp
    clear e3 e4 pu3
    ((with_reducible refine s_dget ?_); (with_reducible refine' s_var ?q99 ?q100); (case q99 => exact rfl); (with_reducible refine s_c ?_); (with_reducible refine' ⟨ _ , _ , rfl , dgetS ?q101 ?q102 , ?q103 ⟩); (case q101 => assumption); (case q102 => exact valS_pos); (with_reducible refine' s_var ?q104 ?q105); (case q104 => exact rfl))
    refine s_dputS ot4 rfl (by rw [sizeLine_eq]; omega) fun v5 e5 o5 => ?_
    have hnt : ∀ z, cs z → ¬ One t z := fun z hz h => P.dj z hz (by rw [show z = t from h]; exact ct)
    have hL5 := P4.l.go e5 hnt
    have oy5 := oy4.ext e5 d1
    have ox5 := ox4.ext e5 (fun h => hnt x (by obtain ⟨_, _, _, _, _, _, _, _, hx, _, _, _, _, _, _, _, _, hcs⟩ := P.l; cases hx; exact (hcs x).mpr (.inl rfl)) h)
    have pu5 : Stt v5 p := pu4.go e5 fun h => htp (show p = t from h).symm
    have f5 : Ext (Tch cs ds p) w v5 := (f4.more fun _ h => .inr (.inr (.inr h))).trans (e5.more fun z h => .inr (.inr (.inl (by rw [show z = t from h]; exact ct))))
    have tl5 : TbL v5.S (putK kt (.inr z) r4) (putT M.T z R) := TbL.go e5 (DicR.put (TbL.go f4 tt) ⟨hr4, hok4⟩)
    obtain ⟨rv, hrv, hrp, _⟩ := DicR.hit tl5 getT_putT
    have hdg : DGet v5.H t (.str z) (some rv) := by
      have := dgetR (.inl o5.h) (.inr z)
      rw [hrv] at this
      exact this
    obtain ⟨pr, vr, rfl, sr, rra⟩ := hrp.list_inv
    ((with_reducible refine s_drop ?_); (with_reducible refine s_meth ?_); (with_reducible refine' s_var ?q110 ?q111); (case q110 => exact rfl); (with_reducible refine' s_rmeth ?q112 ?q113 ?q114); (case q112 => refine' Own.h ?q117; (case q117 => assumption)); (case q113 => refine' lk_tl ?q118 ?q119; (case q118 => decide +kernel); (case q119 => refine' lk_tl ?q120 ?q121; (case q120 => decide +kernel); (case q121 => refine' lk_tl ?q122 ?q123; (case q122 => decide +kernel); (case q123 => exact lk_nil)))); (with_reducible refine s_cons ?_); (with_reducible refine' s_var ?q124 ?q125); (case q124 => exact rfl); (with_reducible refine s_cons ?_); (with_reducible refine s_make ?_); (with_reducible refine s_cons ?_); (with_reducible refine s_CB ?_); (with_reducible refine s_cons ?_); (with_reducible refine s_dget ?_); (with_reducible refine s_dget ?_); (with_reducible refine' s_var ?q126 ?q127); (case q126 => exact rfl); (with_reducible refine s_c ?_); (with_reducible refine' ⟨ _ , _ , rfl , dgetS ?q128 ?q129 , ?q130 ⟩); (case q128 => assumption); (case q129 => exact valS_pos); (with_reducible refine' s_var ?q131 ?q132); (case q131 => exact rfl))
    refine ⟨t, _, rfl, hdg, ?_⟩
    ((with_reducible refine s_nil ?_); (with_reducible refine' s_listS ?q136 ?q137); (case q136 => refine' Or.inl ?q138; (case q138 => refine' SqL.of ( Wd.ok _ _ _ ?q139 ); (case q139 => assumption))); intro _ _ _ _ _; (with_reducible refine s_nil ?_))
    rename_i l6 v6 e6 n6 s6
    refine s_rmake fun xt dxt v7 e7 n7 o7 => s_pm2 ⟨xt, dxt, R, rfl, o7, .lst (st_go e7 s6) ((rra.go e6).go e7), hok4, fun v8 e8 hT8 => ⟨rfl, ?_⟩⟩
    have e58 : Ext Non v5 v8 := (e6.trans e7).step e8 fun b hb => .inl (by rw [show b = xt from hb]; exact e6.back n7)
    have hL8 := hL5.go0 e58
    have oy8 := oy5.ext e58 fun z => z
    have ot8 := o5.ext e58 fun z => z
    have pu8 : Stt v8 p := pu5.go e58 fun z => z
    have tl8 := TbL.go e58 tl5
    have f8 : Ext (Tch cs ds p) w v8 := f5.trans (e58.more fun _ z => z.elim)
    clear e6 e7 e8 n6 s6 n7 o7 hdg hL5 oy5 o5 pu5 ox5 sr rra hrp
    ((with_reducible refine s_nil ?_); (with_reducible refine s_pm3 ?_))
    refine ⟨L, cs, z, R, hL8, rfl, hz.ok z (List.mem_of_mem_take hz6), hT8, hok4, P.lk.room hz hz6, by rw [P.lk.t]; omega, fun v9 e9 hL9 => ?_⟩
    have nb : ∀ z, ds z → ¬ cs z := fun z h1 h2 => P.dj z h2 h1
    have f9 : Ext (Tch cs ds p) w v9 := f8.trans (e9.more fun _ z => .inr (.inl z))
    have f59 : Ext (fun z => z = p ∨ z = t ∨ cs z) w v9 := ((f4.more fun _ h => .inr (.inl h)).trans ((‹Ext (One t) v4 v5›).more fun _ h => .inr (.inr (.inl h)))).trans ((‹Ext Non v5 v8› |>.more fun _ z => z.elim).trans (e9.more fun _ h => .inr (.inr (.inr h))))
    have nb2 : ∀ z, ds z → z ≠ t → ¬ (z = p ∨ z = t ∨ cs z) := fun z hz hn h => h.elim (fun h => np2 (h ▸ hz)) fun h => h.elim hn (nb z hz)
    skip
    refine k v9 { L with T := putT L.T z R } { M with T := putT M.T z R } cs ds f9 ⟨hL9, ⟨y, t, s, bb, g, _, ss, bbs, rfl, oy8.ext e9 (nb y cy), ot8.ext e9 (nb t ct), TbL.go e9 tl8, os.ext f59 (nb2 s cS (own_ne os ot fun z => by cases z)), rs.go f9, obb.ext f59 (nb2 bb cb (own_ne obb ot fun z => by cases z)), rbb.go f9, og.ext f59 (nb2 g cg (own_ne og ot fun z => by cases z)), d1, d2, d3, d4, hc⟩, (P.lk.clock hz6).mono (Nat.le_succ _), P.dj⟩ (pu8.go e9 np1) (fun _ h => .inl h) fun _ h => .inl h
  | false =>
    rw [if_neg (by decide)]
    have hT : M.T ≠ [] := fun h => by
      rw [Bool.or_eq_false_iff] at hb
      have : kt = [] := List.eq_nil_of_length_eq_zero (by rw [lkt, h]; rfl)
      rw [this] at hb
      cases hb.2
    ((with_reducible refine s_ifS ?_); (with_reducible refine s_test ?_); (with_reducible refine s_op ?_); (with_reducible refine' s_var ?q140 ?q141); (case q140 => exact rfl); (with_reducible refine s_c ?_); (with_reducible refine s_lt ?_); (with_reducible refine s_bl ?_))
    refine ite_d (fun c1 => ?_) (fun c1 => ?_)
    · ((with_reducible refine s_drop ?_); (with_reducible refine s_call ?_); (with_reducible refine s_cons ?_); (with_reducible refine' s_var ?q142 ?q143); (case q142 => exact rfl); (with_reducible refine s_cons ?_); (with_reducible refine' s_var ?q144 ?q145); (case q144 => exact rfl); (with_reducible refine s_cons ?_); (with_reducible refine' s_var ?q146 ?q147); (case q146 => exact rfl); (with_reducible refine s_cons ?_); (with_reducible refine' s_var ?q148 ?q149); (case q148 => exact rfl); (with_reducible refine s_nil ?_); (with_reducible refine s_pr4 ?_))
      refine ⟨zs, qz, rfl, sq2, L, M, gn, cs, ds, p, hz, hgn, hT, P2, rfl, pu2, np1, np2, fun v3 L' M' cs' ds' e3 P3 pu3 h1 h2 => ?_⟩
      skip
      exact fin v2 v3 L' M' cs' ds' e12 e3 P3 pu3 h1 h2
    ((with_reducible refine s_ifS ?_); (with_reducible refine s_test ?_); (with_reducible refine s_op ?_); (with_reducible refine' s_var ?q150 ?q151); (case q150 => exact rfl); (with_reducible refine s_c ?_); (with_reducible refine s_lt ?_); (with_reducible refine s_bl ?_))
    refine ite_d (fun c2 => ?_) (fun c2 => ?_)
    · ((with_reducible refine s_drop ?_); (with_reducible refine s_call ?_); (with_reducible refine s_cons ?_); (with_reducible refine' s_var ?q152 ?q153); (case q152 => exact rfl); (with_reducible refine s_cons ?_); (with_reducible refine' s_var ?q154 ?q155); (case q154 => exact rfl); (with_reducible refine s_cons ?_); (with_reducible refine' s_var ?q156 ?q157); (case q156 => exact rfl); (with_reducible refine s_nil ?_); (with_reducible refine s_pr3 ?_))
      refine ⟨zs, L, M, gn, cs, ds, p, hz, hgn, trivial, P2, rfl, pu2, np1, np2, fun v3 L' M' cs' ds' e3 P3 pu3 h1 h2 => ?_⟩
      skip
      exact fin v2 v3 L' M' cs' ds' e12 e3 P3 pu3 h1 h2
    have key : ∀ (R : Bool → Hp → Prop), (∀ u, Ext Non v2 u → R (decide (j1 < 9) && !M.B.isEmpty) u.H) → tAnd (tTest (tOp gLt (tVar 4) (tC (V.int 9)))) (tTest (tOp (gNe K) (tDGet (tVar 1) (tC (V.str (Str.ofString "bonds")))) (tLst tNil))) [some (.ref x), some (.ref y), some (.ref p), some (.ref qz), some (.int j1), none, none] v2.H R := fun R hR => by
      ((with_reducible refine s_and ?_); (with_reducible refine s_test ?_); (with_reducible refine s_op ?_); (with_reducible refine' s_var ?q158 ?q159); (case q158 => exact rfl); (with_reducible refine s_c ?_); (with_reducible refine s_lt ?_); (with_reducible refine s_bl ?_))
      refine ite_d (fun h => ?_) (fun h => ?_)
      · ((with_reducible refine s_test ?_); (with_reducible refine s_op ?_); (with_reducible refine s_dget ?_); (with_reducible refine' s_var ?q160 ?q161); (case q160 => exact rfl); (with_reducible refine s_c ?_); (with_reducible refine' ⟨ _ , _ , rfl , dgetS ?q162 ?q163 , ?q164 ⟩); (case q162 => assumption); (case q163 => refine' valS_neg ?q165 ?q166; (case q165 => decide +kernel); (case q166 => refine' valS_neg ?q167 ?q168; (case q167 => decide +kernel); (case q168 => exact valS_pos))); (with_reducible refine t_lst ?_); (with_reducible refine s_nil ?_); (with_reducible refine' t_newLS ?q169 ?q170); (case q169 => simp only [ List.length , sizeLine_eq ]; omega); intro _ _ _ _ _)
        rename_i l3 v3 e3 n3 s3
        refine s_neNs (shaped_bonds P.lk.bo) (.inr (ob2.ext e3 fun z => z)) (rbb.go (e12.trans (e3.more fun _ z => z.elim))) s3 ⟨_, rfl, ?_⟩
        have := hR v3 e3
        rw [decide_eq_true h, Bool.true_and] at this
        rw [List.isEmpty_map]
        exact this
      · have := hR v2 (Ext.refl _ _)
        rw [decide_eq_false h] at this
        exact this
    refine s_ifS (key _ fun v3 e3 => ?_)
    have e13 : Ext (One p) w v3 := e12.trans (e3.more fun _ z => z.elim)
    have P3 := P2.go0 e3
    have oy3 := oy2.ext e3 fun z => z
    have ox3 := ox2.ext e3 fun z => z
    have ob3 := ob2.ext e3 fun z => z
    have pu3 : Stt v3 p := pu2.go e3 fun z => z
    clear key e3 P2 oy2 ot2 ob2 ox2 pu2 sq2 e12
    cases hb2 : (decide (j1 < 9) && !M.B.isEmpty) with
    | false =>
      rw [if_neg (by decide)]
      ((with_reducible refine s_drop ?_); (with_reducible refine s_call ?_); (with_reducible refine s_cons ?_); (with_reducible refine' s_var ?q171 ?q172); (case q171 => exact rfl); (with_reducible refine s_cons ?_); (with_reducible refine' s_var ?q173 ?q174); (case q173 => exact rfl); (with_reducible refine s_cons ?_); (with_reducible refine' s_var ?q175 ?q176); (case q175 => exact rfl); (with_reducible refine s_nil ?_); (with_reducible refine s_pr3 ?_))
      refine ⟨zs, L, M, gn, cs, ds, p, hz, hgn, trivial, P3, rfl, pu3, np1, np2, fun v4 L' M' cs' ds' e4 P4 pu4 h1 h2 => ?_⟩
      skip
      exact fin v3 v4 L' M' cs' ds' e13 e4 P4 pu4 h1 h2
    | true =>
      rw [if_pos rfl]
      have hB : 0 < M.B.length := by
        rw [Bool.and_eq_true] at hb2
        cases h : M.B with
        | nil => rw [h] at hb2; cases hb2.2
        | cons _ _ => simp
      have hbl := P.lk.bl
      wtm_at "gs"
      rename_i v4 j4 e4 pu4 h40 h41
      obtain ⟨i, rfl⟩ := Int.eq_ofNat_of_zero_le h40
      have hi : i < bbs.length := by omega
      have P4 := P3.one e4 np1 np2
      have ox4 := ox3.ext e4 hxp
      have f4 : Ext (One p) w v4 := e13.trans e4
      skip
      refine ⟨L, cs, i, P4.l, rfl, by rw [P.lk.b]; omega, by rw [P.lk.b]; omega, fun v5 e5 hL5 => ?_⟩
      have nb : ∀ z, ds z → ¬ cs z := fun z h1 h2 => P.dj z h2 h1
      have f5 : Ext (fun z => cs z ∨ z = p) w v5 := (f4.more fun _ z => .inr (.inr z)).trans (e5.more fun _ z => .inr (.inl z))
      have nb2 : ∀ z, ds z → ¬ (cs z ∨ z = p) := fun z hz h => h.elim (fun h => P.dj z h hz) fun h => np2 (h ▸ hz)
      have oy5 := oy.ext f5 (nb2 y cy)
      have ot5 := ot.ext f5 (nb2 t ct)
      have os5 := os.ext f5 (nb2 s cS)
      have ob5 := obb.ext f5 (nb2 bb cb)
      have og5 := og.ext f5 (nb2 g cg)
      have pu5 : Stt v5 p := pu4.go e5 np1
      clear e4 P3 P4 oy3 ox3 ob3 pu3 ox4 f4 e5 pu4
      ((with_reducible refine s_drop ?_); (with_reducible refine s_BM ?_); (with_reducible refine s_dget ?_); (with_reducible refine' s_var ?q225 ?q226); (case q225 => exact rfl); (with_reducible refine s_c ?_); (with_reducible refine' ⟨ _ , _ , rfl , dgetS ?q227 ?q228 , ?q229 ⟩); (case q227 => assumption); (case q228 => refine' valS_neg ?q230 ?q231; (case q230 => decide +kernel); (case q231 => refine' valS_neg ?q232 ?q233; (case q232 => decide +kernel); (case q233 => exact valS_pos))); (with_reducible refine' s_ty ?q234 ?q235); (case q234 => assumption); (with_reducible refine s_cons ?_); (with_reducible refine' s_var ?q236 ?q237); (case q236 => exact rfl); (with_reducible refine s_nil ?_))
      refine s_popA ob5 (List.getElem?_eq_getElem hi) (by omega) fun v6 e6 o6 => ?_
      have hyb : y ≠ bb := own_ne oy obb (fun z => by cases z)
      have htb : t ≠ bb := own_ne ot obb (fun z => by cases z)
      have f6 : Ext (Tch cs ds p) w v6 := (f5.more fun z h => .inr (h.elim .inl fun h => .inr (.inr h))).trans (e6.more fun z h => .inr (.inr (.inl (by rw [show z = bb from h]; exact cb))))
      skip
      refine k v6 { L with B := L.B.eraseIdx i } { M with B := M.B.eraseIdx i } cs ds f6 ⟨hL5.go e6 fun z hz h => P.dj z hz (by rw [show z = bb from h]; exact cb), ⟨y, t, s, bb, g, kt, ss, bbs.eraseIdx i, rfl, oy5.ext e6 hyb, ot5.ext e6 htb, TbL.go f6 tt, os5.ext e6 d2, rs.go f6, o6, ?_, og5.ext e6 (fun h => d4 (show g = bb from h).symm), d1, d2, d3, d4, hc⟩, (P.lk.unbind i).mono (Nat.le_succ _), P.dj⟩ (pu5.go e6 fun h => hbp (show p = bb from h).symm) (fun _ h => .inl h) fun _ h => .inl h
      show RpA v6.S (bbs.eraseIdx i) ((M.B.eraseIdx i).map bondD)
      rw [← map_erase]
      exact (rbb.go f6).erase i
abbrev nm_law : List Str := ["_law_script", "_law_state", "_law_names_here", "_law_logs", "_law_none", "_law_kept", "_law_k", "_law_at", "_law_turn"]
theorem sc_law : FnScope nm_law ["_law_script"] (defScope s_law) := ⟨rfl, rfl, rfl, by decide +kernel, rfl, by decide +kernel, by decide +kernel⟩
theorem st_law (a : V) : start nm_law [a] = [some a, none, none, none, none, none, none, none, none] := rfl
def p_law (K : PySem.W.Frag) (w : Wd) (a : V) (Q : VK) (_ : XK) : Prop := Scr K w a ∧ ∀ v, Ext Non w v → Q (.bl true) v.H
theorem ok_law {f : Addr} {fd : FuncData} {C_Entry C_Within C_At C_Between C_Table C_Read C_Log C_LogError C_NoEntry C_NoMoment C_NoName C_NoPlace C_NoReading : Addr} (F : Fun K "law" "law" s_law f fd) (T : Txt K mg C_Entry C_Within C_At C_Between C_Table C_Read C_Log C_LogError C_NoEntry C_NoMoment C_NoName C_NoPlace C_NoReading) (c_Log_copied : Mth P ww K mg base CX0 C_Log 3 "copied" (pr1 (p_Log_copied K (EC.mk C_Entry C_Within C_At C_Between C_Read C_Entry C_Entry) C_Log C_Table))) (c_Log_init : Mkr P ww K mg base CX0 C_Log 1 (pr1 (p_Log_init K (EC.mk C_Entry C_Within C_At C_Between C_Read C_Entry C_Entry) C_Log C_Table))) (c_l_begun : Fnc P ww K mg base CX0 1 "_law_begun" (pr1 (p_l_begun))) (c_l_cell : Fnc P ww K mg base CX0 1 "_law_cell" (pr2 (p_l_cell K))) (c_l_copy : Fnc P ww K mg base CX0 1 "_law_copy" (pr1 (p_l_copy))) (c_l_done : Fnc P ww K mg base CX0 9 "_law_done" (pr4 (p_l_done K (EC.mk C_Entry C_Within C_At C_Between C_Read C_Entry C_Entry) C_Log C_Table))) (c_l_names : Fnc P ww K mg base CX0 3 "_law_names" (pr2 (p_l_names))) (c_l_pull : Fnc P ww K mg base CX0 2 "_law_pull" (pr2 (p_l_pull))) (c_l_right : Fnc P ww K mg base CX0 7 "_law_right" (pr2 (p_l_right K (EC.mk C_Entry C_Within C_At C_Between C_Read C_Entry C_Entry) C_Log C_Table C_NoEntry))) : FnOk P ww K mg base CX0 10 f fd ["_law_script"] (pr1 (p_law K)) := by
  refine F.ok sc_law (fun vs H Q E h => len1 h) (fun cdv A outer s H vs Q E hr h => ?_)
  obtain ⟨w, x0,  rfl, rfl, h⟩ := h
  have ekT := ek_T T
  have cl_Table := T.cl_Table
  have na_Table_kept_rows := T.na_Table_kept_rows
  have cl_Log := T.cl_Log
  have na_Log_bound := T.na_Log_bound
  have na_Log_clocks := T.na_Log_clocks
  have na_Log_line := T.na_Log_line
  have na_Log_name := T.na_Log_name
  have oex_NoEntry := T.oex_NoEntry; have xf_NoEntry := T.xf_NoEntry; have ec_NoEntry := T.ec_NoEntry; have xn_NoEntry := T.xn_NoEntry
  have oex_NoMoment := T.oex_NoMoment; have xf_NoMoment := T.xf_NoMoment; have ec_NoMoment := T.ec_NoMoment; have xn_NoMoment := T.xn_NoMoment
  have oex_NoName := T.oex_NoName; have xf_NoName := T.xf_NoName; have ec_NoName := T.ec_NoName; have xn_NoName := T.xn_NoName
  have oex_NoPlace := T.oex_NoPlace; have xf_NoPlace := T.xf_NoPlace; have ec_NoPlace := T.ec_NoPlace; have xn_NoPlace := T.xn_NoPlace
  have oex_NoReading := T.oex_NoReading; have xf_NoReading := T.xf_NoReading; have ec_NoReading := T.ec_NoReading; have xn_NoReading := T.xn_NoReading
  have rel_NoEntry_NoEntry := T.rel_NoEntry_NoEntry
  have exm_NoEntry_NoEntry := T.exm_NoEntry_NoEntry
  refine ⟨_, (pss_cons (ps_set (i := 1) sc_law.nd rfl (Or.inl rfl) (pe_fn c_l_begun hr (by decide) pass0 (pa_cons (pe_fn c_l_cell hr (by decide) pass0 (pa_cons (pv 0) (pa_cons pe_int pa_nil))) pa_nil)))
      (pss_cons (ps_set (i := 2) sc_law.nd rfl (Or.inl rfl) (pe_fn c_l_names hr (by decide) pass0 (pa_cons (pv 1) (pa_cons pe_int pa_nil))))
      (pss_cons (ps_set (i := 3) sc_law.nd rfl (Or.inl rfl) (pe_lst (pa_cons (pe_mk0 c_Log_init hr (by decide) T.g_Log pass0) pa_nil)))
      (pss_cons (ps_expr (pe_bm PySem.F.plainAttrs_list PySem.F.slot_list_append PySem.F.type_list_append mt_append (pv 3) (pa_cons (pe_mth0 c_Log_copied T.cl_Log hr (by decide) pass0 (pe_ix (kIx K) (pv 3) pe_int (fun _ _ => rfl))) pa_nil)))
      (pss_cons (ps_set (i := 4) sc_law.nd rfl (Or.inl rfl) (pe_disp (pps_cons pe_str pe_dnewK (pps_cons pe_str (pe_lst pa_nil) (pps_cons pe_str (pe_lst pa_nil) (pps_cons pe_str (pe_lst pa_nil) pps_nil)))) (by rfl) (by rfl) (fun z => by cases z) (by decide)))
      (pss_cons (ps_set (i := 5) sc_law.nd rfl (Or.inl rfl) (pe_lst (pa_cons (pe_fn c_l_copy hr (by decide) pass0 (pa_cons (pv 4) pa_nil)) (pa_cons (pe_fn c_l_copy hr (by decide) pass0 (pa_cons (pv 4) pa_nil)) pa_nil))))
      (pss_cons (ps_for PassesOwn.never rfl (pi_range2 rfl T.n_range (pa_cons pe_int (pa_cons (pe_callB (kMax K rfl) (by rfl) T.n_max (by decide +kernel) (pa_cons pe_int (pa_cons (pe_callB (kMin K rfl) (by rfl) T.n_min (by decide +kernel) (pa_cons pe_int (pa_cons (pe_callB (kLen K) (by rfl) T.n_len (by decide +kernel) (pa_cons (pv 0) pa_nil)) pa_nil))) pa_nil))) pa_nil))) (pg_name (i := 6) sc_law.nd rfl (Or.inl rfl)) (pss_cons (ps_set (i := 1) sc_law.nd rfl (Or.inl rfl) (pe_fn c_l_begun hr (by decide) pass0 (pa_cons (pe_fn c_l_cell hr (by decide) pass0 (pa_cons (pv 0) (pa_cons (pv 6) pa_nil))) pa_nil)))
      (pss_cons (ps_set (i := 7) sc_law.nd rfl (Or.inl rfl) (pe_fn c_l_pull hr (by decide) pass0 (pa_cons (pv 1) (pa_cons pe_int pa_nil))))
      (pss_cons (ps_if (pt_cmpR (kEq K hr.units) (pe_fn c_l_pull hr (by decide) pass0 (pa_cons (pv 1) (pa_cons pe_int pa_nil))) pe_int (nomark _)) (pss_cons (ps_asg (pe_mth0 c_Log_copied T.cl_Log hr (by decide) pass0 (pe_ix (kIx K) (pv 3) (pv 7) (fun _ _ => rfl))) (pg_sub (pv 3) (pe_op g_sub pe_int (pv 7)) set_list))
      (pss_one (ps_asg (pe_fn c_l_copy hr (by decide) pass0 (pa_cons (pe_ix (kIx K) (pv 5) (pv 7) (fun _ _ => rfl)) pa_nil)) (pg_sub (pv 5) (pe_op g_sub pe_int (pv 7)) set_list)))) pss_nil)
      (pss_one (ps_for PassesOwn.never rfl (pi_range1 rfl T.n_range (pa_cons (pe_op (kAdd K) pe_int (pe_fn c_l_pull hr (by decide) pass0 (pa_cons (pv 1) (pa_cons pe_int pa_nil)))) pa_nil)) (pg_name (i := 8) sc_law.nd rfl (Or.inl rfl)) (pss_cons (ps_expr (pe_fn c_l_done hr (by decide) pass0 (pa_cons (pe_ix (kIx K) (pv 3) (pv 7) (fun _ _ => rfl)) (pa_cons (pe_ix (kIx K) (pv 5) (pv 7) (fun _ _ => rfl)) (pa_cons (pv 1) (pa_cons (pv 2) pa_nil))))))
      (pss_one (ps_if (PW.pt (pw_or (pt_not (pt_val (pe_fn c_l_right hr (by decide) pass0 (pa_cons (pe_ix (kIx K) (pv 3) pe_int (fun _ _ => rfl)) (pa_cons (pe_ix (kIx K) (pv 5) pe_int (fun _ _ => rfl)) pa_nil))))) (pw_or1 (pt_not (pt_val (pe_fn c_l_right hr (by decide) pass0 (pa_cons (pe_ix (kIx K) (pv 3) pe_int (fun _ _ => rfl)) (pa_cons (pe_ix (kIx K) (pv 5) pe_int (fun _ _ => rfl)) pa_nil)))))))) (pss_one (ps_ret pe_bl)) pss_nil)))))))))
      (pss_one (ps_ret pe_bl))))))))), ?_⟩
  rw [st_law]
  obtain ⟨sc, k⟩ := h
  have sc0 := sc
  obtain ⟨a, ns, rfl, hs, hl⟩ := sc
  ((with_reducible refine s_seq ?_); (with_reducible refine s_asg ?_); (with_reducible refine s_call ?_); (with_reducible refine s_cons ?_); (with_reducible refine s_call ?_); (with_reducible refine s_cons ?_); (with_reducible refine' s_var ?q0 ?q1); (case q0 => exact rfl); (with_reducible refine s_cons ?_); (with_reducible refine s_c ?_); (with_reducible refine s_nil ?_); (with_reducible refine s_pr2 ?_))
  refine ⟨_, sc0, rfl, by omega, fun v z ev => ?_⟩
  ((with_reducible refine s_nil ?_); (with_reducible refine s_pr1 ?_))
  refine ⟨_, rfl, fun v2 p e2 n2 pu => ?_⟩
  ((with_reducible refine' s_gname ?q2 ?q3); (case q2 => simp only [ List.set_cons_succ , List.set_cons_zero ]; exact rfl); (with_reducible refine s_seq ?_); (with_reducible refine s_asg ?_); (with_reducible refine s_call ?_); (with_reducible refine s_cons ?_); (with_reducible refine' s_var ?q4 ?q5); (case q4 => exact rfl); (with_reducible refine s_cons ?_); (with_reducible refine s_c ?_); (with_reducible refine s_nil ?_); (with_reducible refine s_pr2 ?_))
  refine ⟨p, 20, rfl, rfl, pu, by decide, by decide, fun v3 q zs e3 pu3 s3 hzs => ?_⟩
  have hz : Nm20 zs := ⟨hzs.1, hzs.2.2 (by decide), hzs.2.1⟩
  have f3 : Ext Non w v3 := (ev.trans e2).step e3 fun b hb => .inl (by rw [show b = p from hb]; exact ev.back n2)
  clear ev e2 e3 n2 pu pu3
  ((with_reducible refine' s_gname ?q6 ?q7); (case q6 => simp only [ List.set_cons_succ , List.set_cons_zero ]; exact rfl); (with_reducible refine s_seq ?_); (with_reducible refine s_asg ?_); (with_reducible refine t_lst ?_); (with_reducible refine s_cons ?_); (with_reducible refine s_make ?_); (with_reducible refine s_nil ?_))
  refine s_rmake fun x4 dx4 v4 e4 n4 o4 => s_pm1 ⟨x4, dx4, rfl, o4, fun v5 cs5 e5 hL5 hc5 => ⟨rfl, ?_⟩⟩
  clear o4
  obtain ⟨_, dx5, _, _, _, _, _, _, hx5, ox5, _⟩ := id hL5
  cases hx5
  have f5 : Ext Non w v5 := (f3.trans e4).step e5 fun b hb => .inl (by rw [show b = x4 from hb]; exact f3.back n4)
  have nc5 : ∀ y, cs5 y → w.H y = none := fun y hy => (hc5 y hy).elim (fun h => by rw [h]; exact f3.back n4) fun h => (f3.trans e4).back h
  ((with_reducible refine s_nil ?_); (with_reducible refine' t_newL ?q8 ?q9); (case q8 => simp only [ List.length , sizeLine_eq ]; omega); intro _ _ _ _ _; (with_reducible refine' s_gname ?q10 ?q11); (case q10 => simp only [ List.set_cons_succ , List.set_cons_zero ]; exact rfl); (with_reducible refine s_seq ?_); (with_reducible refine s_drop ?_); (with_reducible refine s_BM ?_); (with_reducible refine' s_var ?q12 ?q13); (case q12 => exact rfl); (with_reducible refine' s_ty ?q14 ?q15); (case q14 => assumption); (with_reducible refine s_cons ?_); (with_reducible refine s_meth ?_); (with_reducible refine s_op ?_); (with_reducible refine' s_var ?q16 ?q17); (case q16 => exact rfl); (with_reducible refine s_c ?_); (with_reducible refine' s_ixO ?q28 ?q29 ?q30); (case q28 => assumption); (case q29 => exact rfl); (with_reducible refine' s_rmeth ?q31 ?q32 ?q33); (case q31 => refine' Own.h ?q37; (case q37 => refine' Own.ext ( by assumption ) ?q38 ?q39; (case q38 => exact fun h => h); (case q39 => assumption))); (case q32 => refine' lk_tl ?q40 ?q41; (case q40 => decide +kernel); (case q41 => refine' lk_tl ?q42 ?q43; (case q42 => decide +kernel); (case q43 => refine' lk_tl ?q44 ?q45; (case q44 => decide +kernel); (case q45 => exact lk_nil)))); (with_reducible refine s_nil ?_); (with_reducible refine s_pm1 ?_))
  rename_i lp v6 e6 n6 o6
  have ox6 := ox5.ext e6 fun z => z
  have q6 := (hL5.go0 e6)
  have s6 := st_go e6 (st_go e5 (st_go e4 s3))
  have f6 := f5.trans e6
  have nlp : w.H lp = none := f5.back n6
  have hlp5 : ¬ cs5 lp := fun h => by obtain ⟨o, ho⟩ := hL5.cell h; rw [ho.h] at n6; cases n6
  clear e4 n4 e5 hc5 hL5 ox5 s3 f3 e6 n6 f5
  refine ⟨_, cs5, q6, by decide, fun v7 x7 cs7 e7 hL7 hc7 => ?_⟩
  have o7 := o6.ext e7 fun z => z
  have nc7 : ∀ y, cs7 y → w.H y = none := fun y hy => f6.back (hc7 y hy)
  have hlp7 : ¬ cs7 lp := fun h => by have := hc7 lp h; rw [o6.h] at this; cases this
  have dj57 : ∀ y, cs5 y → ¬ cs7 y := fun y h1 h2 => by obtain ⟨o, ho⟩ := q6.cell h1; have := hc7 y h2; rw [ho.h] at this; cases this
  have q7 := q6.go0 e7
  have s7 := st_go e7 s6
  have f7 := f6.trans e7
  clear e7 o6 ox6 q6 s6 f6 hc7
  ((with_reducible refine s_nil ?_); (with_reducible refine' s_app ?q46 ?q47 ?q48); (case q46 => assumption); (case q47 => simp only [ List.length_append , List.length_cons , List.length_nil , List.length_map , List.length_reverse , List.length_replicate , sizeLine_eq ]; omega); intro _ _ _; (with_reducible refine s_seq ?_); (with_reducible refine s_asg ?_); (with_reducible refine t_disp ?_))
  rename_i v8 e8 o8
  have q58 := q7.go e8 fun y hy h => hlp5 (by rw [← show y = lp from h]; exact hy)
  have q78 := hL7.go e8 fun y hy h => hlp7 (by rw [← show y = lp from h]; exact hy)
  have s8 := st_go e8 s7
  have f8 : Ext Non w v8 := f7.step e8 fun b hb => .inl (by rw [show b = lp from hb]; exact nlp)
  clear e8 o7 q7 hL7 s7 f7
  intro pd v9 e9 n9 o9
  ((with_reducible refine s_pcons ?_); (with_reducible refine s_c ?_); (with_reducible refine' s_dnew ?q49); intro _ _ _ _ _; (with_reducible refine s_pcons ?_); (with_reducible refine s_c ?_); (with_reducible refine t_lst ?_); (with_reducible refine s_nil ?_); (with_reducible refine' t_newL ?q50 ?q51); (case q50 => simp only [ List.length , sizeLine_eq ]; omega); intro _ _ _ _ _; (with_reducible refine s_pcons ?_); (with_reducible refine s_c ?_); (with_reducible refine t_lst ?_); (with_reducible refine s_nil ?_); (with_reducible refine' t_newL ?q52 ?q53); (case q52 => simp only [ List.length , sizeLine_eq ]; omega); intro _ _ _ _ _; (with_reducible refine s_pcons ?_); (with_reducible refine s_c ?_); (with_reducible refine t_lst ?_); (with_reducible refine s_nil ?_); (with_reducible refine' t_newL ?q54 ?q55); (case q54 => simp only [ List.length , sizeLine_eq ]; omega); intro _ _ _ _ _; (with_reducible refine s_pnil ?_))
  rename_i t10 v10 e10 n10 o10 s11 v11 e11 n11 o11 b12 v12 e12 n12 o12 g13 v13 e13 n13 o13
  have opd : Own v13 pd (.dK []) := (((o9.ext e10 fun z => z).ext e11 fun z => z).ext e12 fun z => z).ext e13 fun z => z
  refine t_dispE opd [(.inr "tables", .ref t10), (.inr "specs", .ref s11), (.inr "bonds", .ref b12), (.inr "gone", .ref g13)] [(.inr "tables", .ref t10), (.inr "specs", .ref s11), (.inr "bonds", .ref b12), (.inr "gone", .ref g13)] rfl (mergeK_nd (show ([.inr "tables", .inr "specs", .inr "bonds", .inr "gone"] : List Key).Nodup by decide +kernel)) (by simp) fun v14 e14 o14 => ?_
  have dpt : pd ≠ t10 := o9.ne n10
  have dps : pd ≠ s11 := (o9.ext e10 fun z => z).ne n11
  have dpb : pd ≠ b12 := ((o9.ext e10 fun z => z).ext e11 fun z => z).ne n12
  have dpg : pd ≠ g13 := (((o9.ext e10 fun z => z).ext e11 fun z => z).ext e12 fun z => z).ne n13
  have dsb : s11 ≠ b12 := o11.ne n12
  have dsg : s11 ≠ g13 := (o11.ext e12 fun z => z).ne n13
  have dbg : b12 ≠ g13 := o12.ne n13
  have e813 : Ext Non v8 v13 := e9.trans (e10.trans (e11.trans (e12.trans e13)))
  have npd : v8.H pd = none := n9
  have e814 : Ext Non v8 v14 := e813.step e14 fun b hb => .inl (by rw [show b = pd from hb]; exact npd)
  have K14 : KeptO v14 (.ref pd) ⟨[], [], [], []⟩ (fun y => y = pd ∨ y = t10 ∨ y = s11 ∨ y = b12 ∨ y = g13) := ⟨pd, t10, s11, b12, g13, [], [], [], rfl, o14, (((o10.ext e11 fun z => z).ext e12 fun z => z).ext e13 fun z => z).ext e14 (fun h => dpt (show t10 = pd from h).symm), .nil,
    ((o11.ext e12 fun z => z).ext e13 fun z => z).ext e14 (fun h => dps (show s11 = pd from h).symm), .nil, (o12.ext e13 fun z => z).ext e14 (fun h => dpb (show b12 = pd from h).symm), .nil, o13.ext e14 (fun h => dpg (show g13 = pd from h).symm), dpt, dsb, dsg, dbg, fun y => Iff.rfl⟩
  have q514 := q58.go0 e814
  have q714 := q78.go0 e814
  have s14 := st_go e814 s8
  have f14 := f8.trans e814
  have o814 := o8.ext e814 fun z => z
  clear e9 e10 e11 e12 e13 e14 e813 e814 o8 o9 o10 o11 o12 o13 o14 opd n9 n10 n11 n12 n13 npd q58 q78 s8 f8
  generalize (fun y => y = pd ∨ y = t10 ∨ y = s11 ∨ y = b12 ∨ y = g13) = dd at K14
  ((with_reducible refine' s_gname ?q56 ?q57); (case q56 => simp only [ List.set_cons_succ , List.set_cons_zero ]; exact rfl); (with_reducible refine s_seq ?_); (with_reducible refine s_asg ?_); (with_reducible refine t_lst ?_); (with_reducible refine s_cons ?_); (with_reducible refine s_call ?_); (with_reducible refine s_cons ?_); (with_reducible refine' s_var ?q58 ?q59); (case q58 => exact rfl); (with_reducible refine s_nil ?_); (with_reducible refine s_pr1 ?_))
  refine ⟨_, dd, K14, fun v15 r15 d15 e15 K15 h15 => ?_⟩
  have K15d := K14.go0 e15
  ((with_reducible refine s_cons ?_); (with_reducible refine s_call ?_); (with_reducible refine s_cons ?_); (with_reducible refine' s_var ?q60 ?q61); (case q60 => exact rfl); (with_reducible refine s_nil ?_); (with_reducible refine s_pr1 ?_))
  refine ⟨_, dd, K15d, fun v16 r16 d16 e16 K16 h16 => ?_⟩
  ((with_reducible refine s_nil ?_); (with_reducible refine' t_newL ?q62 ?q63); (case q62 => simp only [ List.length , sizeLine_eq ]; omega); intro _ _ _ _ _; (with_reducible refine' s_gname ?q64 ?q65); (case q64 => simp only [ List.set_cons_succ , List.set_cons_zero ]; exact rfl); (with_reducible refine s_seq ?_); (with_reducible refine s_for ?_); (with_reducible refine s_iRng2 ?_); (with_reducible refine s_cons ?_); (with_reducible refine s_c ?_); (with_reducible refine s_cons ?_); (with_reducible refine s_CB ?_); (with_reducible refine s_cons ?_); (with_reducible refine s_c ?_); (with_reducible refine s_cons ?_); (with_reducible refine s_CB ?_); (with_reducible refine s_cons ?_); (with_reducible refine s_c ?_); (with_reducible refine s_cons ?_); (with_reducible refine s_CB ?_); (with_reducible refine s_cons ?_); (with_reducible refine' s_var ?q66 ?q67); (case q66 => exact rfl); (with_reducible refine s_nil ?_))
  rename_i kp v17 e17 n17 o17
  have c14 : ∀ y o, Own v14 y o → v14.H y = none → False := fun y o ho h => by rw [ho.h] at h; cases h
  have c15 : ∀ y o, Own v15 y o → v15.H y = none → False := fun y o ho h => by rw [ho.h] at h; cases h
  have c16 : ∀ y o, Own v16 y o → v16.H y = none → False := fun y o ho h => by rw [ho.h] at h; cases h
  have e1417 : Ext Non v14 v17 := e15.trans (e16.trans e17)
  have D : Duo K (EC.mk C_Entry C_Within C_At C_Between C_Read C_Entry C_Entry) C_Log C_Table zs v17 0 lp kp 0 (.ref x4) r15 (.ref x7) r16 ⟨[], [], []⟩ ⟨[], [], []⟩ ⟨[], [], [], []⟩ ⟨[], [], [], []⟩ cs5 cs7 d15 d16 := by
    refine ⟨fun h => c16 kp _ (h ▸ (o814.ext e15 fun z => z).ext e16 fun z => z) n17, o814.ext e1417 fun z => z, o17, ⟨q514.go0 e1417, (K15.go0 e16).go0 e17, Lk.nil zs, fun y h1 h2 => ?_⟩, ⟨q714.go0 e1417, K16.go0 e17, Lk.nil zs, fun y h1 h2 => ?_⟩, fun y h1 h2 => ?_, ⟨fun h => ?_, fun h => ?_⟩, ⟨fun h => ?_, fun h => ?_⟩⟩
    · obtain ⟨o, ho⟩ := q514.cell h1
      exact c14 y o ho (h15 y h2)
    · obtain ⟨o, ho⟩ := (q714.go0 e15).cell h1
      exact c15 y o ho (h16 y h2)
    · rcases h1 with h1 | h1 <;> rcases h2 with h2 | h2
      · exact dj57 y h1 h2
      · obtain ⟨o, ho⟩ := (q514.go0 e15).cell h1
        exact c15 y o ho (h16 y h2)
      · obtain ⟨o, ho⟩ := q714.cell h2
        exact c14 y o ho (h15 y h1)
      · obtain ⟨o, ho⟩ := K15.cell h1
        exact c15 y o ho (h16 y h2)
    · exact h.elim hlp5 fun h => c14 lp _ o814 (h15 lp h)
    · exact h.elim hlp7 fun h => c15 lp _ (o814.ext e15 fun z => z) (h16 lp h)
    · rcases h with h | h
      · obtain ⟨o, ho⟩ := ((q514.go0 e15).go0 e16).cell h
        exact c16 kp o ho n17
      · obtain ⟨o, ho⟩ := (K15.go0 e16).cell h
        exact c16 kp o ho n17
    · rcases h with h | h
      · obtain ⟨o, ho⟩ := ((q714.go0 e15).go0 e16).cell h
        exact c16 kp o ho n17
      · obtain ⟨o, ho⟩ := K16.cell h
        exact c16 kp o ho n17
  have s17 := st_go e1417 s14
  have f17 := f14.trans e1417
  have nkp : w.H kp = none := (f14.trans (e15.trans e16)).back n17
  have nc15 : ∀ y, d15 y → w.H y = none := fun y hy => f14.back (h15 y hy)
  have nc16 : ∀ y, d16 y → w.H y = none := fun y hy => (f14.trans e15).back (h16 y hy)
  clear e15 e16 e17 n17 o17 c14 c15 c16 e1417 q514 q714 K14 K15 K16 K15d h15 h16 o814 f14 s14 hlp5 hlp7 dj57
  have sc17 := sc0.go f17
  have hs17 : SqL K v17.H a (ns.map V.int) := v17.ok.seq (sq_go f17 hs)
  skip
  refine s_lenK hs17 ?_
  rw [List.length_map]
  ((with_reducible refine s_nil ?_); (with_reducible refine s_min ?_); (with_reducible refine s_nil ?_); (with_reducible refine s_max ?_); (with_reducible refine s_nil ?_))
  refine ⟨_, _, rfl, ⟨by decide, by decide, by omega, by omega⟩, ?_⟩
  have nw17 : ∀ y, (cs5 y ∨ d15 y) ∨ (cs7 y ∨ d16 y) → w.H y = none := fun y hy => hy.elim (fun h => h.elim (nc5 y) (nc15 y)) fun h => h.elim (nc7 y) (nc16 y)
  refine forW (ww_range (lo := 1) (m := _)) (fun i σ u => Ext Non w u ∧ u.S q = some (.lst (zs.map V.str)) ∧ DuoN K (EC.mk C_Entry C_Within C_At C_Between C_Read C_Entry C_Entry) C_Log C_Table zs w u (2 * i) lp kp 0 ∧ ∃ g1 g6 g7 g8, σ = [some (.ref a), g1, some (.ref q), some (.ref lp), some (.ref pd), some (.ref kp), g6, g7, g8]) ⟨f17, s17, ⟨_, _, _, _, _, _, _, _, _, _, _, _, D, nw17⟩, _, _, _, _, rfl⟩ (fun _ _ _ _ _ => trivial) ?_ ?_
  · rintro i _ σ _ u hi ⟨eu, su, hD, g1, g6, g7, g8, rfl⟩ ⟨rfl, rfl⟩
    clear D s17 sc17 hs17 nw17 nc15 nc16 nc5 nc7 f17
    ((with_reducible refine' s_gname ?q114 ?q115); (case q114 => simp only [ List.set_cons_succ , List.set_cons_zero ]; exact rfl); (with_reducible refine s_seq ?_); (with_reducible refine s_asg ?_); (with_reducible refine s_call ?_); (with_reducible refine s_cons ?_); (with_reducible refine s_call ?_); (with_reducible refine s_cons ?_); (with_reducible refine' s_var ?q116 ?q117); (case q116 => exact rfl); (with_reducible refine s_cons ?_); (with_reducible refine' s_var ?q118 ?q119); (case q118 => exact rfl); (with_reducible refine s_nil ?_); (with_reducible refine s_pr2 ?_))
    refine ⟨_, sc0.go eu, rfl, by omega, fun v z ev => ?_⟩
    ((with_reducible refine s_nil ?_); (with_reducible refine s_pr1 ?_))
    refine ⟨_, rfl, fun v2 p2 e2 n2 pu2 => ?_⟩
    wtm_at "gsi"
    rename_i v3 j3 e3 pu3 h30 h31
    obtain ⟨a1, b1, a2, b2, L1, L2, M1, M2, c1, c2, d1, d2, D0, nw0⟩ := hD.turn (by decide) (by decide) h30 h31
    have D1 := D0.go0 ev
    have out : OutD p2 lp kp c1 c2 d1 d2 := D1.new n2
    have D3 := (D1.go0 e2).one out e3
    have np2 : w.H p2 = none := (eu.trans ev).back n2
    have e3w : Ext Non w v3 := ((eu.trans ev).trans e2).step e3 fun b hb => .inl (by rw [show b = p2 from hb]; exact np2)
    have s3 := st_go e3 (st_go e2 (st_go ev su))
    clear D0 D1 hD ev e2 n2 e3 pu2 su
    refine s_ifJ (fun σ u' => ∃ a1 b1 a2 b2 L1 L2 M1 M2 c1 c2 d1 d2, Duo K (EC.mk C_Entry C_Within C_At C_Between C_Read C_Entry C_Entry) C_Log C_Table zs u' (2 * i) lp kp j3 a1 b1 a2 b2 L1 L2 M1 M2 c1 c2 d1 d2 ∧ (∀ y, (c1 y ∨ d1 y) ∨ (c2 y ∨ d2 y) → w.H y = none) ∧ OutD p2 lp kp c1 c2 d1 d2 ∧ Ext Non w u' ∧ Stt u' p2 ∧ u'.S q = some (.lst (zs.map V.str)) ∧ σ = [some (.ref a), some (.ref p2), some (.ref q), some (.ref lp), some (.ref pd), some (.ref kp), some (.int (1 + ((i : Nat) : Int))), some (.int j3), g8]) (fun Z hZ => ?_) ?_
    · wtm_at "go"
      rename_i v4 j4 e4 pu4 h40 h41
      have D4 := D3.one out e4
      have e4w : Ext Non w v4 := e3w.step e4 fun b hb => .inl (by rw [show b = p2 from hb]; exact np2)
      have s4 := st_go e4 s3
      refine ite_d (fun hb => ?_) (fun hb => ?_)
      · ((with_reducible refine s_seq ?_); (with_reducible refine s_asg ?_); (with_reducible refine s_meth ?_); (with_reducible refine s_op ?_); (with_reducible refine' s_var ?q136 ?q137); (case q136 => exact rfl); (with_reducible refine' s_var ?q138 ?q139); (case q138 => exact rfl))
        obtain ⟨x, dx, _, _, _, _, _, _, rfl, ox4, _⟩ := id D4.p1.l
        refine s_ixO D4.ol (sw_at h30 h31) ?_
        ((with_reducible refine' s_rmeth ?q163 ?q164 ?q165); (case q163 => refine' Own.h ?q168; (case q168 => assumption)); (case q164 => refine' lk_tl ?q169 ?q170; (case q169 => decide +kernel); (case q170 => refine' lk_tl ?q171 ?q172; (case q171 => decide +kernel); (case q172 => refine' lk_tl ?q173 ?q174; (case q173 => decide +kernel); (case q174 => exact lk_nil)))); (with_reducible refine s_nil ?_); (with_reducible refine s_pm1 ?_))
        refine ⟨L1, c1, D4.p1.l, by rw [D4.p1.lk.b]; exact Nat.lt_of_le_of_lt D4.p1.lk.bl (by decide), fun v5 x5 c5 e5 hL5 hc5 => ?_⟩
        obtain ⟨m5, hm5, hs5⟩ := sw_set (x := V.ref x) (y := a2) (z := V.ref x5) h30 h31
        ((with_reducible refine s_gsub ?_); (with_reducible refine' s_var ?q175 ?q176); (case q175 => exact rfl); (with_reducible refine s_op ?_); (with_reducible refine s_c ?_); (with_reducible refine' s_var ?q177 ?q178); (case q177 => exact rfl); (with_reducible refine s_sub ?_))
        refine s_setL (D4.ol.ext e5 fun z => z) hm5 fun v6 e6 o6 => ?_
        rw [hs5] at o6
        have e46 : Ext (One lp) v4 v6 := (e5.more fun _ z => z.elim).trans e6
        have ok6 := D4.ok.ext e46 fun h => D4.ne (show kp = lp from h).symm
        have hL6 := hL5.go e6 fun y hy h => by
          have := hc5 y hy
          rw [show y = lp from h, D4.ol.h] at this
          cases this
        have hk6 := D4.p1.k.go e46 fun y hy h => D4.nl.1 (by rw [← show y = lp from h]; exact .inr hy)
        clear e5 hL5 ox4
        ((with_reducible refine s_asg ?_); (with_reducible refine s_call ?_); (with_reducible refine s_cons ?_); (with_reducible refine s_op ?_); (with_reducible refine' s_var ?q186 ?q187); (case q186 => exact rfl); (with_reducible refine' s_var ?q188 ?q189); (case q188 => exact rfl))
        refine s_ixO ok6 (sw_at h30 h31) ?_
        ((with_reducible refine s_nil ?_); (with_reducible refine s_pr1 ?_))
        refine ⟨M1, d1, hk6, fun v7 r7 d7 e7 hK7 hd7 => ?_⟩
        obtain ⟨m7, hm7, hs7⟩ := sw_set (x := b1) (y := b2) (z := r7) h30 h31
        ((with_reducible refine s_gsub ?_); (with_reducible refine' s_var ?q209 ?q210); (case q209 => exact rfl); (with_reducible refine s_op ?_); (with_reducible refine s_c ?_); (with_reducible refine' s_var ?q211 ?q212); (case q211 => exact rfl); (with_reducible refine s_sub ?_))
        refine s_setL (ok6.ext e7 fun z => z) hm7 fun v8 e8 o8 => ?_
        rw [hs7] at o8
        have e48 : Ext (Two lp kp) v4 v8 := ((e46.more fun _ z => .inr (.inl z)).trans (e7.more fun _ z => z.elim)).trans (e8.more fun _ z => .inr (.inr z))
        have n4 : ∀ y o, Own v4 y o → v4.H y ≠ none := fun y o ho => by rw [ho.h]; exact fun z => by cases z
        have hd4 : ∀ y, d7 y → v4.H y = none := fun y hy => e46.back (hd7 y hy)
        have hkc : ∀ y, c5 y → y ≠ kp := fun y hy h => by
          have := hc5 y hy
          rw [h, D4.ok.h] at this
          cases this
        have hkd : ∀ y, d7 y → y ≠ kp := fun y hy h => n4 kp _ D4.ok (by rw [← h]; exact hd4 y hy)
        have D8 := D4.copy e48 ((o6.ext e7 fun z => z).ext e8 fun h => D4.ne h) o8 ((hL6.go0 e7).go e8 fun y hy h => hkc y hy h) (hK7.go e8 fun y hy h => hkd y hy h) hc5 hd4 fun y h1 h2 => by
          obtain ⟨o, ho⟩ := hL6.cell h1
          have := hd7 y h2
          rw [ho.h] at this
          cases this
        have pu8 : Stt v8 p2 := pu4.go e48 fun h => h.elim out.1 out.2.1
        have hp4 : v4.H p2 ≠ none := by obtain ⟨_, _, _, _, o⟩ := pu4; exact n4 _ _ o
        have out8 : OutD p2 lp kp c1 c5 d1 d7 := ⟨out.1, out.2.1, out.2.2.1, out.2.2.2.1, fun h => hp4 (hc5 _ h), fun h => hp4 (hd4 _ h)⟩
        have e8w : Ext Non w v8 := e4w.step e48 fun y hy => .inl (by
          rcases hy with h | h
          · rw [show y = lp from h]; exact nlp
          · rw [show y = kp from h]; exact nkp)
        skip
        exact hZ _ _ ⟨_, _, _, _, _, _, _, _, _, _, _, _, D8, fun y hy => hy.elim (fun h => nw0 y (.inl h)) fun h => h.elim (fun h => e4w.back (hc5 y h)) fun h => e4w.back (hd4 y h), out8, e8w, pu8, st_go e48 s4, rfl⟩
      · ((with_reducible refine s_next ?_))
        exact hZ _ _ ⟨_, _, _, _, _, _, _, _, _, _, _, _, D4, nw0, out, e4w, pu4, s4, rfl⟩
    · rintro σ u5 ⟨a1, b1, a2, b2, L1, L2, M1, M2, c1, c2, d1, d2, D5, nw5, out5, e5w, pu5, s5, rfl⟩
      clear D3 nw0 out e3w pu3 s3
      wtm_at "go"
      rename_i v6 j6 e6 pu6 h60 h61
      have D6 := D5.one out5 e6
      have e6w : Ext Non w v6 := e5w.step e6 fun b hb => .inl (by rw [show b = p2 from hb]; exact np2)
      have s6 := st_go e6 s5
      clear D5 e5w e6 pu5 s5
      refine forW (ww_range (lo := 0) (m := _)) (fun t σ u' => ∃ a1 b1 a2 b2 L1 L2 M1 M2 c1 c2 d1 d2, Duo K (EC.mk C_Entry C_Within C_At C_Between C_Read C_Entry C_Entry) C_Log C_Table zs u' (2 * i + t) lp kp j3 a1 b1 a2 b2 L1 L2 M1 M2 c1 c2 d1 d2 ∧ (∀ y, (c1 y ∨ d1 y) ∨ (c2 y ∨ d2 y) → w.H y = none) ∧ OutD p2 lp kp c1 c2 d1 d2 ∧ Ext Non w u' ∧ Stt u' p2 ∧ u'.S q = some (.lst (zs.map V.str)) ∧ ∃ g8, σ = [some (.ref a), some (.ref p2), some (.ref q), some (.ref lp), some (.ref pd), some (.ref kp), some (.int (1 + ((i : Nat) : Int))), some (.int j3), g8]) ⟨_, _, _, _, _, _, _, _, _, _, _, _, D6, nw5, out5, e6w, pu6, s6, _, rfl⟩ (fun _ _ _ _ _ => trivial) ?_ ?_
      · rintro t _ σ _ u7 ht ⟨a1, b1, a2, b2, L1, L2, M1, M2, c1, c2, d1, d2, D7, nw7, out7, e7w, pu7, s7, g8, rfl⟩ ⟨rfl, rfl⟩
        clear D6 nw5 out5 e6w pu6 s6
        ((with_reducible refine' s_gname ?q227 ?q228); (case q227 => simp only [ List.set_cons_succ , List.set_cons_zero ]; exact rfl); (with_reducible refine s_seq ?_); (with_reducible refine s_drop ?_); (with_reducible refine s_call ?_); (with_reducible refine s_cons ?_); (with_reducible refine s_op ?_); (with_reducible refine' s_var ?q229 ?q230); (case q229 => exact rfl); (with_reducible refine' s_var ?q231 ?q232); (case q231 => exact rfl))
        refine s_ixO D7.ol (sw_at h30 h31) ?_
        ((with_reducible refine s_cons ?_); (with_reducible refine s_op ?_); (with_reducible refine' s_var ?q256 ?q257); (case q256 => exact rfl); (with_reducible refine' s_var ?q258 ?q259); (case q258 => exact rfl))
        refine s_ixO D7.ok (sw_at h30 h31) ?_
        ((with_reducible refine s_cons ?_); (with_reducible refine' s_var ?q283 ?q284); (case q283 => exact rfl); (with_reducible refine s_cons ?_); (with_reducible refine' s_var ?q285 ?q286); (case q285 => exact rfl); (with_reducible refine s_nil ?_); (with_reducible refine s_pr4 ?_))
        have hi40 : i < 40 := by omega
        refine ⟨zs, q, rfl, s7, L1, M1, 2 * i + t, c1, d1, p2, hz, by omega, trivial, D7.p1, rfl, pu7, out7.2.2.1, out7.2.2.2.1, fun v8 L' M' c' d' e8 P8 pu8 hc8 hd8 => ?_⟩
        have D8 := D7.deed out7 e8 P8 hc8 hd8
        have pu8 : Stt v8 p2 := pu8
        have hp7 : u7.H p2 ≠ none := by obtain ⟨_, _, _, _, o⟩ := pu7; rw [o.h]; exact fun z => by cases z
        have out8 : OutD p2 lp kp c' c2 d' d2 := ⟨out7.1, out7.2.1, fun h => (hc8 _ h).elim out7.2.2.1 hp7, fun h => (hd8 _ h).elim out7.2.2.2.1 hp7, out7.2.2.2.2.1, out7.2.2.2.2.2⟩
        have e8w : Ext Non w v8 := e7w.step e8 fun y hy => .inl (hy.elim (fun h => nw7 y (.inl (.inl h))) fun h => h.elim (fun h => nw7 y (.inl (.inr h))) fun h => by rw [h]; exact np2)
        have nw8 : ∀ y, (c' y ∨ d' y) ∨ (c2 y ∨ d2 y) → w.H y = none := fun y hy => hy.elim (fun h => h.elim (fun h => (hc8 y h).elim (fun h => nw7 y (.inl (.inl h))) fun h => e7w.back h) fun h => (hd8 y h).elim (fun h => nw7 y (.inl (.inr h))) fun h => e7w.back h) fun h => nw7 y (.inr h)
        have s8 := st_go e8 s7
        clear D7 e8 P8 hc8 hd8 pu7 nw7 out7 e7w s7 hp7
        obtain ⟨x0, y0, L0, M0, f0, h0, ix0, iy0, Q0⟩ := D8.sel h30 h31 (i := 0) (by decide) (by decide)
        ((with_reducible refine s_ifS ?_); (with_reducible refine s_or ?_); (with_reducible refine s_not ?_); (with_reducible refine s_B ?_); (with_reducible refine s_call ?_); (with_reducible refine s_cons ?_); (with_reducible refine s_op ?_); (with_reducible refine' s_var ?q287 ?q288); (case q287 => exact rfl); (with_reducible refine s_c ?_))
        refine s_ixO D8.ol ix0 ?_
        ((with_reducible refine s_cons ?_); (with_reducible refine s_op ?_); (with_reducible refine' s_var ?q312 ?q313); (case q312 => exact rfl); (with_reducible refine s_c ?_))
        refine s_ixO D8.ok iy0 ?_
        ((with_reducible refine s_nil ?_); (with_reducible refine s_pr2 ?_))
        refine ⟨zs, L0, M0, _, f0, h0, hz, Q0.l, Q0.k, Q0.lk, by omega, fun v9 e9 => ?_⟩
        have D9 := D8.go0 e9
        obtain ⟨x1, y1, L3, M3, f1, h1, ix1, iy1, Q1⟩ := D9.sel h30 h31 (i := 1) (by decide) (by decide)
        ((with_reducible refine s_bl ?_); (with_reducible refine ite_nt ?_); (with_reducible refine s_not ?_); (with_reducible refine s_B ?_); (with_reducible refine s_call ?_); (with_reducible refine s_cons ?_); (with_reducible refine s_op ?_); (with_reducible refine' s_var ?q340 ?q341); (case q340 => exact rfl); (with_reducible refine s_c ?_))
        refine s_ixO D9.ol ix1 ?_
        ((with_reducible refine s_cons ?_); (with_reducible refine s_op ?_); (with_reducible refine' s_var ?q373 ?q374); (case q373 => exact rfl); (with_reducible refine s_c ?_))
        refine s_ixO D9.ok iy1 ?_
        ((with_reducible refine s_nil ?_); (with_reducible refine s_pr2 ?_))
        refine ⟨zs, L3, M3, _, f1, h1, hz, Q1.l, Q1.k, Q1.lk, by omega, fun v10 e10 => ?_⟩
        ((with_reducible refine s_bl ?_); (with_reducible refine ite_nt ?_); (with_reducible refine s_next ?_); (with_reducible refine wds_i ?_))
        exact ⟨_, _, _, _, _, _, _, _, _, _, _, _, D9.go0 e10, nw8, out8, (e8w.trans e9).trans e10, (pu8.go e9 fun z => z).go e10 fun z => z, st_go e10 (st_go e9 s8), _, rfl⟩
      · rintro σ u7 ⟨a1, b1, a2, b2, L1, L2, M1, M2, c1, c2, d1, d2, D7, nw7, out7, e7w, pu7, s7, g8, rfl⟩
        ((with_reducible refine wds_i ?_))
        have hD : DuoN K (EC.mk C_Entry C_Within C_At C_Between C_Read C_Entry C_Entry) C_Log C_Table zs w u7 (2 * i + (1 + j6).toNat) lp kp j3 := ⟨_, _, _, _, _, _, _, _, _, _, _, _, D7, nw7⟩
        exact ⟨e7w, s7, (hD.turn h30 h31 (by decide) (by decide)).mono (by omega), _, _, _, _, rfl⟩
  · rintro σ u ⟨eu, su, hD, g1, g6, g7, g8, rfl⟩
    ((with_reducible refine s_ret ?_); (with_reducible refine s_c ?_))
    exact k u eu
theorem law_in {K : PySem.W.Frag} {H : Hp} {a : Addr} {ns : List Int} {E : XK} (hl : ns.length ≤ 63) (hS : SqL K H a (ns.map V.int)) : p_law K ⟨H, H, fun _ _ h => h⟩ (.ref a) (fun v _ => v = .bl true) E := ⟨⟨a, ns, rfl, hS, hl⟩, fun _ _ => rfl⟩
end
theorem all_mk {l : PySem.W.OpenLaw} {ww : World} {K : PySem.W.Frag} {h : Heap} {mg : Str → Option Value} {fa : Addr} (X : K.In h) (G : h.Ns mainGlobals mg) (hfa : mg "law" = some (.ref fa)) (c : Hk.SaysB Fb Fn K) :
    ∃ fd : FuncData, (∀ (s : Shared) (v : Value), BindsTo s fd ⟨[v], []⟩ [("_law_script", v)]) ∧ ∀ base : Heap, K.In base → base.Ns mainGlobals mg → FnOk l.prog ww K mg base CX0 10 fa fd ["_law_script"] (pr1 (p_law K)) := by
  have e := hfa.symm.trans (He.glo_ok X G (c.fact 14 19 : He.Fa.ok K (.glo "law") = true))
  cases e
  have T : Txt K mg (He.ga K "Entry") (He.ga K "Within") (He.ga K "At") (He.ga K "Between") (He.ga K "Table") (He.ga K "Read") (He.ga K "Log") (He.ga K "LogError") (He.ga K "NoEntry") (He.ga K "NoMoment") (He.ga K "NoName") (He.ga K "NoPlace") (He.ga K "NoReading") := ⟨He.glo_ok X G (c.fact 0 0 : He.Fa.ok K (.glo "Entry") = true), He.cls_ok (c.fact 0 1 : He.Fa.ok K (.cls "Entry") = true), He.noat_ok (c.fact 0 2 : He.Fa.ok K (.noat "Entry" "high") = true), He.noat_ok (c.fact 0 3 : He.Fa.ok K (.noat "Entry" "keeps") = true), He.noat_ok (c.fact 0 4 : He.Fa.ok K (.noat "Entry" "known") = true), He.noat_ok (c.fact 0 5 : He.Fa.ok K (.noat "Entry" "low") = true), He.noat_ok (c.fact 0 6 : He.Fa.ok K (.noat "Entry" "name") = true), He.noat_ok (c.fact 0 7 : He.Fa.ok K (.noat "Entry" "part") = true), He.noat_ok (c.fact 0 8 : He.Fa.ok K (.noat "Entry" "place") = true), ⟨(of_decide_eq_true (c.fact 0 9 : decide (PySem.W.findIn K (.ref (He.ga K "Entry")) "__class__" = some (some (.builtin "object.__class__"))) = true)), (of_decide_eq_true (c.fact 0 10 : decide (PySem.W.specialIn K (.builtin "object.__class__") "__get__" = some (some (.builtin "getset_descriptor.__get__"))) = true)), (of_decide_eq_true (c.fact 0 11 : decide (PySem.W.takesIn K (.builtin "object.__class__") = some true) = true)), (of_decide_eq_true (c.fact 0 12 : decide (PySem.W.mroIn K (He.ga K "Entry") (.type "object") = some true) = true))⟩, He.glo_ok X G (c.fact 0 13 : He.Fa.ok K (.glo "Within") = true), He.cls_ok (c.fact 0 14 : He.Fa.ok K (.cls "Within") = true), He.noat_ok (c.fact 0 15 : He.Fa.ok K (.noat "Within" "high") = true), He.noat_ok (c.fact 0 16 : He.Fa.ok K (.noat "Within" "keeps") = true), He.noat_ok (c.fact 0 17 : He.Fa.ok K (.noat "Within" "known") = true), He.noat_ok (c.fact 0 18 : He.Fa.ok K (.noat "Within" "low") = true), He.noat_ok (c.fact 0 19 : He.Fa.ok K (.noat "Within" "name") = true), He.noat_ok (c.fact 1 0 : He.Fa.ok K (.noat "Within" "part") = true), He.noat_ok (c.fact 1 1 : He.Fa.ok K (.noat "Within" "place") = true), ⟨(of_decide_eq_true (c.fact 1 2 : decide (PySem.W.findIn K (.ref (He.ga K "Within")) "__class__" = some (some (.builtin "object.__class__"))) = true)), (of_decide_eq_true (c.fact 0 10 : decide (PySem.W.specialIn K (.builtin "object.__class__") "__get__" = some (some (.builtin "getset_descriptor.__get__"))) = true)), (of_decide_eq_true (c.fact 0 11 : decide (PySem.W.takesIn K (.builtin "object.__class__") = some true) = true)), (of_decide_eq_true (c.fact 1 3 : decide (PySem.W.mroIn K (He.ga K "Within") (.type "object") = some true) = true))⟩, He.glo_ok X G (c.fact 1 4 : He.Fa.ok K (.glo "At") = true), He.cls_ok (c.fact 1 5 : He.Fa.ok K (.cls "At") = true), He.noat_ok (c.fact 1 6 : He.Fa.ok K (.noat "At" "high") = true), He.noat_ok (c.fact 1 7 : He.Fa.ok K (.noat "At" "keeps") = true), He.noat_ok (c.fact 1 8 : He.Fa.ok K (.noat "At" "known") = true), He.noat_ok (c.fact 1 9 : He.Fa.ok K (.noat "At" "low") = true), He.noat_ok (c.fact 1 10 : He.Fa.ok K (.noat "At" "name") = true), He.noat_ok (c.fact 1 11 : He.Fa.ok K (.noat "At" "part") = true), He.noat_ok (c.fact 1 12 : He.Fa.ok K (.noat "At" "place") = true), ⟨(of_decide_eq_true (c.fact 1 13 : decide (PySem.W.findIn K (.ref (He.ga K "At")) "__class__" = some (some (.builtin "object.__class__"))) = true)), (of_decide_eq_true (c.fact 0 10 : decide (PySem.W.specialIn K (.builtin "object.__class__") "__get__" = some (some (.builtin "getset_descriptor.__get__"))) = true)), (of_decide_eq_true (c.fact 0 11 : decide (PySem.W.takesIn K (.builtin "object.__class__") = some true) = true)), (of_decide_eq_true (c.fact 1 14 : decide (PySem.W.mroIn K (He.ga K "At") (.type "object") = some true) = true))⟩, He.glo_ok X G (c.fact 1 15 : He.Fa.ok K (.glo "Between") = true), He.cls_ok (c.fact 1 16 : He.Fa.ok K (.cls "Between") = true), He.noat_ok (c.fact 1 17 : He.Fa.ok K (.noat "Between" "high") = true), He.noat_ok (c.fact 1 18 : He.Fa.ok K (.noat "Between" "keeps") = true), He.noat_ok (c.fact 1 19 : He.Fa.ok K (.noat "Between" "known") = true), He.noat_ok (c.fact 2 0 : He.Fa.ok K (.noat "Between" "low") = true), He.noat_ok (c.fact 2 1 : He.Fa.ok K (.noat "Between" "name") = true), He.noat_ok (c.fact 2 2 : He.Fa.ok K (.noat "Between" "part") = true), He.noat_ok (c.fact 2 3 : He.Fa.ok K (.noat "Between" "place") = true), ⟨(of_decide_eq_true (c.fact 2 4 : decide (PySem.W.findIn K (.ref (He.ga K "Between")) "__class__" = some (some (.builtin "object.__class__"))) = true)), (of_decide_eq_true (c.fact 0 10 : decide (PySem.W.specialIn K (.builtin "object.__class__") "__get__" = some (some (.builtin "getset_descriptor.__get__"))) = true)), (of_decide_eq_true (c.fact 0 11 : decide (PySem.W.takesIn K (.builtin "object.__class__") = some true) = true)), (of_decide_eq_true (c.fact 2 5 : decide (PySem.W.mroIn K (He.ga K "Between") (.type "object") = some true) = true))⟩, He.glo_ok X G (c.fact 2 6 : He.Fa.ok K (.glo "Table") = true), He.cls_ok (c.fact 2 7 : He.Fa.ok K (.cls "Table") = true), He.noat_ok (c.fact 2 8 : He.Fa.ok K (.noat "Table" "kept_rows") = true), He.glo_ok X G (c.fact 2 9 : He.Fa.ok K (.glo "Read") = true), He.cls_ok (c.fact 2 10 : He.Fa.ok K (.cls "Read") = true), He.noat_ok (c.fact 2 11 : He.Fa.ok K (.noat "Read" "high") = true), He.noat_ok (c.fact 2 12 : He.Fa.ok K (.noat "Read" "keeps") = true), He.noat_ok (c.fact 2 13 : He.Fa.ok K (.noat "Read" "known") = true), He.noat_ok (c.fact 2 14 : He.Fa.ok K (.noat "Read" "low") = true), He.noat_ok (c.fact 2 15 : He.Fa.ok K (.noat "Read" "name") = true), He.noat_ok (c.fact 2 16 : He.Fa.ok K (.noat "Read" "part") = true), He.noat_ok (c.fact 2 17 : He.Fa.ok K (.noat "Read" "place") = true), ⟨(of_decide_eq_true (c.fact 2 18 : decide (PySem.W.findIn K (.ref (He.ga K "Read")) "__class__" = some (some (.builtin "object.__class__"))) = true)), (of_decide_eq_true (c.fact 0 10 : decide (PySem.W.specialIn K (.builtin "object.__class__") "__get__" = some (some (.builtin "getset_descriptor.__get__"))) = true)), (of_decide_eq_true (c.fact 0 11 : decide (PySem.W.takesIn K (.builtin "object.__class__") = some true) = true)), (of_decide_eq_true (c.fact 2 19 : decide (PySem.W.mroIn K (He.ga K "Read") (.type "object") = some true) = true))⟩, He.glo_ok X G (c.fact 3 0 : He.Fa.ok K (.glo "Log") = true), He.cls_ok (c.fact 3 1 : He.Fa.ok K (.cls "Log") = true), He.noat_ok (c.fact 3 2 : He.Fa.ok K (.noat "Log" "bound") = true), He.noat_ok (c.fact 3 3 : He.Fa.ok K (.noat "Log" "clocks") = true), He.noat_ok (c.fact 3 4 : He.Fa.ok K (.noat "Log" "line") = true), He.noat_ok (c.fact 3 5 : He.Fa.ok K (.noat "Log" "name") = true), He.glo_ok X G (c.fact 3 6 : He.Fa.ok K (.glo "LogError") = true), (c.fact 3 7 : PySem.W.readsIn K (He.ga K "LogError") (.type "type") = true), (of_decide_eq_true (c.fact 3 8 : decide (PySem.W.specialIn K (.ref (He.ga K "LogError")) "__getattribute__" = some (some (.builtin "type.__getattribute__"))) = true)), Hk.fc_ok (c.fact 3 9 : Hk.fcB K (He.ga K "LogError") "__init__" (.builtin "ValueError.__init__") = true), He.glo_ok X G (c.fact 3 10 : He.Fa.ok K (.glo "NoEntry") = true), Hk.oex_ok (c.fact 3 11 : Hk.oexB K (He.ga K "NoEntry") = true), L2.xfB_ok (c.fact 3 12 : L2.xfB K (He.ga K "NoEntry") = true), Hk.ec_ok (c.fact 3 13 : Hk.ecB K (He.ga K "NoEntry") = true), He.noat_ok (c.fact 3 14 : He.Fa.ok K (.noat "NoEntry" "found") = true), He.glo_ok X G (c.fact 3 15 : He.Fa.ok K (.glo "NoMoment") = true), Hk.oex_ok (c.fact 3 16 : Hk.oexB K (He.ga K "NoMoment") = true), L2.xfB_ok (c.fact 3 17 : L2.xfB K (He.ga K "NoMoment") = true), Hk.ec_ok (c.fact 3 18 : Hk.ecB K (He.ga K "NoMoment") = true), He.noat_ok (c.fact 3 19 : He.Fa.ok K (.noat "NoMoment" "found") = true), He.glo_ok X G (c.fact 4 0 : He.Fa.ok K (.glo "NoName") = true), Hk.oex_ok (c.fact 4 1 : Hk.oexB K (He.ga K "NoName") = true), L2.xfB_ok (c.fact 4 2 : L2.xfB K (He.ga K "NoName") = true), Hk.ec_ok (c.fact 4 3 : Hk.ecB K (He.ga K "NoName") = true), He.noat_ok (c.fact 4 4 : He.Fa.ok K (.noat "NoName" "found") = true), He.glo_ok X G (c.fact 4 5 : He.Fa.ok K (.glo "NoPlace") = true), Hk.oex_ok (c.fact 4 6 : Hk.oexB K (He.ga K "NoPlace") = true), L2.xfB_ok (c.fact 4 7 : L2.xfB K (He.ga K "NoPlace") = true), Hk.ec_ok (c.fact 4 8 : Hk.ecB K (He.ga K "NoPlace") = true), He.noat_ok (c.fact 4 9 : He.Fa.ok K (.noat "NoPlace" "found") = true), He.glo_ok X G (c.fact 4 10 : He.Fa.ok K (.glo "NoReading") = true), Hk.oex_ok (c.fact 4 11 : Hk.oexB K (He.ga K "NoReading") = true), L2.xfB_ok (c.fact 4 12 : L2.xfB K (He.ga K "NoReading") = true), Hk.ec_ok (c.fact 4 13 : Hk.ecB K (He.ga K "NoReading") = true), He.noat_ok (c.fact 4 14 : He.Fa.ok K (.noat "NoReading" "found") = true), (of_decide_eq_true (c.fact 4 15 : decide (PySem.W.kitOne K (.ref (He.ga K "NoEntry")) (.ref (He.ga K "NoEntry")) = some true) = true)), (of_decide_eq_true (c.fact 4 16 : decide (PySem.W.exmOne K (.ref (He.ga K "NoEntry")) (.ref (He.ga K "NoEntry")) = some true) = true)), He.free_ok X G (c.fact 4 17 : He.Fa.ok K (.free "all") = true), He.free_ok X G (c.fact 4 18 : He.Fa.ok K (.free "bool") = true), He.free_ok X G (c.fact 4 19 : He.Fa.ok K (.free "dict") = true), He.free_ok X G (c.fact 5 0 : He.Fa.ok K (.free "enumerate") = true), He.free_ok X G (c.fact 5 1 : He.Fa.ok K (.free "int") = true), He.free_ok X G (c.fact 5 2 : He.Fa.ok K (.free "isinstance") = true), He.free_ok X G (c.fact 5 3 : He.Fa.ok K (.free "len") = true), He.free_ok X G (c.fact 5 4 : He.Fa.ok K (.free "list") = true), He.free_ok X G (c.fact 5 5 : He.Fa.ok K (.free "max") = true), He.free_ok X G (c.fact 5 6 : He.Fa.ok K (.free "min") = true), He.free_ok X G (c.fact 5 7 : He.Fa.ok K (.free "range") = true), He.free_ok X G (c.fact 5 8 : He.Fa.ok K (.free "sorted") = true), He.free_ok X G (c.fact 5 9 : He.Fa.ok K (.free "str") = true), He.free_ok X G (c.fact 5 10 : He.Fa.ok K (.free "tuple") = true), He.free_ok X G (c.fact 5 11 : He.Fa.ok K (.free "zip") = true), Hk.con_ok X G (c.fact 5 12 : Hk.conB K "FARTHEST_READING" (.int 10000000000) = true), Hk.con_ok X G (c.fact 5 13 : Hk.conB K "LAST" (.int 1000000000) = true), Hk.con_ok X G (c.fact 5 14 : Hk.conB K "LEAST_MINUTES" (.int (-2000000000)) = true), Hk.con_ok X G (c.fact 5 15 : Hk.conB K "LETTERS" (.str (Str.ofString "abcdefghijklmnopqrstuvwxyz")) = true), Hk.con_ok X G (c.fact 5 16 : Hk.conB K "LONGEST_NAME" (.int 8) = true), Hk.con_ok X G (c.fact 5 17 : Hk.conB K "MOST_BONDS" (.int 100) = true), Hk.con_ok X G (c.fact 5 18 : Hk.conB K "MOST_ENTRIES" (.int 60) = true), Hk.con_ok X G (c.fact 5 19 : Hk.conB K "MOST_MINUTES" (.int 2000000001) = true), Hk.con_ok X G (c.fact 6 0 : Hk.conB K "MOST_PLACES" (.int 6) = true), Hk.con_ok X G (c.fact 6 1 : Hk.conB K "MOST_ROWS" (.int 21) = true), Hk.con_ok X G (c.fact 6 2 : Hk.conB K "MOST_SHIFT" (.int 2880) = true), (of_decide_eq_true (c.fact 6 3 : decide (PySem.W.kitOne K (.ref (He.ga K "Entry")) (.ref (He.ga K "Within")) = some false) = true)), (of_decide_eq_true (c.fact 6 4 : decide (PySem.W.kitOne K (.ref (He.ga K "Entry")) (.ref (He.ga K "At")) = some false) = true)), (of_decide_eq_true (c.fact 6 5 : decide (PySem.W.kitOne K (.ref (He.ga K "Entry")) (.ref (He.ga K "Between")) = some false) = true)), (of_decide_eq_true (c.fact 6 6 : decide (PySem.W.kitOne K (.ref (He.ga K "Entry")) (.ref (He.ga K "Read")) = some false) = true)), (of_decide_eq_true (c.fact 6 7 : decide (PySem.W.kitOne K (.ref (He.ga K "Within")) (.ref (He.ga K "Entry")) = some true) = true)), (of_decide_eq_true (c.fact 6 8 : decide (PySem.W.kitOne K (.ref (He.ga K "Within")) (.ref (He.ga K "At")) = some false) = true)), (of_decide_eq_true (c.fact 6 9 : decide (PySem.W.kitOne K (.ref (He.ga K "Within")) (.ref (He.ga K "Between")) = some false) = true)), (of_decide_eq_true (c.fact 6 10 : decide (PySem.W.kitOne K (.ref (He.ga K "Within")) (.ref (He.ga K "Read")) = some false) = true)), (of_decide_eq_true (c.fact 6 11 : decide (PySem.W.kitOne K (.ref (He.ga K "At")) (.ref (He.ga K "Entry")) = some true) = true)), (of_decide_eq_true (c.fact 6 12 : decide (PySem.W.kitOne K (.ref (He.ga K "At")) (.ref (He.ga K "Within")) = some true) = true)), (of_decide_eq_true (c.fact 6 13 : decide (PySem.W.kitOne K (.ref (He.ga K "At")) (.ref (He.ga K "Between")) = some false) = true)), (of_decide_eq_true (c.fact 6 14 : decide (PySem.W.kitOne K (.ref (He.ga K "At")) (.ref (He.ga K "Read")) = some false) = true)), (of_decide_eq_true (c.fact 6 15 : decide (PySem.W.kitOne K (.ref (He.ga K "Between")) (.ref (He.ga K "Entry")) = some true) = true)), (of_decide_eq_true (c.fact 6 16 : decide (PySem.W.kitOne K (.ref (He.ga K "Between")) (.ref (He.ga K "Within")) = some false) = true)), (of_decide_eq_true (c.fact 6 17 : decide (PySem.W.kitOne K (.ref (He.ga K "Between")) (.ref (He.ga K "At")) = some false) = true)), (of_decide_eq_true (c.fact 6 18 : decide (PySem.W.kitOne K (.ref (He.ga K "Between")) (.ref (He.ga K "Read")) = some false) = true)), (of_decide_eq_true (c.fact 6 19 : decide (PySem.W.kitOne K (.ref (He.ga K "Read")) (.ref (He.ga K "Entry")) = some true) = true)), (of_decide_eq_true (c.fact 7 0 : decide (PySem.W.kitOne K (.ref (He.ga K "Read")) (.ref (He.ga K "Within")) = some false) = true)), (of_decide_eq_true (c.fact 7 1 : decide (PySem.W.kitOne K (.ref (He.ga K "Read")) (.ref (He.ga K "At")) = some false) = true)), (of_decide_eq_true (c.fact 7 2 : decide (PySem.W.kitOne K (.ref (He.ga K "Read")) (.ref (He.ga K "Between")) = some true) = true))⟩
  obtain ⟨oc_law, od_law, sl_law, kv_law, dc_law, pm_law, an_law, cd_law, ct_law, l_law, d_law⟩ := c.def_ 63 (d := ⟨("law", none), "law", "law", defArgs s_law, defBody s_law, defScope s_law⟩) rfl
  refine ⟨PySem.W.fnOf "law" "law" (defArgs s_law) (defBody s_law) (defScope s_law) .none kv_law dc_law pm_law an_law cd_law ct_law, fun s v => .of_eq rfl, fun base _ _ => ?_⟩
  obtain ⟨oc_is_whole, od_is_whole, sl_is_whole, kv_is_whole, dc_is_whole, pm_is_whole, an_is_whole, cd_is_whole, ct_is_whole, l_is_whole, d_is_whole⟩ := c.def_ 0 (d := ⟨("is_whole", none), "is_whole", "is_whole", defArgs s_is_whole, defBody s_is_whole, defScope s_is_whole⟩) rfl
  have F_is_whole := fun_mk (st := s_is_whole) l_is_whole d_is_whole (c.fact 7 3 : PySem.W.keepIn K (.ref (He.fAd K ("is_whole", none))) = true)
  have G_is_whole := ok_is_whole (P := l.prog) (ww := ww) (base := base) F_is_whole T 
  have c_is_whole : Fnc l.prog ww K mg base CX0 1 "is_whole" (pr3 (p_is_whole)) := ⟨_, _, _, G_is_whole, He.glo_ok X G (c.fact 7 4 : He.Fa.ok K (.glo "is_whole") = true), (c.fact 7 3 : PySem.W.keepIn K (.ref (He.fAd K ("is_whole", none))) = true), F_is_whole.binds (ps := ["thing", "low", "high"]) fun _ _ _ _ _ _ us hl => match us, hl with | [_, _, _], _ => rfl⟩
  obtain ⟨oc_is_moment, od_is_moment, sl_is_moment, kv_is_moment, dc_is_moment, pm_is_moment, an_is_moment, cd_is_moment, ct_is_moment, l_is_moment, d_is_moment⟩ := c.def_ 1 (d := ⟨("is_moment", none), "is_moment", "is_moment", defArgs s_is_moment, defBody s_is_moment, defScope s_is_moment⟩) rfl
  have F_is_moment := fun_mk (st := s_is_moment) l_is_moment d_is_moment (c.fact 7 5 : PySem.W.keepIn K (.ref (He.fAd K ("is_moment", none))) = true)
  have G_is_moment := ok_is_moment (P := l.prog) (ww := ww) (base := base) F_is_moment T c_is_whole
  have c_is_moment : Fnc l.prog ww K mg base CX0 2 "is_moment" (pr1 (p_is_moment)) := ⟨_, _, _, G_is_moment, He.glo_ok X G (c.fact 7 6 : He.Fa.ok K (.glo "is_moment") = true), (c.fact 7 5 : PySem.W.keepIn K (.ref (He.fAd K ("is_moment", none))) = true), F_is_moment.binds (ps := ["thing"]) fun _ _ _ _ _ _ us hl => match us, hl with | [_], _ => rfl⟩
  obtain ⟨oc_is_shift, od_is_shift, sl_is_shift, kv_is_shift, dc_is_shift, pm_is_shift, an_is_shift, cd_is_shift, ct_is_shift, l_is_shift, d_is_shift⟩ := c.def_ 2 (d := ⟨("is_shift", none), "is_shift", "is_shift", defArgs s_is_shift, defBody s_is_shift, defScope s_is_shift⟩) rfl
  have F_is_shift := fun_mk (st := s_is_shift) l_is_shift d_is_shift (c.fact 7 7 : PySem.W.keepIn K (.ref (He.fAd K ("is_shift", none))) = true)
  have G_is_shift := ok_is_shift (P := l.prog) (ww := ww) (base := base) F_is_shift T c_is_whole
  have c_is_shift : Fnc l.prog ww K mg base CX0 2 "is_shift" (pr1 (p_is_shift)) := ⟨_, _, _, G_is_shift, He.glo_ok X G (c.fact 7 8 : He.Fa.ok K (.glo "is_shift") = true), (c.fact 7 7 : PySem.W.keepIn K (.ref (He.fAd K ("is_shift", none))) = true), F_is_shift.binds (ps := ["thing"]) fun _ _ _ _ _ _ us hl => match us, hl with | [_], _ => rfl⟩
  obtain ⟨oc_is_row, od_is_row, sl_is_row, kv_is_row, dc_is_row, pm_is_row, an_is_row, cd_is_row, ct_is_row, l_is_row, d_is_row⟩ := c.def_ 3 (d := ⟨("is_row", none), "is_row", "is_row", defArgs s_is_row, defBody s_is_row, defScope s_is_row⟩) rfl
  have F_is_row := fun_mk (st := s_is_row) l_is_row d_is_row (c.fact 7 9 : PySem.W.keepIn K (.ref (He.fAd K ("is_row", none))) = true)
  have G_is_row := ok_is_row (P := l.prog) (ww := ww) (base := base) F_is_row T c_is_moment c_is_shift
  have c_is_row : Fnc l.prog ww K mg base CX0 3 "is_row" (pr1 (p_is_row)) := ⟨_, _, _, G_is_row, He.glo_ok X G (c.fact 7 10 : He.Fa.ok K (.glo "is_row") = true), (c.fact 7 9 : PySem.W.keepIn K (.ref (He.fAd K ("is_row", none))) = true), F_is_row.binds (ps := ["thing"]) fun _ _ _ _ _ _ us hl => match us, hl with | [_], _ => rfl⟩
  obtain ⟨oc_fault_at, od_fault_at, sl_fault_at, kv_fault_at, dc_fault_at, pm_fault_at, an_fault_at, cd_fault_at, ct_fault_at, l_fault_at, d_fault_at⟩ := c.def_ 4 (d := ⟨("fault_at", none), "fault_at", "fault_at", defArgs s_fault_at, defBody s_fault_at, defScope s_fault_at⟩) rfl
  have F_fault_at := fun_mk (st := s_fault_at) l_fault_at d_fault_at (c.fact 7 11 : PySem.W.keepIn K (.ref (He.fAd K ("fault_at", none))) = true)
  have G_fault_at := ok_fault_at (P := l.prog) (ww := ww) (base := base) F_fault_at T c_is_row
  have c_fault_at : Fnc l.prog ww K mg base CX0 4 "fault_at" (pr1 (p_fault_at)) := ⟨_, _, _, G_fault_at, He.glo_ok X G (c.fact 7 12 : He.Fa.ok K (.glo "fault_at") = true), (c.fact 7 11 : PySem.W.keepIn K (.ref (He.fAd K ("fault_at", none))) = true), F_fault_at.binds (ps := ["rows"]) fun _ _ _ _ _ _ us hl => match us, hl with | [_], _ => rfl⟩
  obtain ⟨oc_is_reading, od_is_reading, sl_is_reading, kv_is_reading, dc_is_reading, pm_is_reading, an_is_reading, cd_is_reading, ct_is_reading, l_is_reading, d_is_reading⟩ := c.def_ 5 (d := ⟨("is_reading", none), "is_reading", "is_reading", defArgs s_is_reading, defBody s_is_reading, defScope s_is_reading⟩) rfl
  have F_is_reading := fun_mk (st := s_is_reading) l_is_reading d_is_reading (c.fact 7 13 : PySem.W.keepIn K (.ref (He.fAd K ("is_reading", none))) = true)
  have G_is_reading := ok_is_reading (P := l.prog) (ww := ww) (base := base) F_is_reading T c_is_whole
  have c_is_reading : Fnc l.prog ww K mg base CX0 2 "is_reading" (pr1 (p_is_reading)) := ⟨_, _, _, G_is_reading, He.glo_ok X G (c.fact 7 14 : He.Fa.ok K (.glo "is_reading") = true), (c.fact 7 13 : PySem.W.keepIn K (.ref (He.fAd K ("is_reading", none))) = true), F_is_reading.binds (ps := ["thing"]) fun _ _ _ _ _ _ us hl => match us, hl with | [_], _ => rfl⟩
  obtain ⟨oc_is_minutes, od_is_minutes, sl_is_minutes, kv_is_minutes, dc_is_minutes, pm_is_minutes, an_is_minutes, cd_is_minutes, ct_is_minutes, l_is_minutes, d_is_minutes⟩ := c.def_ 6 (d := ⟨("is_minutes", none), "is_minutes", "is_minutes", defArgs s_is_minutes, defBody s_is_minutes, defScope s_is_minutes⟩) rfl
  have F_is_minutes := fun_mk (st := s_is_minutes) l_is_minutes d_is_minutes (c.fact 7 15 : PySem.W.keepIn K (.ref (He.fAd K ("is_minutes", none))) = true)
  have G_is_minutes := ok_is_minutes (P := l.prog) (ww := ww) (base := base) F_is_minutes T c_is_whole
  have c_is_minutes : Fnc l.prog ww K mg base CX0 2 "is_minutes" (pr1 (p_is_minutes)) := ⟨_, _, _, G_is_minutes, He.glo_ok X G (c.fact 7 16 : He.Fa.ok K (.glo "is_minutes") = true), (c.fact 7 15 : PySem.W.keepIn K (.ref (He.fAd K ("is_minutes", none))) = true), F_is_minutes.binds (ps := ["thing"]) fun _ _ _ _ _ _ us hl => match us, hl with | [_], _ => rfl⟩
  obtain ⟨oc_Table_init, od_Table_init, sl_Table_init, kv_Table_init, dc_Table_init, pm_Table_init, an_Table_init, cd_Table_init, ct_Table_init, l_Table_init, d_Table_init⟩ := c.def_ 7 (d := ⟨("Table", some "__init__"), "__init__", "Table.__init__", defArgs s_Table_init, defBody s_Table_init, defScope s_Table_init⟩) rfl
  have F_Table_init := fun_mk (st := s_Table_init) l_Table_init d_Table_init (c.fact 7 17 : PySem.W.keepIn K (.ref (He.fAd K ("Table", some "__init__"))) = true)
  have G_Table_init := ok_Table_init (P := l.prog) (ww := ww) (base := base) F_Table_init T c_fault_at
  have c_Table_init : Mkr l.prog ww K mg base CX0 (He.ga K "Table") 5 (pr2 (p_Table_init (He.ga K "Table"))) := ⟨_, _, _, G_Table_init, He.mkr_ok (c.fact 7 18 : He.Fa.ok K (.mkr "Table") = true), F_Table_init.binds (ps := ["self", "rows"]) fun _ _ _ _ _ _ us hl => match us, hl with | [_, _], _ => rfl⟩
  obtain ⟨oc_joined, od_joined, sl_joined, kv_joined, dc_joined, pm_joined, an_joined, cd_joined, ct_joined, l_joined, d_joined⟩ := c.def_ 8 (d := ⟨("joined", none), "joined", "joined", defArgs s_joined, defBody s_joined, defScope s_joined⟩) rfl
  have F_joined := fun_mk (st := s_joined) l_joined d_joined (c.fact 7 19 : PySem.W.keepIn K (.ref (He.fAd K ("joined", none))) = true)
  have G_joined := ok_joined (P := l.prog) (ww := ww) (base := base) F_joined T 
  have c_joined : Fnc l.prog ww K mg base CX0 1 "joined" (pr1 (p_joined)) := ⟨_, _, _, G_joined, He.glo_ok X G (c.fact 8 0 : He.Fa.ok K (.glo "joined") = true), (c.fact 7 19 : PySem.W.keepIn K (.ref (He.fAd K ("joined", none))) = true), F_joined.binds (ps := ["stretches"]) fun _ _ _ _ _ _ us hl => match us, hl with | [_], _ => rfl⟩
  obtain ⟨oc_is_stretch, od_is_stretch, sl_is_stretch, kv_is_stretch, dc_is_stretch, pm_is_stretch, an_is_stretch, cd_is_stretch, ct_is_stretch, l_is_stretch, d_is_stretch⟩ := c.def_ 9 (d := ⟨("is_stretch", none), "is_stretch", "is_stretch", defArgs s_is_stretch, defBody s_is_stretch, defScope s_is_stretch⟩) rfl
  have F_is_stretch := fun_mk (st := s_is_stretch) l_is_stretch d_is_stretch (c.fact 8 1 : PySem.W.keepIn K (.ref (He.fAd K ("is_stretch", none))) = true)
  have G_is_stretch := ok_is_stretch (P := l.prog) (ww := ww) (base := base) F_is_stretch T 
  have c_is_stretch : Fnc l.prog ww K mg base CX0 1 "is_stretch" (pr1 (p_is_stretch)) := ⟨_, _, _, G_is_stretch, He.glo_ok X G (c.fact 8 2 : He.Fa.ok K (.glo "is_stretch") = true), (c.fact 8 1 : PySem.W.keepIn K (.ref (He.fAd K ("is_stretch", none))) = true), F_is_stretch.binds (ps := ["thing"]) fun _ _ _ _ _ _ us hl => match us, hl with | [_], _ => rfl⟩
  obtain ⟨oc_NoReading_init, od_NoReading_init, sl_NoReading_init, kv_NoReading_init, dc_NoReading_init, pm_NoReading_init, an_NoReading_init, cd_NoReading_init, ct_NoReading_init, l_NoReading_init, d_NoReading_init⟩ := c.def_ 10 (d := ⟨("NoReading", some "__init__"), "__init__", "NoReading.__init__", defArgs s_NoReading_init, defBody s_NoReading_init, defScope s_NoReading_init⟩) rfl
  have F_NoReading_init := fun_mk (st := s_NoReading_init) l_NoReading_init d_NoReading_init (c.fact 8 3 : PySem.W.keepIn K (.ref (He.fAd K ("NoReading", some "__init__"))) = true)
  have G_NoReading_init := ok_NoReading_init (P := l.prog) (ww := ww) (base := base) F_NoReading_init T 
  have c_NoReading_init : Mxr l.prog ww K mg base (He.ga K "NoReading") 1 (pr2 (p_NoReading_init (He.ga K "NoReading"))) := ⟨_, _, _, G_NoReading_init, T.oex_NoReading, (of_decide_eq_true (c.fact 8 4 : decide (PySem.W.findIn K (.ref (He.ga K "NoReading")) "__init__" = some (some (.ref (He.fAd K ("NoReading", some "__init__"))))) = true)), (of_decide_eq_true (c.fact 8 5 : decide (PySem.W.typeIn K (.ref (He.fAd K ("NoReading", some "__init__"))) = some (.type "function")) = true)), F_NoReading_init.binds (ps := ["self", "found"]) fun _ _ _ _ _ _ us hl => match us, hl with | [_, _], _ => rfl⟩
  obtain ⟨oc_Table_pieces, od_Table_pieces, sl_Table_pieces, kv_Table_pieces, dc_Table_pieces, pm_Table_pieces, an_Table_pieces, cd_Table_pieces, ct_Table_pieces, l_Table_pieces, d_Table_pieces⟩ := c.def_ 11 (d := ⟨("Table", some "pieces"), "pieces", "Table.pieces", defArgs s_Table_pieces, defBody s_Table_pieces, defScope s_Table_pieces⟩) rfl
  have F_Table_pieces := fun_mk (st := s_Table_pieces) l_Table_pieces d_Table_pieces (c.fact 8 6 : PySem.W.keepIn K (.ref (He.fAd K ("Table", some "pieces"))) = true)
  have G_Table_pieces := ok_Table_pieces (P := l.prog) (ww := ww) (base := base) F_Table_pieces T 
  have c_Table_pieces : Mth l.prog ww K mg base CX0 (He.ga K "Table") 1 "pieces" (pr1 (p_Table_pieces (He.ga K "Table"))) := ⟨_, _, _, G_Table_pieces, He.meth_ok (c.fact 8 7 : He.Fa.ok K (.meth "Table" "pieces") = true), F_Table_pieces.binds (ps := ["self"]) fun _ _ _ _ _ _ us hl => match us, hl with | [_], _ => rfl⟩
  obtain ⟨oc_spans_of, od_spans_of, sl_spans_of, kv_spans_of, dc_spans_of, pm_spans_of, an_spans_of, cd_spans_of, ct_spans_of, l_spans_of, d_spans_of⟩ := c.def_ 12 (d := ⟨("spans_of", none), "spans_of", "spans_of", defArgs s_spans_of, defBody s_spans_of, defScope s_spans_of⟩) rfl
  have F_spans_of := fun_mk (st := s_spans_of) l_spans_of d_spans_of (c.fact 8 8 : PySem.W.keepIn K (.ref (He.fAd K ("spans_of", none))) = true)
  have G_spans_of := ok_spans_of (P := l.prog) (ww := ww) (base := base) F_spans_of T c_is_stretch c_joined
  have c_spans_of : Fnc l.prog ww K mg base CX0 2 "spans_of" (pr1 (p_spans_of)) := ⟨_, _, _, G_spans_of, He.glo_ok X G (c.fact 8 9 : He.Fa.ok K (.glo "spans_of") = true), (c.fact 8 8 : PySem.W.keepIn K (.ref (He.fAd K ("spans_of", none))) = true), F_spans_of.binds (ps := ["stretches"]) fun _ _ _ _ _ _ us hl => match us, hl with | [_], _ => rfl⟩
  obtain ⟨oc_Table_moments_between, od_Table_moments_between, sl_Table_moments_between, kv_Table_moments_between, dc_Table_moments_between, pm_Table_moments_between, an_Table_moments_between, cd_Table_moments_between, ct_Table_moments_between, l_Table_moments_between, d_Table_moments_between⟩ := c.def_ 13 (d := ⟨("Table", some "moments_between"), "moments_between", "Table.moments_between", defArgs s_Table_moments_between, defBody s_Table_moments_between, defScope s_Table_moments_between⟩) rfl
  have F_Table_moments_between := fun_mk (st := s_Table_moments_between) l_Table_moments_between d_Table_moments_between (c.fact 8 10 : PySem.W.keepIn K (.ref (He.fAd K ("Table", some "moments_between"))) = true)
  have G_Table_moments_between := ok_Table_moments_between (P := l.prog) (ww := ww) (base := base) F_Table_moments_between T c_NoReading_init c_Table_pieces c_is_reading c_spans_of
  have c_Table_moments_between : Mth l.prog ww K mg base (L2.CX l.prog ww) (He.ga K "Table") 3 "moments_between" (pr3 (p_Table_moments_between (He.ga K "Table") (He.ga K "NoReading"))) := ⟨_, _, _, G_Table_moments_between, He.meth_ok (c.fact 8 11 : He.Fa.ok K (.meth "Table" "moments_between") = true), F_Table_moments_between.binds (ps := ["self", "low", "high"]) fun _ _ _ _ _ _ us hl => match us, hl with | [_, _, _], _ => rfl⟩
  obtain ⟨oc_is_name, od_is_name, sl_is_name, kv_is_name, dc_is_name, pm_is_name, an_is_name, cd_is_name, ct_is_name, l_is_name, d_is_name⟩ := c.def_ 14 (d := ⟨("is_name", none), "is_name", "is_name", defArgs s_is_name, defBody s_is_name, defScope s_is_name⟩) rfl
  have F_is_name := fun_mk (st := s_is_name) l_is_name d_is_name (c.fact 8 12 : PySem.W.keepIn K (.ref (He.fAd K ("is_name", none))) = true)
  have G_is_name := ok_is_name (P := l.prog) (ww := ww) (base := base) F_is_name T 
  have c_is_name : Fnc l.prog ww K mg base CX0 1 "is_name" (pr1 (p_is_name)) := ⟨_, _, _, G_is_name, He.glo_ok X G (c.fact 8 13 : He.Fa.ok K (.glo "is_name") = true), (c.fact 8 12 : PySem.W.keepIn K (.ref (He.fAd K ("is_name", none))) = true), F_is_name.binds (ps := ["thing"]) fun _ _ _ _ _ _ us hl => match us, hl with | [_], _ => rfl⟩
  obtain ⟨oc_NoName_init, od_NoName_init, sl_NoName_init, kv_NoName_init, dc_NoName_init, pm_NoName_init, an_NoName_init, cd_NoName_init, ct_NoName_init, l_NoName_init, d_NoName_init⟩ := c.def_ 15 (d := ⟨("NoName", some "__init__"), "__init__", "NoName.__init__", defArgs s_NoName_init, defBody s_NoName_init, defScope s_NoName_init⟩) rfl
  have F_NoName_init := fun_mk (st := s_NoName_init) l_NoName_init d_NoName_init (c.fact 8 14 : PySem.W.keepIn K (.ref (He.fAd K ("NoName", some "__init__"))) = true)
  have G_NoName_init := ok_NoName_init (P := l.prog) (ww := ww) (base := base) F_NoName_init T 
  have c_NoName_init : Mxr l.prog ww K mg base (He.ga K "NoName") 1 (pr2 (p_NoName_init (He.ga K "NoName"))) := ⟨_, _, _, G_NoName_init, T.oex_NoName, (of_decide_eq_true (c.fact 8 15 : decide (PySem.W.findIn K (.ref (He.ga K "NoName")) "__init__" = some (some (.ref (He.fAd K ("NoName", some "__init__"))))) = true)), (of_decide_eq_true (c.fact 8 16 : decide (PySem.W.typeIn K (.ref (He.fAd K ("NoName", some "__init__"))) = some (.type "function")) = true)), F_NoName_init.binds (ps := ["self", "found"]) fun _ _ _ _ _ _ us hl => match us, hl with | [_, _], _ => rfl⟩
  obtain ⟨oc_NoPlace_init, od_NoPlace_init, sl_NoPlace_init, kv_NoPlace_init, dc_NoPlace_init, pm_NoPlace_init, an_NoPlace_init, cd_NoPlace_init, ct_NoPlace_init, l_NoPlace_init, d_NoPlace_init⟩ := c.def_ 16 (d := ⟨("NoPlace", some "__init__"), "__init__", "NoPlace.__init__", defArgs s_NoPlace_init, defBody s_NoPlace_init, defScope s_NoPlace_init⟩) rfl
  have F_NoPlace_init := fun_mk (st := s_NoPlace_init) l_NoPlace_init d_NoPlace_init (c.fact 8 17 : PySem.W.keepIn K (.ref (He.fAd K ("NoPlace", some "__init__"))) = true)
  have G_NoPlace_init := ok_NoPlace_init (P := l.prog) (ww := ww) (base := base) F_NoPlace_init T 
  have c_NoPlace_init : Mxr l.prog ww K mg base (He.ga K "NoPlace") 1 (pr2 (p_NoPlace_init (He.ga K "NoPlace"))) := ⟨_, _, _, G_NoPlace_init, T.oex_NoPlace, (of_decide_eq_true (c.fact 8 18 : decide (PySem.W.findIn K (.ref (He.ga K "NoPlace")) "__init__" = some (some (.ref (He.fAd K ("NoPlace", some "__init__"))))) = true)), (of_decide_eq_true (c.fact 8 19 : decide (PySem.W.typeIn K (.ref (He.fAd K ("NoPlace", some "__init__"))) = some (.type "function")) = true)), F_NoPlace_init.binds (ps := ["self", "found"]) fun _ _ _ _ _ _ us hl => match us, hl with | [_, _], _ => rfl⟩
  obtain ⟨oc_NoMoment_init, od_NoMoment_init, sl_NoMoment_init, kv_NoMoment_init, dc_NoMoment_init, pm_NoMoment_init, an_NoMoment_init, cd_NoMoment_init, ct_NoMoment_init, l_NoMoment_init, d_NoMoment_init⟩ := c.def_ 17 (d := ⟨("NoMoment", some "__init__"), "__init__", "NoMoment.__init__", defArgs s_NoMoment_init, defBody s_NoMoment_init, defScope s_NoMoment_init⟩) rfl
  have F_NoMoment_init := fun_mk (st := s_NoMoment_init) l_NoMoment_init d_NoMoment_init (c.fact 9 0 : PySem.W.keepIn K (.ref (He.fAd K ("NoMoment", some "__init__"))) = true)
  have G_NoMoment_init := ok_NoMoment_init (P := l.prog) (ww := ww) (base := base) F_NoMoment_init T 
  have c_NoMoment_init : Mxr l.prog ww K mg base (He.ga K "NoMoment") 1 (pr2 (p_NoMoment_init (He.ga K "NoMoment"))) := ⟨_, _, _, G_NoMoment_init, T.oex_NoMoment, (of_decide_eq_true (c.fact 9 1 : decide (PySem.W.findIn K (.ref (He.ga K "NoMoment")) "__init__" = some (some (.ref (He.fAd K ("NoMoment", some "__init__"))))) = true)), (of_decide_eq_true (c.fact 9 2 : decide (PySem.W.typeIn K (.ref (He.fAd K ("NoMoment", some "__init__"))) = some (.type "function")) = true)), F_NoMoment_init.binds (ps := ["self", "found"]) fun _ _ _ _ _ _ us hl => match us, hl with | [_, _], _ => rfl⟩
  obtain ⟨oc_Entry_init, od_Entry_init, sl_Entry_init, kv_Entry_init, dc_Entry_init, pm_Entry_init, an_Entry_init, cd_Entry_init, ct_Entry_init, l_Entry_init, d_Entry_init⟩ := c.def_ 18 (d := ⟨("Entry", some "__init__"), "__init__", "Entry.__init__", defArgs s_Entry_init, defBody s_Entry_init, defScope s_Entry_init⟩) rfl
  have F_Entry_init := fun_mk (st := s_Entry_init) l_Entry_init d_Entry_init (c.fact 9 3 : PySem.W.keepIn K (.ref (He.fAd K ("Entry", some "__init__"))) = true)
  have G_Entry_init := ok_Entry_init (P := l.prog) (ww := ww) (base := base) F_Entry_init T c_NoName_init c_is_name
  have c_Entry_init : Mkr l.prog ww K mg base (L2.CX l.prog ww) (He.ga K "Entry") 3 (pr2 (p_Entry_init K (He.ga K "NoName"))) := ⟨_, _, _, G_Entry_init, He.mkr_ok (c.fact 9 4 : He.Fa.ok K (.mkr "Entry") = true), F_Entry_init.binds (ps := ["self", "name"]) fun _ _ _ _ _ _ us hl => match us, hl with | [_, _], _ => rfl⟩
  have b_Entry_init : Bin l.prog ww K mg base (L2.CX l.prog ww) (He.ga K "Entry") 3 (pr2 (p_Entry_init K (He.ga K "NoName"))) := ⟨_, _, _, G_Entry_init, (c.fact 9 5 : PySem.W.readsIn K (He.ga K "Entry") (.type "type") = true), (of_decide_eq_true (c.fact 9 6 : decide (PySem.W.specialIn K (.ref (He.ga K "Entry")) "__getattribute__" = some (some (.builtin "type.__getattribute__"))) = true)), Hk.fc_ok (c.fact 9 7 : Hk.fcB K (He.ga K "Entry") "__init__" (.ref (He.fAd K ("Entry", some "__init__"))) = true), (c.fact 9 3 : PySem.W.keepIn K (.ref (He.fAd K ("Entry", some "__init__"))) = true), F_Entry_init.binds (ps := ["self", "name"]) fun _ _ _ _ _ _ us hl => match us, hl with | [_, _], _ => rfl⟩
  obtain ⟨oc_Within_init, od_Within_init, sl_Within_init, kv_Within_init, dc_Within_init, pm_Within_init, an_Within_init, cd_Within_init, ct_Within_init, l_Within_init, d_Within_init⟩ := c.def_ 19 (d := ⟨("Within", some "__init__"), "__init__", "Within.__init__", defArgs s_Within_init, defBody s_Within_init, defScope s_Within_init⟩) rfl
  have F_Within_init := fun_mk (st := s_Within_init) l_Within_init d_Within_init (c.fact 9 8 : PySem.W.keepIn K (.ref (He.fAd K ("Within", some "__init__"))) = true)
  have G_Within_init := ok_Within_init (P := l.prog) (ww := ww) (base := base) F_Within_init T c_NoMoment_init c_is_moment b_Entry_init
  have c_Within_init : Mkr l.prog ww K mg base (L2.CX l.prog ww) (He.ga K "Within") 4 (pr4 (p_Within_init K (He.ga K "NoName") (He.ga K "NoMoment"))) := ⟨_, _, _, G_Within_init, He.mkr_ok (c.fact 9 9 : He.Fa.ok K (.mkr "Within") = true), F_Within_init.binds (ps := ["self", "name", "low", "high"]) fun _ _ _ _ _ _ us hl => match us, hl with | [_, _, _, _], _ => rfl⟩
  have b_Within_init : Bin l.prog ww K mg base (L2.CX l.prog ww) (He.ga K "Within") 4 (pr4 (p_Within_init K (He.ga K "NoName") (He.ga K "NoMoment"))) := ⟨_, _, _, G_Within_init, (c.fact 9 10 : PySem.W.readsIn K (He.ga K "Within") (.type "type") = true), (of_decide_eq_true (c.fact 9 11 : decide (PySem.W.specialIn K (.ref (He.ga K "Within")) "__getattribute__" = some (some (.builtin "type.__getattribute__"))) = true)), Hk.fc_ok (c.fact 9 12 : Hk.fcB K (He.ga K "Within") "__init__" (.ref (He.fAd K ("Within", some "__init__"))) = true), (c.fact 9 8 : PySem.W.keepIn K (.ref (He.fAd K ("Within", some "__init__"))) = true), F_Within_init.binds (ps := ["self", "name", "low", "high"]) fun _ _ _ _ _ _ us hl => match us, hl with | [_, _, _, _], _ => rfl⟩
  obtain ⟨oc_At_init, od_At_init, sl_At_init, kv_At_init, dc_At_init, pm_At_init, an_At_init, cd_At_init, ct_At_init, l_At_init, d_At_init⟩ := c.def_ 20 (d := ⟨("At", some "__init__"), "__init__", "At.__init__", defArgs s_At_init, defBody s_At_init, defScope s_At_init⟩) rfl
  have F_At_init := fun_mk (st := s_At_init) l_At_init d_At_init (c.fact 9 13 : PySem.W.keepIn K (.ref (He.fAd K ("At", some "__init__"))) = true)
  have G_At_init := ok_At_init (P := l.prog) (ww := ww) (base := base) F_At_init T b_Within_init
  have c_At_init : Mkr l.prog ww K mg base (L2.CX l.prog ww) (He.ga K "At") 5 (pr3 (p_At_init K (He.ga K "NoName") (He.ga K "NoMoment"))) := ⟨_, _, _, G_At_init, He.mkr_ok (c.fact 9 14 : He.Fa.ok K (.mkr "At") = true), F_At_init.binds (ps := ["self", "name", "moment"]) fun _ _ _ _ _ _ us hl => match us, hl with | [_, _, _], _ => rfl⟩
  obtain ⟨oc_Between_init, od_Between_init, sl_Between_init, kv_Between_init, dc_Between_init, pm_Between_init, an_Between_init, cd_Between_init, ct_Between_init, l_Between_init, d_Between_init⟩ := c.def_ 21 (d := ⟨("Between", some "__init__"), "__init__", "Between.__init__", defArgs s_Between_init, defBody s_Between_init, defScope s_Between_init⟩) rfl
  have F_Between_init := fun_mk (st := s_Between_init) l_Between_init d_Between_init (c.fact 9 15 : PySem.W.keepIn K (.ref (He.fAd K ("Between", some "__init__"))) = true)
  have G_Between_init := ok_Between_init (P := l.prog) (ww := ww) (base := base) F_Between_init T c_NoName_init c_NoReading_init c_is_name c_is_reading b_Entry_init
  have c_Between_init : Mkr l.prog ww K mg base (L2.CX l.prog ww) (He.ga K "Between") 4 (pr5 (p_Between_init K (He.ga K "NoName") (He.ga K "NoReading"))) := ⟨_, _, _, G_Between_init, He.mkr_ok (c.fact 9 16 : He.Fa.ok K (.mkr "Between") = true), F_Between_init.binds (ps := ["self", "name", "place", "low", "high"]) fun _ _ _ _ _ _ us hl => match us, hl with | [_, _, _, _, _], _ => rfl⟩
  have b_Between_init : Bin l.prog ww K mg base (L2.CX l.prog ww) (He.ga K "Between") 4 (pr5 (p_Between_init K (He.ga K "NoName") (He.ga K "NoReading"))) := ⟨_, _, _, G_Between_init, (c.fact 9 17 : PySem.W.readsIn K (He.ga K "Between") (.type "type") = true), (of_decide_eq_true (c.fact 9 18 : decide (PySem.W.specialIn K (.ref (He.ga K "Between")) "__getattribute__" = some (some (.builtin "type.__getattribute__"))) = true)), Hk.fc_ok (c.fact 9 19 : Hk.fcB K (He.ga K "Between") "__init__" (.ref (He.fAd K ("Between", some "__init__"))) = true), (c.fact 9 15 : PySem.W.keepIn K (.ref (He.fAd K ("Between", some "__init__"))) = true), F_Between_init.binds (ps := ["self", "name", "place", "low", "high"]) fun _ _ _ _ _ _ us hl => match us, hl with | [_, _, _, _, _], _ => rfl⟩
  obtain ⟨oc_Read_init, od_Read_init, sl_Read_init, kv_Read_init, dc_Read_init, pm_Read_init, an_Read_init, cd_Read_init, ct_Read_init, l_Read_init, d_Read_init⟩ := c.def_ 22 (d := ⟨("Read", some "__init__"), "__init__", "Read.__init__", defArgs s_Read_init, defBody s_Read_init, defScope s_Read_init⟩) rfl
  have F_Read_init := fun_mk (st := s_Read_init) l_Read_init d_Read_init (c.fact 10 0 : PySem.W.keepIn K (.ref (He.fAd K ("Read", some "__init__"))) = true)
  have G_Read_init := ok_Read_init (P := l.prog) (ww := ww) (base := base) F_Read_init T b_Between_init
  have c_Read_init : Mkr l.prog ww K mg base (L2.CX l.prog ww) (He.ga K "Read") 5 (pr4 (p_Read_init K (He.ga K "NoName") (He.ga K "NoReading"))) := ⟨_, _, _, G_Read_init, He.mkr_ok (c.fact 10 1 : He.Fa.ok K (.mkr "Read") = true), F_Read_init.binds (ps := ["self", "name", "place", "reading"]) fun _ _ _ _ _ _ us hl => match us, hl with | [_, _, _, _], _ => rfl⟩
  obtain ⟨oc_Entry_places, od_Entry_places, sl_Entry_places, kv_Entry_places, dc_Entry_places, pm_Entry_places, an_Entry_places, cd_Entry_places, ct_Entry_places, l_Entry_places, d_Entry_places⟩ := c.def_ 23 (d := ⟨("Entry", some "places"), "places", "Entry.places", defArgs s_Entry_places, defBody s_Entry_places, defScope s_Entry_places⟩) rfl
  have F_Entry_places := fun_mk (st := s_Entry_places) l_Entry_places d_Entry_places (c.fact 10 2 : PySem.W.keepIn K (.ref (He.fAd K ("Entry", some "places"))) = true)
  have G_Entry_places := ok_Entry_places (P := l.prog) (ww := ww) (base := base) F_Entry_places T 
  have c_Entry_places : Mth l.prog ww K mg base (L2.CX l.prog ww) (He.ga K "Entry") 1 "places" (pr1 (p_Entry_places)) := ⟨_, _, _, G_Entry_places, He.meth_ok (c.fact 10 3 : He.Fa.ok K (.meth "Entry" "places") = true), F_Entry_places.binds (ps := ["self"]) fun _ _ _ _ _ _ us hl => match us, hl with | [_], _ => rfl⟩
  obtain ⟨oc_Between_places, od_Between_places, sl_Between_places, kv_Between_places, dc_Between_places, pm_Between_places, an_Between_places, cd_Between_places, ct_Between_places, l_Between_places, d_Between_places⟩ := c.def_ 24 (d := ⟨("Between", some "places"), "places", "Between.places", defArgs s_Between_places, defBody s_Between_places, defScope s_Between_places⟩) rfl
  have F_Between_places := fun_mk (st := s_Between_places) l_Between_places d_Between_places (c.fact 10 4 : PySem.W.keepIn K (.ref (He.fAd K ("Between", some "places"))) = true)
  have G_Between_places := ok_Between_places (P := l.prog) (ww := ww) (base := base) F_Between_places T 
  have c_Between_places : Mth l.prog ww K mg base (L2.CX l.prog ww) (He.ga K "Between") 1 "places" (pr1 (p_Between_places K)) := ⟨_, _, _, G_Between_places, He.meth_ok (c.fact 10 5 : He.Fa.ok K (.meth "Between" "places") = true), F_Between_places.binds (ps := ["self"]) fun _ _ _ _ _ _ us hl => match us, hl with | [_], _ => rfl⟩
  have d_places : MthD l.prog ww K mg base (L2.CX l.prog ww) simple (EC.of (EC.mk (He.ga K "Entry") (He.ga K "Within") (He.ga K "At") (He.ga K "Between") (He.ga K "Read") (He.ga K "Entry") (He.ga K "Entry"))) 1 "places" (fun k => pr1 (pE_places K (EC.mk (He.ga K "Entry") (He.ga K "Within") (He.ga K "At") (He.ga K "Between") (He.ga K "Read") (He.ga K "Entry") (He.ga K "Entry")) k)) := by
    intro k hk
    cases k
    case any => exact ⟨T.cl_Entry, ⟨_, _, _, fnok_weak G_Entry_places (by decide) (pr1_mono fun _ _ _ _ => wk_places_any), ⟨(of_decide_eq_true (c.fact 10 6 : decide (PySem.W.findIn K (.ref (He.ga K "Entry")) "places" = some (some (.ref (He.fAd K ("Entry", some "places"))))) = true)), (c.fact 10 7 : PySem.W.isFn K (.ref (He.fAd K ("Entry", some "places"))) = true), (c.fact 10 2 : PySem.W.keepIn K (.ref (He.fAd K ("Entry", some "places"))) = true)⟩, F_Entry_places.binds (ps := ["self"]) fun _ _ _ _ _ _ us hl => match us, hl with | [_], _ => rfl⟩⟩
    case within => exact ⟨T.cl_Within, ⟨_, _, _, fnok_weak G_Entry_places (by decide) (pr1_mono fun _ _ _ _ => wk_places_within), ⟨(of_decide_eq_true (c.fact 10 8 : decide (PySem.W.findIn K (.ref (He.ga K "Within")) "places" = some (some (.ref (He.fAd K ("Entry", some "places"))))) = true)), (c.fact 10 7 : PySem.W.isFn K (.ref (He.fAd K ("Entry", some "places"))) = true), (c.fact 10 2 : PySem.W.keepIn K (.ref (He.fAd K ("Entry", some "places"))) = true)⟩, F_Entry_places.binds (ps := ["self"]) fun _ _ _ _ _ _ us hl => match us, hl with | [_], _ => rfl⟩⟩
    case att => exact ⟨T.cl_At, ⟨_, _, _, fnok_weak G_Entry_places (by decide) (pr1_mono fun _ _ _ _ => wk_places_att), ⟨(of_decide_eq_true (c.fact 10 9 : decide (PySem.W.findIn K (.ref (He.ga K "At")) "places" = some (some (.ref (He.fAd K ("Entry", some "places"))))) = true)), (c.fact 10 7 : PySem.W.isFn K (.ref (He.fAd K ("Entry", some "places"))) = true), (c.fact 10 2 : PySem.W.keepIn K (.ref (He.fAd K ("Entry", some "places"))) = true)⟩, F_Entry_places.binds (ps := ["self"]) fun _ _ _ _ _ _ us hl => match us, hl with | [_], _ => rfl⟩⟩
    case between => exact ⟨T.cl_Between, ⟨_, _, _, fnok_weak G_Between_places (by decide) (pr1_mono fun _ _ _ _ => wk_places_between), ⟨(of_decide_eq_true (c.fact 10 10 : decide (PySem.W.findIn K (.ref (He.ga K "Between")) "places" = some (some (.ref (He.fAd K ("Between", some "places"))))) = true)), (c.fact 10 11 : PySem.W.isFn K (.ref (He.fAd K ("Between", some "places"))) = true), (c.fact 10 4 : PySem.W.keepIn K (.ref (He.fAd K ("Between", some "places"))) = true)⟩, F_Between_places.binds (ps := ["self"]) fun _ _ _ _ _ _ us hl => match us, hl with | [_], _ => rfl⟩⟩
    case read => exact ⟨T.cl_Read, ⟨_, _, _, fnok_weak G_Between_places (by decide) (pr1_mono fun _ _ _ _ => wk_places_read), ⟨(of_decide_eq_true (c.fact 10 12 : decide (PySem.W.findIn K (.ref (He.ga K "Read")) "places" = some (some (.ref (He.fAd K ("Between", some "places"))))) = true)), (c.fact 10 11 : PySem.W.isFn K (.ref (He.fAd K ("Between", some "places"))) = true), (c.fact 10 4 : PySem.W.keepIn K (.ref (He.fAd K ("Between", some "places"))) = true)⟩, F_Between_places.binds (ps := ["self"]) fun _ _ _ _ _ _ us hl => match us, hl with | [_], _ => rfl⟩⟩
    case joint => exact hk.elim
    case sifted => exact hk.elim
  obtain ⟨oc_Entry_spans, od_Entry_spans, sl_Entry_spans, kv_Entry_spans, dc_Entry_spans, pm_Entry_spans, an_Entry_spans, cd_Entry_spans, ct_Entry_spans, l_Entry_spans, d_Entry_spans⟩ := c.def_ 25 (d := ⟨("Entry", some "spans"), "spans", "Entry.spans", defArgs s_Entry_spans, defBody s_Entry_spans, defScope s_Entry_spans⟩) rfl
  have F_Entry_spans := fun_mk (st := s_Entry_spans) l_Entry_spans d_Entry_spans (c.fact 10 13 : PySem.W.keepIn K (.ref (He.fAd K ("Entry", some "spans"))) = true)
  have G_Entry_spans := ok_Entry_spans (P := l.prog) (ww := ww) (base := base) F_Entry_spans T 
  have c_Entry_spans : Mth l.prog ww K mg base (L2.CX l.prog ww) (He.ga K "Entry") 1 "spans" (pr2 (p_Entry_spans)) := ⟨_, _, _, G_Entry_spans, He.meth_ok (c.fact 10 14 : He.Fa.ok K (.meth "Entry" "spans") = true), F_Entry_spans.binds (ps := ["self", "tables"]) fun _ _ _ _ _ _ us hl => match us, hl with | [_, _], _ => rfl⟩
  obtain ⟨oc_Within_spans, od_Within_spans, sl_Within_spans, kv_Within_spans, dc_Within_spans, pm_Within_spans, an_Within_spans, cd_Within_spans, ct_Within_spans, l_Within_spans, d_Within_spans⟩ := c.def_ 26 (d := ⟨("Within", some "spans"), "spans", "Within.spans", defArgs s_Within_spans, defBody s_Within_spans, defScope s_Within_spans⟩) rfl
  have F_Within_spans := fun_mk (st := s_Within_spans) l_Within_spans d_Within_spans (c.fact 10 15 : PySem.W.keepIn K (.ref (He.fAd K ("Within", some "spans"))) = true)
  have G_Within_spans := ok_Within_spans (P := l.prog) (ww := ww) (base := base) F_Within_spans T c_spans_of
  have c_Within_spans : Mth l.prog ww K mg base (L2.CX l.prog ww) (He.ga K "Within") 3 "spans" (pr2 (p_Within_spans K)) := ⟨_, _, _, G_Within_spans, He.meth_ok (c.fact 10 16 : He.Fa.ok K (.meth "Within" "spans") = true), F_Within_spans.binds (ps := ["self", "tables"]) fun _ _ _ _ _ _ us hl => match us, hl with | [_, _], _ => rfl⟩
  obtain ⟨oc_Between_spans, od_Between_spans, sl_Between_spans, kv_Between_spans, dc_Between_spans, pm_Between_spans, an_Between_spans, cd_Between_spans, ct_Between_spans, l_Between_spans, d_Between_spans⟩ := c.def_ 27 (d := ⟨("Between", some "spans"), "spans", "Between.spans", defArgs s_Between_spans, defBody s_Between_spans, defScope s_Between_spans⟩) rfl
  have F_Between_spans := fun_mk (st := s_Between_spans) l_Between_spans d_Between_spans (c.fact 10 17 : PySem.W.keepIn K (.ref (He.fAd K ("Between", some "spans"))) = true)
  have G_Between_spans := ok_Between_spans (P := l.prog) (ww := ww) (base := base) F_Between_spans T c_NoPlace_init c_Table_moments_between
  have c_Between_spans : Mth l.prog ww K mg base (L2.CX l.prog ww) (He.ga K "Between") 4 "spans" (pr2 (p_Between_spans K (He.ga K "Table") (He.ga K "NoPlace"))) := ⟨_, _, _, G_Between_spans, He.meth_ok (c.fact 10 18 : He.Fa.ok K (.meth "Between" "spans") = true), F_Between_spans.binds (ps := ["self", "tables"]) fun _ _ _ _ _ _ us hl => match us, hl with | [_, _], _ => rfl⟩
  have d_spans : MthD l.prog ww K mg base (L2.CX l.prog ww) simple (EC.of (EC.mk (He.ga K "Entry") (He.ga K "Within") (He.ga K "At") (He.ga K "Between") (He.ga K "Read") (He.ga K "Entry") (He.ga K "Entry"))) 4 "spans" (fun k => pr2 (pE_spans K (EC.mk (He.ga K "Entry") (He.ga K "Within") (He.ga K "At") (He.ga K "Between") (He.ga K "Read") (He.ga K "Entry") (He.ga K "Entry")) (He.ga K "Table") (He.ga K "NoPlace") k)) := by
    intro k hk
    cases k
    case any => exact ⟨T.cl_Entry, ⟨_, _, _, fnok_weak G_Entry_spans (by decide) (pr2_mono fun _ _ _ _ _ => wk_spans_any), ⟨(of_decide_eq_true (c.fact 10 19 : decide (PySem.W.findIn K (.ref (He.ga K "Entry")) "spans" = some (some (.ref (He.fAd K ("Entry", some "spans"))))) = true)), (c.fact 11 0 : PySem.W.isFn K (.ref (He.fAd K ("Entry", some "spans"))) = true), (c.fact 10 13 : PySem.W.keepIn K (.ref (He.fAd K ("Entry", some "spans"))) = true)⟩, F_Entry_spans.binds (ps := ["self", "tables"]) fun _ _ _ _ _ _ us hl => match us, hl with | [_, _], _ => rfl⟩⟩
    case within => exact ⟨T.cl_Within, ⟨_, _, _, fnok_weak G_Within_spans (by decide) (pr2_mono fun _ _ _ _ _ => wk_spans_within), ⟨(of_decide_eq_true (c.fact 11 1 : decide (PySem.W.findIn K (.ref (He.ga K "Within")) "spans" = some (some (.ref (He.fAd K ("Within", some "spans"))))) = true)), (c.fact 11 2 : PySem.W.isFn K (.ref (He.fAd K ("Within", some "spans"))) = true), (c.fact 10 15 : PySem.W.keepIn K (.ref (He.fAd K ("Within", some "spans"))) = true)⟩, F_Within_spans.binds (ps := ["self", "tables"]) fun _ _ _ _ _ _ us hl => match us, hl with | [_, _], _ => rfl⟩⟩
    case att => exact ⟨T.cl_At, ⟨_, _, _, fnok_weak G_Within_spans (by decide) (pr2_mono fun _ _ _ _ _ => wk_spans_att), ⟨(of_decide_eq_true (c.fact 11 3 : decide (PySem.W.findIn K (.ref (He.ga K "At")) "spans" = some (some (.ref (He.fAd K ("Within", some "spans"))))) = true)), (c.fact 11 2 : PySem.W.isFn K (.ref (He.fAd K ("Within", some "spans"))) = true), (c.fact 10 15 : PySem.W.keepIn K (.ref (He.fAd K ("Within", some "spans"))) = true)⟩, F_Within_spans.binds (ps := ["self", "tables"]) fun _ _ _ _ _ _ us hl => match us, hl with | [_, _], _ => rfl⟩⟩
    case between => exact ⟨T.cl_Between, ⟨_, _, _, fnok_weak G_Between_spans (by decide) (pr2_mono fun _ _ _ _ _ => wk_spans_between), ⟨(of_decide_eq_true (c.fact 11 4 : decide (PySem.W.findIn K (.ref (He.ga K "Between")) "spans" = some (some (.ref (He.fAd K ("Between", some "spans"))))) = true)), (c.fact 11 5 : PySem.W.isFn K (.ref (He.fAd K ("Between", some "spans"))) = true), (c.fact 10 17 : PySem.W.keepIn K (.ref (He.fAd K ("Between", some "spans"))) = true)⟩, F_Between_spans.binds (ps := ["self", "tables"]) fun _ _ _ _ _ _ us hl => match us, hl with | [_, _], _ => rfl⟩⟩
    case read => exact ⟨T.cl_Read, ⟨_, _, _, fnok_weak G_Between_spans (by decide) (pr2_mono fun _ _ _ _ _ => wk_spans_read), ⟨(of_decide_eq_true (c.fact 11 6 : decide (PySem.W.findIn K (.ref (He.ga K "Read")) "spans" = some (some (.ref (He.fAd K ("Between", some "spans"))))) = true)), (c.fact 11 5 : PySem.W.isFn K (.ref (He.fAd K ("Between", some "spans"))) = true), (c.fact 10 17 : PySem.W.keepIn K (.ref (He.fAd K ("Between", some "spans"))) = true)⟩, F_Between_spans.binds (ps := ["self", "tables"]) fun _ _ _ _ _ _ us hl => match us, hl with | [_, _], _ => rfl⟩⟩
    case joint => exact hk.elim
    case sifted => exact hk.elim
  obtain ⟨oc_Log_init, od_Log_init, sl_Log_init, kv_Log_init, dc_Log_init, pm_Log_init, an_Log_init, cd_Log_init, ct_Log_init, l_Log_init, d_Log_init⟩ := c.def_ 28 (d := ⟨("Log", some "__init__"), "__init__", "Log.__init__", defArgs s_Log_init, defBody s_Log_init, defScope s_Log_init⟩) rfl
  have F_Log_init := fun_mk (st := s_Log_init) l_Log_init d_Log_init (c.fact 11 7 : PySem.W.keepIn K (.ref (He.fAd K ("Log", some "__init__"))) = true)
  have G_Log_init := ok_Log_init (P := l.prog) (ww := ww) (base := base) F_Log_init T 
  have c_Log_init : Mkr l.prog ww K mg base CX0 (He.ga K "Log") 1 (pr1 (p_Log_init K (EC.mk (He.ga K "Entry") (He.ga K "Within") (He.ga K "At") (He.ga K "Between") (He.ga K "Read") (He.ga K "Entry") (He.ga K "Entry")) (He.ga K "Log") (He.ga K "Table"))) := ⟨_, _, _, G_Log_init, He.mkr_ok (c.fact 11 8 : He.Fa.ok K (.mkr "Log") = true), F_Log_init.binds (ps := ["self"]) fun _ _ _ _ _ _ us hl => match us, hl with | [_], _ => rfl⟩
  obtain ⟨oc_Log_names, od_Log_names, sl_Log_names, kv_Log_names, dc_Log_names, pm_Log_names, an_Log_names, cd_Log_names, ct_Log_names, l_Log_names, d_Log_names⟩ := c.def_ 29 (d := ⟨("Log", some "names"), "names", "Log.names", defArgs s_Log_names, defBody s_Log_names, defScope s_Log_names⟩) rfl
  have F_Log_names := fun_mk (st := s_Log_names) l_Log_names d_Log_names (c.fact 11 9 : PySem.W.keepIn K (.ref (He.fAd K ("Log", some "names"))) = true)
  have G_Log_names := ok_Log_names (P := l.prog) (ww := ww) (base := base) F_Log_names T 
  have c_Log_names : Mth l.prog ww K mg base CX0 (He.ga K "Log") 1 "names" (pr1 (p_Log_names K (EC.mk (He.ga K "Entry") (He.ga K "Within") (He.ga K "At") (He.ga K "Between") (He.ga K "Read") (He.ga K "Entry") (He.ga K "Entry")) (He.ga K "Log") (He.ga K "Table"))) := ⟨_, _, _, G_Log_names, He.meth_ok (c.fact 11 10 : He.Fa.ok K (.meth "Log" "names") = true), F_Log_names.binds (ps := ["self"]) fun _ _ _ _ _ _ us hl => match us, hl with | [_], _ => rfl⟩
  obtain ⟨oc_Log_bonds, od_Log_bonds, sl_Log_bonds, kv_Log_bonds, dc_Log_bonds, pm_Log_bonds, an_Log_bonds, cd_Log_bonds, ct_Log_bonds, l_Log_bonds, d_Log_bonds⟩ := c.def_ 30 (d := ⟨("Log", some "bonds"), "bonds", "Log.bonds", defArgs s_Log_bonds, defBody s_Log_bonds, defScope s_Log_bonds⟩) rfl
  have F_Log_bonds := fun_mk (st := s_Log_bonds) l_Log_bonds d_Log_bonds (c.fact 11 11 : PySem.W.keepIn K (.ref (He.fAd K ("Log", some "bonds"))) = true)
  have G_Log_bonds := ok_Log_bonds (P := l.prog) (ww := ww) (base := base) F_Log_bonds T 
  have c_Log_bonds : Mth l.prog ww K mg base CX0 (He.ga K "Log") 1 "bonds" (pr1 (p_Log_bonds K (EC.mk (He.ga K "Entry") (He.ga K "Within") (He.ga K "At") (He.ga K "Between") (He.ga K "Read") (He.ga K "Entry") (He.ga K "Entry")) (He.ga K "Log") (He.ga K "Table"))) := ⟨_, _, _, G_Log_bonds, He.meth_ok (c.fact 11 12 : He.Fa.ok K (.meth "Log" "bonds") = true), F_Log_bonds.binds (ps := ["self"]) fun _ _ _ _ _ _ us hl => match us, hl with | [_], _ => rfl⟩
  obtain ⟨oc_Log_places, od_Log_places, sl_Log_places, kv_Log_places, dc_Log_places, pm_Log_places, an_Log_places, cd_Log_places, ct_Log_places, l_Log_places, d_Log_places⟩ := c.def_ 31 (d := ⟨("Log", some "places"), "places", "Log.places", defArgs s_Log_places, defBody s_Log_places, defScope s_Log_places⟩) rfl
  have F_Log_places := fun_mk (st := s_Log_places) l_Log_places d_Log_places (c.fact 11 13 : PySem.W.keepIn K (.ref (He.fAd K ("Log", some "places"))) = true)
  have G_Log_places := ok_Log_places (P := l.prog) (ww := ww) (base := base) F_Log_places T 
  have c_Log_places : Mth l.prog ww K mg base CX0 (He.ga K "Log") 1 "places" (pr1 (p_Log_places K (EC.mk (He.ga K "Entry") (He.ga K "Within") (He.ga K "At") (He.ga K "Between") (He.ga K "Read") (He.ga K "Entry") (He.ga K "Entry")) (He.ga K "Log") (He.ga K "Table"))) := ⟨_, _, _, G_Log_places, He.meth_ok (c.fact 11 14 : He.Fa.ok K (.meth "Log" "places") = true), F_Log_places.binds (ps := ["self"]) fun _ _ _ _ _ _ us hl => match us, hl with | [_], _ => rfl⟩
  obtain ⟨oc_NoEntry_init, od_NoEntry_init, sl_NoEntry_init, kv_NoEntry_init, dc_NoEntry_init, pm_NoEntry_init, an_NoEntry_init, cd_NoEntry_init, ct_NoEntry_init, l_NoEntry_init, d_NoEntry_init⟩ := c.def_ 32 (d := ⟨("NoEntry", some "__init__"), "__init__", "NoEntry.__init__", defArgs s_NoEntry_init, defBody s_NoEntry_init, defScope s_NoEntry_init⟩) rfl
  have F_NoEntry_init := fun_mk (st := s_NoEntry_init) l_NoEntry_init d_NoEntry_init (c.fact 11 15 : PySem.W.keepIn K (.ref (He.fAd K ("NoEntry", some "__init__"))) = true)
  have G_NoEntry_init := ok_NoEntry_init (P := l.prog) (ww := ww) (base := base) F_NoEntry_init T 
  have c_NoEntry_init : Mxr l.prog ww K mg base (He.ga K "NoEntry") 1 (pr2 (p_NoEntry_init (He.ga K "NoEntry"))) := ⟨_, _, _, G_NoEntry_init, T.oex_NoEntry, (of_decide_eq_true (c.fact 11 16 : decide (PySem.W.findIn K (.ref (He.ga K "NoEntry")) "__init__" = some (some (.ref (He.fAd K ("NoEntry", some "__init__"))))) = true)), (of_decide_eq_true (c.fact 11 17 : decide (PySem.W.typeIn K (.ref (He.fAd K ("NoEntry", some "__init__"))) = some (.type "function")) = true)), F_NoEntry_init.binds (ps := ["self", "found"]) fun _ _ _ _ _ _ us hl => match us, hl with | [_, _], _ => rfl⟩
  obtain ⟨oc_Log_entry, od_Log_entry, sl_Log_entry, kv_Log_entry, dc_Log_entry, pm_Log_entry, an_Log_entry, cd_Log_entry, ct_Log_entry, l_Log_entry, d_Log_entry⟩ := c.def_ 33 (d := ⟨("Log", some "entry"), "entry", "Log.entry", defArgs s_Log_entry, defBody s_Log_entry, defScope s_Log_entry⟩) rfl
  have F_Log_entry := fun_mk (st := s_Log_entry) l_Log_entry d_Log_entry (c.fact 11 18 : PySem.W.keepIn K (.ref (He.fAd K ("Log", some "entry"))) = true)
  have G_Log_entry := ok_Log_entry (P := l.prog) (ww := ww) (base := base) F_Log_entry T c_NoEntry_init
  have c_Log_entry : Mth l.prog ww K mg base (L2.CX l.prog ww) (He.ga K "Log") 3 "entry" (pr2 (p_Log_entry K (EC.mk (He.ga K "Entry") (He.ga K "Within") (He.ga K "At") (He.ga K "Between") (He.ga K "Read") (He.ga K "Entry") (He.ga K "Entry")) (He.ga K "Log") (He.ga K "Table") (He.ga K "NoEntry"))) := ⟨_, _, _, G_Log_entry, He.meth_ok (c.fact 11 19 : He.Fa.ok K (.meth "Log" "entry") = true), F_Log_entry.binds (ps := ["self", "name"]) fun _ _ _ _ _ _ us hl => match us, hl with | [_, _], _ => rfl⟩
  obtain ⟨oc_Log_spans, od_Log_spans, sl_Log_spans, kv_Log_spans, dc_Log_spans, pm_Log_spans, an_Log_spans, cd_Log_spans, ct_Log_spans, l_Log_spans, d_Log_spans⟩ := c.def_ 34 (d := ⟨("Log", some "spans"), "spans", "Log.spans", defArgs s_Log_spans, defBody s_Log_spans, defScope s_Log_spans⟩) rfl
  have F_Log_spans := fun_mk (st := s_Log_spans) l_Log_spans d_Log_spans (c.fact 12 0 : PySem.W.keepIn K (.ref (He.fAd K ("Log", some "spans"))) = true)
  have G_Log_spans := ok_Log_spans (P := l.prog) (ww := ww) (base := base) F_Log_spans T c_Log_entry d_spans
  have c_Log_spans : Mth l.prog ww K mg base (L2.CX l.prog ww) (He.ga K "Log") 5 "spans" (pr2 (p_Log_spans K (EC.mk (He.ga K "Entry") (He.ga K "Within") (He.ga K "At") (He.ga K "Between") (He.ga K "Read") (He.ga K "Entry") (He.ga K "Entry")) (He.ga K "Log") (He.ga K "Table") (He.ga K "NoEntry"))) := ⟨_, _, _, G_Log_spans, He.meth_ok (c.fact 12 1 : He.Fa.ok K (.meth "Log" "spans") = true), F_Log_spans.binds (ps := ["self", "name"]) fun _ _ _ _ _ _ us hl => match us, hl with | [_, _], _ => rfl⟩
  obtain ⟨oc_Log_clock, od_Log_clock, sl_Log_clock, kv_Log_clock, dc_Log_clock, pm_Log_clock, an_Log_clock, cd_Log_clock, ct_Log_clock, l_Log_clock, d_Log_clock⟩ := c.def_ 35 (d := ⟨("Log", some "clock"), "clock", "Log.clock", defArgs s_Log_clock, defBody s_Log_clock, defScope s_Log_clock⟩) rfl
  have F_Log_clock := fun_mk (st := s_Log_clock) l_Log_clock d_Log_clock (c.fact 12 2 : PySem.W.keepIn K (.ref (He.fAd K ("Log", some "clock"))) = true)
  have G_Log_clock := ok_Log_clock (P := l.prog) (ww := ww) (base := base) F_Log_clock T c_is_name
  have c_Log_clock : Mth l.prog ww K mg base CX0 (He.ga K "Log") 2 "clock" (pr3 (p_Log_clock K (EC.mk (He.ga K "Entry") (He.ga K "Within") (He.ga K "At") (He.ga K "Between") (He.ga K "Read") (He.ga K "Entry") (He.ga K "Entry")) (He.ga K "Log") (He.ga K "Table"))) := ⟨_, _, _, G_Log_clock, He.meth_ok (c.fact 12 3 : He.Fa.ok K (.meth "Log" "clock") = true), F_Log_clock.binds (ps := ["self", "place", "table"]) fun _ _ _ _ _ _ us hl => match us, hl with | [_, _, _], _ => rfl⟩
  obtain ⟨oc_Log_put, od_Log_put, sl_Log_put, kv_Log_put, dc_Log_put, pm_Log_put, an_Log_put, cd_Log_put, ct_Log_put, l_Log_put, d_Log_put⟩ := c.def_ 36 (d := ⟨("Log", some "put"), "put", "Log.put", defArgs s_Log_put, defBody s_Log_put, defScope s_Log_put⟩) rfl
  have F_Log_put := fun_mk (st := s_Log_put) l_Log_put d_Log_put (c.fact 12 4 : PySem.W.keepIn K (.ref (He.fAd K ("Log", some "put"))) = true)
  have G_Log_put := ok_Log_put (P := l.prog) (ww := ww) (base := base) F_Log_put T d_places
  have c_Log_put : Mth l.prog ww K mg base CX0 (He.ga K "Log") 2 "put" (pr2 (p_Log_put K (EC.mk (He.ga K "Entry") (He.ga K "Within") (He.ga K "At") (He.ga K "Between") (He.ga K "Read") (He.ga K "Entry") (He.ga K "Entry")) (He.ga K "Log") (He.ga K "Table"))) := ⟨_, _, _, G_Log_put, He.meth_ok (c.fact 12 5 : He.Fa.ok K (.meth "Log" "put") = true), F_Log_put.binds (ps := ["self", "entry"]) fun _ _ _ _ _ _ us hl => match us, hl with | [_, _], _ => rfl⟩
  obtain ⟨oc_Log_bind, od_Log_bind, sl_Log_bind, kv_Log_bind, dc_Log_bind, pm_Log_bind, an_Log_bind, cd_Log_bind, ct_Log_bind, l_Log_bind, d_Log_bind⟩ := c.def_ 37 (d := ⟨("Log", some "bind"), "bind", "Log.bind", defArgs s_Log_bind, defBody s_Log_bind, defScope s_Log_bind⟩) rfl
  have F_Log_bind := fun_mk (st := s_Log_bind) l_Log_bind d_Log_bind (c.fact 12 6 : PySem.W.keepIn K (.ref (He.fAd K ("Log", some "bind"))) = true)
  have G_Log_bind := ok_Log_bind (P := l.prog) (ww := ww) (base := base) F_Log_bind T c_Log_entry c_is_minutes
  have c_Log_bind : Mth l.prog ww K mg base (L2.CX l.prog ww) (He.ga K "Log") 4 "bind" (pr4 (p_Log_bind K (EC.mk (He.ga K "Entry") (He.ga K "Within") (He.ga K "At") (He.ga K "Between") (He.ga K "Read") (He.ga K "Entry") (He.ga K "Entry")) (He.ga K "Log") (He.ga K "Table") (He.ga K "NoEntry"))) := ⟨_, _, _, G_Log_bind, He.meth_ok (c.fact 12 7 : He.Fa.ok K (.meth "Log" "bind") = true), F_Log_bind.binds (ps := ["self", "later", "earlier", "minutes"]) fun _ _ _ _ _ _ us hl => match us, hl with | [_, _, _, _], _ => rfl⟩
  obtain ⟨oc_Log_unbind, od_Log_unbind, sl_Log_unbind, kv_Log_unbind, dc_Log_unbind, pm_Log_unbind, an_Log_unbind, cd_Log_unbind, ct_Log_unbind, l_Log_unbind, d_Log_unbind⟩ := c.def_ 38 (d := ⟨("Log", some "unbind"), "unbind", "Log.unbind", defArgs s_Log_unbind, defBody s_Log_unbind, defScope s_Log_unbind⟩) rfl
  have F_Log_unbind := fun_mk (st := s_Log_unbind) l_Log_unbind d_Log_unbind (c.fact 12 8 : PySem.W.keepIn K (.ref (He.fAd K ("Log", some "unbind"))) = true)
  have G_Log_unbind := ok_Log_unbind (P := l.prog) (ww := ww) (base := base) F_Log_unbind T c_is_whole
  have c_Log_unbind : Mth l.prog ww K mg base CX0 (He.ga K "Log") 2 "unbind" (pr2 (p_Log_unbind K (EC.mk (He.ga K "Entry") (He.ga K "Within") (He.ga K "At") (He.ga K "Between") (He.ga K "Read") (He.ga K "Entry") (He.ga K "Entry")) (He.ga K "Log") (He.ga K "Table"))) := ⟨_, _, _, G_Log_unbind, He.meth_ok (c.fact 12 9 : He.Fa.ok K (.meth "Log" "unbind") = true), F_Log_unbind.binds (ps := ["self", "number"]) fun _ _ _ _ _ _ us hl => match us, hl with | [_, _], _ => rfl⟩
  obtain ⟨oc_Log_drop, od_Log_drop, sl_Log_drop, kv_Log_drop, dc_Log_drop, pm_Log_drop, an_Log_drop, cd_Log_drop, ct_Log_drop, l_Log_drop, d_Log_drop⟩ := c.def_ 39 (d := ⟨("Log", some "drop"), "drop", "Log.drop", defArgs s_Log_drop, defBody s_Log_drop, defScope s_Log_drop⟩) rfl
  have F_Log_drop := fun_mk (st := s_Log_drop) l_Log_drop d_Log_drop (c.fact 12 10 : PySem.W.keepIn K (.ref (He.fAd K ("Log", some "drop"))) = true)
  have G_Log_drop := ok_Log_drop (P := l.prog) (ww := ww) (base := base) F_Log_drop T c_Log_entry
  have c_Log_drop : Mth l.prog ww K mg base CX0 (He.ga K "Log") 4 "drop" (pr2 (p_Log_drop K (EC.mk (He.ga K "Entry") (He.ga K "Within") (He.ga K "At") (He.ga K "Between") (He.ga K "Read") (He.ga K "Entry") (He.ga K "Entry")) (He.ga K "Log") (He.ga K "Table") (He.ga K "NoEntry"))) := ⟨_, _, _, G_Log_drop, He.meth_ok (c.fact 12 11 : He.Fa.ok K (.meth "Log" "drop") = true), F_Log_drop.binds (ps := ["self", "name"]) fun _ _ _ _ _ _ us hl => match us, hl with | [_, _], _ => rfl⟩
  obtain ⟨oc_Log_copied, od_Log_copied, sl_Log_copied, kv_Log_copied, dc_Log_copied, pm_Log_copied, an_Log_copied, cd_Log_copied, ct_Log_copied, l_Log_copied, d_Log_copied⟩ := c.def_ 40 (d := ⟨("Log", some "copied"), "copied", "Log.copied", defArgs s_Log_copied, defBody s_Log_copied, defScope s_Log_copied⟩) rfl
  have F_Log_copied := fun_mk (st := s_Log_copied) l_Log_copied d_Log_copied (c.fact 12 12 : PySem.W.keepIn K (.ref (He.fAd K ("Log", some "copied"))) = true)
  have G_Log_copied := ok_Log_copied (P := l.prog) (ww := ww) (base := base) F_Log_copied T c_Log_init
  have c_Log_copied : Mth l.prog ww K mg base CX0 (He.ga K "Log") 3 "copied" (pr1 (p_Log_copied K (EC.mk (He.ga K "Entry") (He.ga K "Within") (He.ga K "At") (He.ga K "Between") (He.ga K "Read") (He.ga K "Entry") (He.ga K "Entry")) (He.ga K "Log") (He.ga K "Table"))) := ⟨_, _, _, G_Log_copied, He.meth_ok (c.fact 12 13 : He.Fa.ok K (.meth "Log" "copied") = true), F_Log_copied.binds (ps := ["self"]) fun _ _ _ _ _ _ us hl => match us, hl with | [_], _ => rfl⟩
  obtain ⟨oc_l_cell, od_l_cell, sl_l_cell, kv_l_cell, dc_l_cell, pm_l_cell, an_l_cell, cd_l_cell, ct_l_cell, l_l_cell, d_l_cell⟩ := c.def_ 41 (d := ⟨("_law_cell", none), "_law_cell", "_law_cell", defArgs s_l_cell, defBody s_l_cell, defScope s_l_cell⟩) rfl
  have F_l_cell := fun_mk (st := s_l_cell) l_l_cell d_l_cell (c.fact 12 14 : PySem.W.keepIn K (.ref (He.fAd K ("_law_cell", none))) = true)
  have G_l_cell := ok_l_cell (P := l.prog) (ww := ww) (base := base) F_l_cell T 
  have c_l_cell : Fnc l.prog ww K mg base CX0 1 "_law_cell" (pr2 (p_l_cell K)) := ⟨_, _, _, G_l_cell, He.glo_ok X G (c.fact 12 15 : He.Fa.ok K (.glo "_law_cell") = true), (c.fact 12 14 : PySem.W.keepIn K (.ref (He.fAd K ("_law_cell", none))) = true), F_l_cell.binds (ps := ["_law_script", "_law_k"]) fun _ _ _ _ _ _ us hl => match us, hl with | [_, _], _ => rfl⟩
  obtain ⟨oc_l_mix, od_l_mix, sl_l_mix, kv_l_mix, dc_l_mix, pm_l_mix, an_l_mix, cd_l_mix, ct_l_mix, l_l_mix, d_l_mix⟩ := c.def_ 42 (d := ⟨("_law_mix", none), "_law_mix", "_law_mix", defArgs s_l_mix, defBody s_l_mix, defScope s_l_mix⟩) rfl
  have F_l_mix := fun_mk (st := s_l_mix) l_l_mix d_l_mix (c.fact 12 16 : PySem.W.keepIn K (.ref (He.fAd K ("_law_mix", none))) = true)
  have G_l_mix := ok_l_mix (P := l.prog) (ww := ww) (base := base) F_l_mix T 
  have c_l_mix : Fnc l.prog ww K mg base CX0 1 "_law_mix" (pr2 (p_l_mix)) := ⟨_, _, _, G_l_mix, He.glo_ok X G (c.fact 12 17 : He.Fa.ok K (.glo "_law_mix") = true), (c.fact 12 16 : PySem.W.keepIn K (.ref (He.fAd K ("_law_mix", none))) = true), F_l_mix.binds (ps := ["_law_cell_here", "_law_k"]) fun _ _ _ _ _ _ us hl => match us, hl with | [_, _], _ => rfl⟩
  obtain ⟨oc_l_begun, od_l_begun, sl_l_begun, kv_l_begun, dc_l_begun, pm_l_begun, an_l_begun, cd_l_begun, ct_l_begun, l_l_begun, d_l_begun⟩ := c.def_ 43 (d := ⟨("_law_begun", none), "_law_begun", "_law_begun", defArgs s_l_begun, defBody s_l_begun, defScope s_l_begun⟩) rfl
  have F_l_begun := fun_mk (st := s_l_begun) l_l_begun d_l_begun (c.fact 12 18 : PySem.W.keepIn K (.ref (He.fAd K ("_law_begun", none))) = true)
  have G_l_begun := ok_l_begun (P := l.prog) (ww := ww) (base := base) F_l_begun T 
  have c_l_begun : Fnc l.prog ww K mg base CX0 1 "_law_begun" (pr1 (p_l_begun)) := ⟨_, _, _, G_l_begun, He.glo_ok X G (c.fact 12 19 : He.Fa.ok K (.glo "_law_begun") = true), (c.fact 12 18 : PySem.W.keepIn K (.ref (He.fAd K ("_law_begun", none))) = true), F_l_begun.binds (ps := ["_law_cell_here"]) fun _ _ _ _ _ _ us hl => match us, hl with | [_], _ => rfl⟩
  obtain ⟨oc_l_pull, od_l_pull, sl_l_pull, kv_l_pull, dc_l_pull, pm_l_pull, an_l_pull, cd_l_pull, ct_l_pull, l_l_pull, d_l_pull⟩ := c.def_ 44 (d := ⟨("_law_pull", none), "_law_pull", "_law_pull", defArgs s_l_pull, defBody s_l_pull, defScope s_l_pull⟩) rfl
  have F_l_pull := fun_mk (st := s_l_pull) l_l_pull d_l_pull (c.fact 13 0 : PySem.W.keepIn K (.ref (He.fAd K ("_law_pull", none))) = true)
  have G_l_pull := ok_l_pull (P := l.prog) (ww := ww) (base := base) F_l_pull T c_l_mix
  have c_l_pull : Fnc l.prog ww K mg base CX0 2 "_law_pull" (pr2 (p_l_pull)) := ⟨_, _, _, G_l_pull, He.glo_ok X G (c.fact 13 1 : He.Fa.ok K (.glo "_law_pull") = true), (c.fact 13 0 : PySem.W.keepIn K (.ref (He.fAd K ("_law_pull", none))) = true), F_l_pull.binds (ps := ["_law_state", "_law_many"]) fun _ _ _ _ _ _ us hl => match us, hl with | [_, _], _ => rfl⟩
  obtain ⟨oc_l_names, od_l_names, sl_l_names, kv_l_names, dc_l_names, pm_l_names, an_l_names, cd_l_names, ct_l_names, l_l_names, d_l_names⟩ := c.def_ 45 (d := ⟨("_law_names", none), "_law_names", "_law_names", defArgs s_l_names, defBody s_l_names, defScope s_l_names⟩) rfl
  have F_l_names := fun_mk (st := s_l_names) l_l_names d_l_names (c.fact 13 2 : PySem.W.keepIn K (.ref (He.fAd K ("_law_names", none))) = true)
  have G_l_names := ok_l_names (P := l.prog) (ww := ww) (base := base) F_l_names T c_l_pull
  have c_l_names : Fnc l.prog ww K mg base CX0 3 "_law_names" (pr2 (p_l_names)) := ⟨_, _, _, G_l_names, He.glo_ok X G (c.fact 13 3 : He.Fa.ok K (.glo "_law_names") = true), (c.fact 13 2 : PySem.W.keepIn K (.ref (He.fAd K ("_law_names", none))) = true), F_l_names.binds (ps := ["_law_state", "_law_many"]) fun _ _ _ _ _ _ us hl => match us, hl with | [_, _], _ => rfl⟩
  obtain ⟨oc_l_shift, od_l_shift, sl_l_shift, kv_l_shift, dc_l_shift, pm_l_shift, an_l_shift, cd_l_shift, ct_l_shift, l_l_shift, d_l_shift⟩ := c.def_ 46 (d := ⟨("_law_shift", none), "_law_shift", "_law_shift", defArgs s_l_shift, defBody s_l_shift, defScope s_l_shift⟩) rfl
  have F_l_shift := fun_mk (st := s_l_shift) l_l_shift d_l_shift (c.fact 13 4 : PySem.W.keepIn K (.ref (He.fAd K ("_law_shift", none))) = true)
  have G_l_shift := ok_l_shift (P := l.prog) (ww := ww) (base := base) F_l_shift T c_l_pull
  have c_l_shift : Fnc l.prog ww K mg base CX0 3 "_law_shift" (pr1 (p_l_shift)) := ⟨_, _, _, G_l_shift, He.glo_ok X G (c.fact 13 5 : He.Fa.ok K (.glo "_law_shift") = true), (c.fact 13 4 : PySem.W.keepIn K (.ref (He.fAd K ("_law_shift", none))) = true), F_l_shift.binds (ps := ["_law_state"]) fun _ _ _ _ _ _ us hl => match us, hl with | [_], _ => rfl⟩
  obtain ⟨oc_l_rows, od_l_rows, sl_l_rows, kv_l_rows, dc_l_rows, pm_l_rows, an_l_rows, cd_l_rows, ct_l_rows, l_l_rows, d_l_rows⟩ := c.def_ 47 (d := ⟨("_law_rows", none), "_law_rows", "_law_rows", defArgs s_l_rows, defBody s_l_rows, defScope s_l_rows⟩) rfl
  have F_l_rows := fun_mk (st := s_l_rows) l_l_rows d_l_rows (c.fact 13 6 : PySem.W.keepIn K (.ref (He.fAd K ("_law_rows", none))) = true)
  have G_l_rows := ok_l_rows (P := l.prog) (ww := ww) (base := base) F_l_rows T c_l_pull c_l_shift
  have c_l_rows : Fnc l.prog ww K mg base CX0 4 "_law_rows" (pr1 (p_l_rows)) := ⟨_, _, _, G_l_rows, He.glo_ok X G (c.fact 13 7 : He.Fa.ok K (.glo "_law_rows") = true), (c.fact 13 6 : PySem.W.keepIn K (.ref (He.fAd K ("_law_rows", none))) = true), F_l_rows.binds (ps := ["_law_state"]) fun _ _ _ _ _ _ us hl => match us, hl with | [_], _ => rfl⟩
  obtain ⟨oc_l_pieces, od_l_pieces, sl_l_pieces, kv_l_pieces, dc_l_pieces, pm_l_pieces, an_l_pieces, cd_l_pieces, ct_l_pieces, l_l_pieces, d_l_pieces⟩ := c.def_ 48 (d := ⟨("_law_pieces", none), "_law_pieces", "_law_pieces", defArgs s_l_pieces, defBody s_l_pieces, defScope s_l_pieces⟩) rfl
  have F_l_pieces := fun_mk (st := s_l_pieces) l_l_pieces d_l_pieces (c.fact 13 8 : PySem.W.keepIn K (.ref (He.fAd K ("_law_pieces", none))) = true)
  have G_l_pieces := ok_l_pieces (P := l.prog) (ww := ww) (base := base) F_l_pieces T 
  have c_l_pieces : Fnc l.prog ww K mg base CX0 1 "_law_pieces" (pr1 (p_l_pieces)) := ⟨_, _, _, G_l_pieces, He.glo_ok X G (c.fact 13 9 : He.Fa.ok K (.glo "_law_pieces") = true), (c.fact 13 8 : PySem.W.keepIn K (.ref (He.fAd K ("_law_pieces", none))) = true), F_l_pieces.binds (ps := ["_law_rows_here"]) fun _ _ _ _ _ _ us hl => match us, hl with | [_], _ => rfl⟩
  obtain ⟨oc_l_joined, od_l_joined, sl_l_joined, kv_l_joined, dc_l_joined, pm_l_joined, an_l_joined, cd_l_joined, ct_l_joined, l_l_joined, d_l_joined⟩ := c.def_ 49 (d := ⟨("_law_joined", none), "_law_joined", "_law_joined", defArgs s_l_joined, defBody s_l_joined, defScope s_l_joined⟩) rfl
  have F_l_joined := fun_mk (st := s_l_joined) l_l_joined d_l_joined (c.fact 13 10 : PySem.W.keepIn K (.ref (He.fAd K ("_law_joined", none))) = true)
  have G_l_joined := ok_l_joined (P := l.prog) (ww := ww) (base := base) F_l_joined T 
  have c_l_joined : Fnc l.prog ww K mg base CX0 1 "_law_joined" (pr1 (p_l_joined)) := ⟨_, _, _, G_l_joined, He.glo_ok X G (c.fact 13 11 : He.Fa.ok K (.glo "_law_joined") = true), (c.fact 13 10 : PySem.W.keepIn K (.ref (He.fAd K ("_law_joined", none))) = true), F_l_joined.binds (ps := ["_law_stretches"]) fun _ _ _ _ _ _ us hl => match us, hl with | [_], _ => rfl⟩
  obtain ⟨oc_l_shown, od_l_shown, sl_l_shown, kv_l_shown, dc_l_shown, pm_l_shown, an_l_shown, cd_l_shown, ct_l_shown, l_l_shown, d_l_shown⟩ := c.def_ 50 (d := ⟨("_law_shown", none), "_law_shown", "_law_shown", defArgs s_l_shown, defBody s_l_shown, defScope s_l_shown⟩) rfl
  have F_l_shown := fun_mk (st := s_l_shown) l_l_shown d_l_shown (c.fact 13 12 : PySem.W.keepIn K (.ref (He.fAd K ("_law_shown", none))) = true)
  have G_l_shown := ok_l_shown (P := l.prog) (ww := ww) (base := base) F_l_shown T c_l_joined c_l_pieces
  have c_l_shown : Fnc l.prog ww K mg base CX0 2 "_law_shown" (pr3 (p_l_shown)) := ⟨_, _, _, G_l_shown, He.glo_ok X G (c.fact 13 13 : He.Fa.ok K (.glo "_law_shown") = true), (c.fact 13 12 : PySem.W.keepIn K (.ref (He.fAd K ("_law_shown", none))) = true), F_l_shown.binds (ps := ["_law_rows_here", "_law_low", "_law_high"]) fun _ _ _ _ _ _ us hl => match us, hl with | [_, _, _], _ => rfl⟩
  obtain ⟨oc_l_near, od_l_near, sl_l_near, kv_l_near, dc_l_near, pm_l_near, an_l_near, cd_l_near, ct_l_near, l_l_near, d_l_near⟩ := c.def_ 51 (d := ⟨("_law_near", none), "_law_near", "_law_near", defArgs s_l_near, defBody s_l_near, defScope s_l_near⟩) rfl
  have F_l_near := fun_mk (st := s_l_near) l_l_near d_l_near (c.fact 13 14 : PySem.W.keepIn K (.ref (He.fAd K ("_law_near", none))) = true)
  have G_l_near := ok_l_near (P := l.prog) (ww := ww) (base := base) F_l_near T c_l_pieces c_l_pull
  have c_l_near : Fnc l.prog ww K mg base CX0 3 "_law_near" (pr2 (p_l_near)) := ⟨_, _, _, G_l_near, He.glo_ok X G (c.fact 13 15 : He.Fa.ok K (.glo "_law_near") = true), (c.fact 13 14 : PySem.W.keepIn K (.ref (He.fAd K ("_law_near", none))) = true), F_l_near.binds (ps := ["_law_state", "_law_rows_here"]) fun _ _ _ _ _ _ us hl => match us, hl with | [_, _], _ => rfl⟩
  obtain ⟨oc_l_spec, od_l_spec, sl_l_spec, kv_l_spec, dc_l_spec, pm_l_spec, an_l_spec, cd_l_spec, ct_l_spec, l_l_spec, d_l_spec⟩ := c.def_ 52 (d := ⟨("_law_spec", none), "_law_spec", "_law_spec", defArgs s_l_spec, defBody s_l_spec, defScope s_l_spec⟩) rfl
  have F_l_spec := fun_mk (st := s_l_spec) l_l_spec d_l_spec (c.fact 13 16 : PySem.W.keepIn K (.ref (He.fAd K ("_law_spec", none))) = true)
  have G_l_spec := ok_l_spec (P := l.prog) (ww := ww) (base := base) F_l_spec T c_l_near c_l_pull
  have c_l_spec : Fnc l.prog ww K mg base CX0 4 "_law_spec" (pr4 (p_l_spec)) := ⟨_, _, _, G_l_spec, He.glo_ok X G (c.fact 13 17 : He.Fa.ok K (.glo "_law_spec") = true), (c.fact 13 16 : PySem.W.keepIn K (.ref (He.fAd K ("_law_spec", none))) = true), F_l_spec.binds (ps := ["_law_state", "_law_name", "_law_places", "_law_tables"]) fun _ _ _ _ _ _ us hl => match us, hl with | [_, _, _, _], _ => rfl⟩
  obtain ⟨oc_l_made, od_l_made, sl_l_made, kv_l_made, dc_l_made, pm_l_made, an_l_made, cd_l_made, ct_l_made, l_l_made, d_l_made⟩ := c.def_ 53 (d := ⟨("_law_made", none), "_law_made", "_law_made", defArgs s_l_made, defBody s_l_made, defScope s_l_made⟩) rfl
  have F_l_made := fun_mk (st := s_l_made) l_l_made d_l_made (c.fact 13 18 : PySem.W.keepIn K (.ref (He.fAd K ("_law_made", none))) = true)
  have G_l_made := ok_l_made (P := l.prog) (ww := ww) (base := base) F_l_made T c_At_init c_Between_init c_Entry_init c_Read_init c_Within_init
  have c_l_made : Fnc l.prog ww K mg base CX0 7 "_law_made" (pr1 (p_l_made K (EC.mk (He.ga K "Entry") (He.ga K "Within") (He.ga K "At") (He.ga K "Between") (He.ga K "Read") (He.ga K "Entry") (He.ga K "Entry")))) := ⟨_, _, _, G_l_made, He.glo_ok X G (c.fact 13 19 : He.Fa.ok K (.glo "_law_made") = true), (c.fact 13 18 : PySem.W.keepIn K (.ref (He.fAd K ("_law_made", none))) = true), F_l_made.binds (ps := ["_law_spec_here"]) fun _ _ _ _ _ _ us hl => match us, hl with | [_], _ => rfl⟩
  obtain ⟨oc_l_spans, od_l_spans, sl_l_spans, kv_l_spans, dc_l_spans, pm_l_spans, an_l_spans, cd_l_spans, ct_l_spans, l_l_spans, d_l_spans⟩ := c.def_ 54 (d := ⟨("_law_spans", none), "_law_spans", "_law_spans", defArgs s_l_spans, defBody s_l_spans, defScope s_l_spans⟩) rfl
  have F_l_spans := fun_mk (st := s_l_spans) l_l_spans d_l_spans (c.fact 14 0 : PySem.W.keepIn K (.ref (He.fAd K ("_law_spans", none))) = true)
  have G_l_spans := ok_l_spans (P := l.prog) (ww := ww) (base := base) F_l_spans T c_l_joined c_l_shown
  have c_l_spans : Fnc l.prog ww K mg base CX0 3 "_law_spans" (pr2 (p_l_spans)) := ⟨_, _, _, G_l_spans, He.glo_ok X G (c.fact 14 1 : He.Fa.ok K (.glo "_law_spans") = true), (c.fact 14 0 : PySem.W.keepIn K (.ref (He.fAd K ("_law_spans", none))) = true), F_l_spans.binds (ps := ["_law_spec_here", "_law_tables"]) fun _ _ _ _ _ _ us hl => match us, hl with | [_, _], _ => rfl⟩
  obtain ⟨oc_l_same, od_l_same, sl_l_same, kv_l_same, dc_l_same, pm_l_same, an_l_same, cd_l_same, ct_l_same, l_l_same, d_l_same⟩ := c.def_ 55 (d := ⟨("_law_same", none), "_law_same", "_law_same", defArgs s_l_same, defBody s_l_same, defScope s_l_same⟩) rfl
  have F_l_same := fun_mk (st := s_l_same) l_l_same d_l_same (c.fact 14 2 : PySem.W.keepIn K (.ref (He.fAd K ("_law_same", none))) = true)
  have G_l_same := ok_l_same (P := l.prog) (ww := ww) (base := base) F_l_same T 
  have c_l_same : Fnc l.prog ww K mg base CX0 1 "_law_same" (pr2 (p_l_same)) := ⟨_, _, _, G_l_same, He.glo_ok X G (c.fact 14 3 : He.Fa.ok K (.glo "_law_same") = true), (c.fact 14 2 : PySem.W.keepIn K (.ref (He.fAd K ("_law_same", none))) = true), F_l_same.binds (ps := ["_law_found", "_law_due"]) fun _ _ _ _ _ _ us hl => match us, hl with | [_, _], _ => rfl⟩
  obtain ⟨oc_l_gone, od_l_gone, sl_l_gone, kv_l_gone, dc_l_gone, pm_l_gone, an_l_gone, cd_l_gone, ct_l_gone, l_l_gone, d_l_gone⟩ := c.def_ 56 (d := ⟨("_law_gone", none), "_law_gone", "_law_gone", defArgs s_l_gone, defBody s_l_gone, defScope s_l_gone⟩) rfl
  have F_l_gone := fun_mk (st := s_l_gone) l_l_gone d_l_gone (c.fact 14 4 : PySem.W.keepIn K (.ref (He.fAd K ("_law_gone", none))) = true)
  have G_l_gone := ok_l_gone (P := l.prog) (ww := ww) (base := base) F_l_gone T c_Log_bind c_Log_entry c_Log_spans
  have c_l_gone : Fnc l.prog ww K mg base CX0 6 "_law_gone" (pr2 (p_l_gone K (EC.mk (He.ga K "Entry") (He.ga K "Within") (He.ga K "At") (He.ga K "Between") (He.ga K "Read") (He.ga K "Entry") (He.ga K "Entry")) (He.ga K "Log") (He.ga K "Table") (He.ga K "NoEntry"))) := ⟨_, _, _, G_l_gone, He.glo_ok X G (c.fact 14 5 : He.Fa.ok K (.glo "_law_gone") = true), (c.fact 14 4 : PySem.W.keepIn K (.ref (He.fAd K ("_law_gone", none))) = true), F_l_gone.binds (ps := ["_law_log", "_law_name"]) fun _ _ _ _ _ _ us hl => match us, hl with | [_, _], _ => rfl⟩
  obtain ⟨oc_l_copy, od_l_copy, sl_l_copy, kv_l_copy, dc_l_copy, pm_l_copy, an_l_copy, cd_l_copy, ct_l_copy, l_l_copy, d_l_copy⟩ := c.def_ 57 (d := ⟨("_law_copy", none), "_law_copy", "_law_copy", defArgs s_l_copy, defBody s_l_copy, defScope s_l_copy⟩) rfl
  have F_l_copy := fun_mk (st := s_l_copy) l_l_copy d_l_copy (c.fact 14 6 : PySem.W.keepIn K (.ref (He.fAd K ("_law_copy", none))) = true)
  have G_l_copy := ok_l_copy (P := l.prog) (ww := ww) (base := base) F_l_copy T 
  have c_l_copy : Fnc l.prog ww K mg base CX0 1 "_law_copy" (pr1 (p_l_copy)) := ⟨_, _, _, G_l_copy, He.glo_ok X G (c.fact 14 7 : He.Fa.ok K (.glo "_law_copy") = true), (c.fact 14 6 : PySem.W.keepIn K (.ref (He.fAd K ("_law_copy", none))) = true), F_l_copy.binds (ps := ["_law_kept"]) fun _ _ _ _ _ _ us hl => match us, hl with | [_], _ => rfl⟩
  obtain ⟨oc_l_right, od_l_right, sl_l_right, kv_l_right, dc_l_right, pm_l_right, an_l_right, cd_l_right, ct_l_right, l_l_right, d_l_right⟩ := c.def_ 58 (d := ⟨("_law_right", none), "_law_right", "_law_right", defArgs s_l_right, defBody s_l_right, defScope s_l_right⟩) rfl
  have F_l_right := fun_mk (st := s_l_right) l_l_right d_l_right (c.fact 14 8 : PySem.W.keepIn K (.ref (He.fAd K ("_law_right", none))) = true)
  have G_l_right := ok_l_right (P := l.prog) (ww := ww) (base := base) F_l_right T c_Log_bonds c_Log_names c_Log_places c_Log_spans c_l_gone c_l_same c_l_spans
  have c_l_right : Fnc l.prog ww K mg base CX0 7 "_law_right" (pr2 (p_l_right K (EC.mk (He.ga K "Entry") (He.ga K "Within") (He.ga K "At") (He.ga K "Between") (He.ga K "Read") (He.ga K "Entry") (He.ga K "Entry")) (He.ga K "Log") (He.ga K "Table") (He.ga K "NoEntry"))) := ⟨_, _, _, G_l_right, He.glo_ok X G (c.fact 14 9 : He.Fa.ok K (.glo "_law_right") = true), (c.fact 14 8 : PySem.W.keepIn K (.ref (He.fAd K ("_law_right", none))) = true), F_l_right.binds (ps := ["_law_log", "_law_kept"]) fun _ _ _ _ _ _ us hl => match us, hl with | [_, _], _ => rfl⟩
  obtain ⟨oc_l_bound, od_l_bound, sl_l_bound, kv_l_bound, dc_l_bound, pm_l_bound, an_l_bound, cd_l_bound, ct_l_bound, l_l_bound, d_l_bound⟩ := c.def_ 59 (d := ⟨("_law_bound", none), "_law_bound", "_law_bound", defArgs s_l_bound, defBody s_l_bound, defScope s_l_bound⟩) rfl
  have F_l_bound := fun_mk (st := s_l_bound) l_l_bound d_l_bound (c.fact 14 10 : PySem.W.keepIn K (.ref (He.fAd K ("_law_bound", none))) = true)
  have G_l_bound := ok_l_bound (P := l.prog) (ww := ww) (base := base) F_l_bound T c_Log_bind c_l_pull
  have c_l_bound : Fnc l.prog ww K mg base CX0 5 "_law_bound" (pr3 (p_l_bound K (EC.mk (He.ga K "Entry") (He.ga K "Within") (He.ga K "At") (He.ga K "Between") (He.ga K "Read") (He.ga K "Entry") (He.ga K "Entry")) (He.ga K "Log") (He.ga K "Table"))) := ⟨_, _, _, G_l_bound, He.glo_ok X G (c.fact 14 11 : He.Fa.ok K (.glo "_law_bound") = true), (c.fact 14 10 : PySem.W.keepIn K (.ref (He.fAd K ("_law_bound", none))) = true), F_l_bound.binds (ps := ["_law_log", "_law_kept", "_law_state"]) fun _ _ _ _ _ _ us hl => match us, hl with | [_, _, _], _ => rfl⟩
  obtain ⟨oc_l_dropped, od_l_dropped, sl_l_dropped, kv_l_dropped, dc_l_dropped, pm_l_dropped, an_l_dropped, cd_l_dropped, ct_l_dropped, l_l_dropped, d_l_dropped⟩ := c.def_ 60 (d := ⟨("_law_dropped", none), "_law_dropped", "_law_dropped", defArgs s_l_dropped, defBody s_l_dropped, defScope s_l_dropped⟩) rfl
  have F_l_dropped := fun_mk (st := s_l_dropped) l_l_dropped d_l_dropped (c.fact 14 12 : PySem.W.keepIn K (.ref (He.fAd K ("_law_dropped", none))) = true)
  have G_l_dropped := ok_l_dropped (P := l.prog) (ww := ww) (base := base) F_l_dropped T c_Log_drop c_l_pull
  have c_l_dropped : Fnc l.prog ww K mg base CX0 5 "_law_dropped" (pr3 (p_l_dropped K (EC.mk (He.ga K "Entry") (He.ga K "Within") (He.ga K "At") (He.ga K "Between") (He.ga K "Read") (He.ga K "Entry") (He.ga K "Entry")) (He.ga K "Log") (He.ga K "Table"))) := ⟨_, _, _, G_l_dropped, He.glo_ok X G (c.fact 14 13 : He.Fa.ok K (.glo "_law_dropped") = true), (c.fact 14 12 : PySem.W.keepIn K (.ref (He.fAd K ("_law_dropped", none))) = true), F_l_dropped.binds (ps := ["_law_log", "_law_kept", "_law_state"]) fun _ _ _ _ _ _ us hl => match us, hl with | [_, _, _], _ => rfl⟩
  obtain ⟨oc_l_put, od_l_put, sl_l_put, kv_l_put, dc_l_put, pm_l_put, an_l_put, cd_l_put, ct_l_put, l_l_put, d_l_put⟩ := c.def_ 61 (d := ⟨("_law_put", none), "_law_put", "_law_put", defArgs s_l_put, defBody s_l_put, defScope s_l_put⟩) rfl
  have F_l_put := fun_mk (st := s_l_put) l_l_put d_l_put (c.fact 14 14 : PySem.W.keepIn K (.ref (He.fAd K ("_law_put", none))) = true)
  have G_l_put := ok_l_put (P := l.prog) (ww := ww) (base := base) F_l_put T c_Log_put c_l_made c_l_pull c_l_spec
  have c_l_put : Fnc l.prog ww K mg base CX0 8 "_law_put" (pr4 (p_l_put K (EC.mk (He.ga K "Entry") (He.ga K "Within") (He.ga K "At") (He.ga K "Between") (He.ga K "Read") (He.ga K "Entry") (He.ga K "Entry")) (He.ga K "Log") (He.ga K "Table"))) := ⟨_, _, _, G_l_put, He.glo_ok X G (c.fact 14 15 : He.Fa.ok K (.glo "_law_put") = true), (c.fact 14 14 : PySem.W.keepIn K (.ref (He.fAd K ("_law_put", none))) = true), F_l_put.binds (ps := ["_law_log", "_law_kept", "_law_state", "_law_names_here"]) fun _ _ _ _ _ _ us hl => match us, hl with | [_, _, _, _], _ => rfl⟩
  obtain ⟨oc_l_done, od_l_done, sl_l_done, kv_l_done, dc_l_done, pm_l_done, an_l_done, cd_l_done, ct_l_done, l_l_done, d_l_done⟩ := c.def_ 62 (d := ⟨("_law_done", none), "_law_done", "_law_done", defArgs s_l_done, defBody s_l_done, defScope s_l_done⟩) rfl
  have F_l_done := fun_mk (st := s_l_done) l_l_done d_l_done (c.fact 14 16 : PySem.W.keepIn K (.ref (He.fAd K ("_law_done", none))) = true)
  have G_l_done := ok_l_done (P := l.prog) (ww := ww) (base := base) F_l_done T c_Log_clock c_Log_unbind c_Table_init c_l_bound c_l_dropped c_l_pull c_l_put c_l_rows
  have c_l_done : Fnc l.prog ww K mg base CX0 9 "_law_done" (pr4 (p_l_done K (EC.mk (He.ga K "Entry") (He.ga K "Within") (He.ga K "At") (He.ga K "Between") (He.ga K "Read") (He.ga K "Entry") (He.ga K "Entry")) (He.ga K "Log") (He.ga K "Table"))) := ⟨_, _, _, G_l_done, He.glo_ok X G (c.fact 14 17 : He.Fa.ok K (.glo "_law_done") = true), (c.fact 14 16 : PySem.W.keepIn K (.ref (He.fAd K ("_law_done", none))) = true), F_l_done.binds (ps := ["_law_log", "_law_kept", "_law_state", "_law_names_here"]) fun _ _ _ _ _ _ us hl => match us, hl with | [_, _, _, _], _ => rfl⟩
  have F_law := fun_mk (st := s_law) l_law d_law (c.fact 14 18 : PySem.W.keepIn K (.ref (He.fAd K ("law", none))) = true)
  have G_law := ok_law (P := l.prog) (ww := ww) (base := base) F_law T c_Log_copied c_Log_init c_l_begun c_l_cell c_l_copy c_l_done c_l_names c_l_pull c_l_right
  exact G_law
end L
open PySem PySem.W PyProof.Rows in
set_option maxRecDepth 100000 in
set_option maxHeartbeats 0 in
theorem PySem.Challenge.cw_foldlog_k37_deeds_one_behind_another_holds : PySem.Challenge.rw_foldlog_k37_deeds_one_behind_another.Holds := by
  w_on; o_law
  refine HandSHeadRun.head_any (r := OpenLaw.row PySem.Challenge.rw_foldlog_k37_deeds_one_behind_another) (q := view (OpenLaw.row PySem.Challenge.rw_foldlog_k37_deeds_one_behind_another).prog [72]) (H := L.hk) (ob := L.ob) (M := 30000) (loose := L.nms) (d := HandSHeadRun.topDef (OpenLaw.row PySem.Challenge.rw_foldlog_k37_deeds_one_behind_another).prog 72) (kwd := []) L.ob_eq (by kernel_rfl) (fun s => by kernel_rfl) L.run (by kernel_rfl) (by kernel_rfl) (by kernel_rfl) (by rfl) (by first | assumption | decide +kernel) (by decide +kernel) ⟨rfl, rfl, rfl, rfl, rfl, by decide +kernel⟩ ?hw ?hc
  case hw => w_witness2
  case hc =>
    refine L2.walk_ofE (l := PySem.Challenge.rw_foldlog_k37_deeds_one_behind_another) (n := 63) (k := 10) (x := "_law_script") (CX := L2.CX0) rfl (by decide) (by kernel_rfl) ⟨rfl, by decide, by decide⟩ ?F (fun _ _ _ _ z => z)
    intro w mg fa h Y G hmg0
    obtain ⟨K, KX, c⟩ := Y
    have hmg : mg ("law" : PySem.Str) = some (.ref fa) := by
      have e : (HandSHeadRun.topDef (OpenLaw.row PySem.Challenge.rw_foldlog_k37_deeds_one_behind_another).prog 72).name = ("law" : PySem.Str) := by kernel_rfl
      rw [← e]
      exact hmg0
    obtain ⟨fd, hb, hF⟩ := L.all_mk (l := PySem.Challenge.rw_foldlog_k37_deeds_one_behind_another) (ww := w) KX G hmg c
    exact ⟨K, fd, pr1 (L.p_law K), KX, hb, fun H a ns hl _ hS => ⟨⟨H, H, fun _ _ h => h⟩, _, rfl, rfl, L.law_in hl hS⟩, hF⟩
#print axioms PySem.Challenge.cw_foldlog_k37_deeds_one_behind_another_holds
