import PyProof.Rows.All
import Wide.All
import OpenK.AllK
import Wide.FinOn
import PyProof.EqAt
import PyProof.EqKinds
import PyProof.TupleCall
import KE.KStateDown
import HandS.Base
import HandS.Call
import HandS.List
import HandS.Ends
import HandS.Exc
import HandS.Words
import HandS.WordsList
import HandS.WordsExc
import HandS.Defaults
import HandS.Property
import HandS.ClsMeth
import HandS.ExcInit
import HandS.ExcField
import HandS.HeadHook1
import HandS.HeadHook2
import PySem.Challenge.RW_fallenbits_k10_whole_histories_of_device
import HandS.Head0
import HandS.Head1
import HandS.Head2
import HandS.HeadEnd
import KE.GoesNew
import HandS.Comp
import HandS.Iter
import HandS.Walk
import PyProof.StrBlockL
import HandS.Text
import HandS.Zip
import HandS.IsInst
import HandS.Star
import HandS.Replace
import HandS.Conv
import HandS.Codes
import HandS.More
import KE.KTupSum
import HandS.ReplaceLit
import HandS.ReplaceDef
import HandS.GenList
import HandS.GenYield
import HandS.GenCall
/-! ## FBTop -/
set_option Elab.async false
set_option linter.all false
set_option maxRecDepth 100000
/-! The text by places; the facts of the top as one Bool. -/
namespace FB
open PySem PySem.Spec PyProof.Rows L2
def top (i : Nat) : Stmt := PySem.Challenge.pw_fallenbits_k10_whole_histories_of_device.main.body.getD i (.Pass ⟨0, 0, 0, 0⟩)
/-- a def of the text: where it stands, its name, qualified name, statement, defaults -/
structure DM where
  ad : PySem.W.Frag → Addr
  name : Str
  qual : Str
  st : Stmt
  dfl : List He.Dv := []
def fnWM (K : PySem.W.Frag) (a : Addr) : He.FnW := match K.lookup a with
  | some ⟨_, _, .func fd, _⟩ => some (fd.name, fd.qualname, fd.params, fd.body, fd.scope, fd.globals, fd.closure, fd.builtins)
  | _ => none
def DM.val (d : DM) : He.FnW := some (d.name, d.qual, defArgs d.st, .stmts (defBody d.st), defScope d.st, mainGlobals, [], builtinsNs)
def DM.dvs (K : PySem.W.Frag) (d : DM) : List V := d.dfl.map (He.Dv.v K)
def DM.ok (K : PySem.W.Frag) (d : DM) : Bool := PySem.W.keepIn K (.ref (d.ad K)) && (match K.lookup (d.ad K) with
  | some ⟨_, _, .func fd, _⟩ => PySem.W.codeIn K fd.code d.qual && He.dflB K fd.defaults (d.dvs K)
  | _ => false)
/-- a def of the text with defaults -/
abbrev FnF (K : PySem.W.Frag) (name qual : Str) (st : Stmt) (dvs : List V) (f : Addr) (fd : FuncData) : Prop := FunD K name qual (defArgs st) (defBody st) (defScope st) dvs [] f fd
theorem DM.funD {K : PySem.W.Frag} {d : DM} (e : fnWM K (d.ad K) = d.val) (c : d.ok K = true) : ∃ fd, FnF K d.name d.qual d.st (d.dvs K) (d.ad K) fd := by
  obtain ⟨kp, c2⟩ := He.ba c
  unfold fnWM at e
  cases q : K.lookup (d.ad K) with
  | none =>
    rw [q] at c2
    cases c2
  | some o =>
    obtain ⟨oc, od, dt, osl⟩ := o
    rw [q] at c2 e
    cases dt with
    | func fd =>
      obtain ⟨n1, n2, n3, n4, n5, n6, n7, n8, n9, n10, n11, n12, n13, n14, n15⟩ := fd
      have e2 : (some (n1, n2, n3, n4, n5, n6, n7, n15) : He.FnW) = some (d.name, d.qual, defArgs d.st, .stmts (defBody d.st), defScope d.st, mainGlobals, [], builtinsNs) := e
      simp only [Option.some.injEq, Prod.mk.injEq] at e2
      obtain ⟨h1, h2, h3, h4, h5, h6, h7, h8⟩ := e2
      subst h1 h2 h3 h4 h5 h6 h7 h8
      have c3 : (PySem.W.codeIn K n13 d.qual && He.dflB K n8 (d.dvs K)) = true := c2
      obtain ⟨k1, k3⟩ := He.ba c3
      exact ⟨_, ⟨oc, od, n8, n9, n10, n11, n12, n13, n14, osl, rfl, q, k1, He.dflB_ok k3, .inl rfl⟩, kp⟩
    | _ => cases c2
/-- the property f of the class at C: its record, its getter -/
def pAd (C f : Str) (K : PySem.W.Frag) : Addr := He.ma K (He.ga K C) f
def gAd (C f : Str) (K : PySem.W.Frag) : Addr := match PySem.W.recIn K (pAd C f K) "property" with
  | some (.ref g :: _) => g
  | _ => 0
def propB (K : PySem.W.Frag) (C f : Str) : Bool := decide (PySem.W.findIn K (.ref (He.ga K C)) f = some (some (.ref (pAd C f K)))) && (decide (PySem.W.specialIn K (.ref (pAd C f K)) "__get__" = some (some (.builtin "property.__get__"))) &&
  (decide (PySem.W.takesIn K (.ref (pAd C f K)) = some true) && (match PySem.W.recIn K (pAd C f K) "property" with
    | some (.ref _ :: _) => true
    | _ => false)))
theorem propB_ok {K : PySem.W.Frag} {C f : Str} (h : propB K C f = true) : PropOf K (He.ga K C) f (pAd C f K) (gAd C f K) := by
  obtain ⟨h1, h⟩ := He.ba h
  obtain ⟨h2, h⟩ := He.ba h
  obtain ⟨h3, h4⟩ := He.ba h
  refine ⟨of_decide_eq_true h1, of_decide_eq_true h2, of_decide_eq_true h3, ?_⟩
  unfold gAd
  cases q : PySem.W.recIn K (pAd C f K) "property" with
  | none =>
    rw [q] at h4
    cases h4
  | some l =>
    rw [q] at h4
    cases l with
    | nil => cases h4
    | cons v r =>
      cases v with
      | ref g => exact ⟨r, rfl⟩
      | _ => cases h4
/-- a whole number of a class -/
def cvalB (K : PySem.W.Frag) (C f : Str) (i : Int) : Bool := PySem.W.readsIn K (He.ga K C) (.type "type") && (decide (PySem.W.specialIn K (.ref (He.ga K C)) "__getattribute__" = some (some (.builtin "type.__getattribute__"))) &&
  (match PySem.W.findCls K (.ref (He.ga K C)) (.type "type") f with
    | some (.val (.int j _)) => decide (j = i)
    | _ => false))
theorem cvalB_ok {K : PySem.W.Frag} {C f : Str} {i : Int} (h : cvalB K C f i = true) : ClX.CRead K (He.ga K C) (.type "type") ∧ ∃ u, ClX.CVal K (He.ga K C) (.type "type") f (.int i) u := by
  obtain ⟨h1, h⟩ := He.ba h
  obtain ⟨h2, h3⟩ := He.ba h
  refine ⟨⟨h1, of_decide_eq_true h2⟩, ?_⟩
  cases q : PySem.W.findCls K (.ref (He.ga K C)) (.type "type") f with
  | none =>
    rw [q] at h3
    cases h3
  | some l =>
    rw [q] at h3
    cases l with
    | val v =>
      cases v with
      | int j t =>
        have e : j = i := of_decide_eq_true h3
        subst e
        exact ⟨_, q, ⟨t, rfl⟩⟩
      | _ => cases h3
    | _ => cases h3
/-- an own exception class with an __init__ -/
def oexB (K : PySem.W.Frag) (C : Addr) : Bool := (match K.lookup C with
  | some ⟨.type "type", _, .cls cd, sl⟩ => (match cd.mro, sl.toList with
    | .ref C' :: bm, [_, _, _, _, some (.builtin n), _] => C' == C && (n == "ValueError.__new__") && !cd.hasDel && cd.hasDict && PySem.HandSPX.refsVE bm
    | _, _ => false)
  | _ => false) && (decide (PySem.W.findIn K (.ref C) "__setattr__" = some (some (.builtin "object.__setattr__"))) && (decide (PySem.W.subIn K (.ref C) (.type "BaseException") = some true) &&
  (decide (PySem.W.typeIn K (.ref C) = some (.type "type")) && PySem.W.keepIn K (.ref C))))
theorem oexB_ok {K : PySem.W.Frag} {C : Addr} (h : oexB K C = true) : OexC K C := by
  obtain ⟨h1, h⟩ := He.ba h
  obtain ⟨h2, h⟩ := He.ba h
  obtain ⟨h3, h⟩ := He.ba h
  obtain ⟨h4, h5⟩ := He.ba h
  refine ⟨?_, of_decide_eq_true h2, of_decide_eq_true h3, of_decide_eq_true h4, h5⟩
  split at h1
  · rename_i dd cd sl ho
    split at h1
    · rename_i C' bm k0 k1 k2 k3 n k5 hm hs
      simp only [Bool.and_eq_true, beq_iff_eq, Bool.not_eq_true'] at h1
      obtain ⟨⟨⟨⟨rfl, rfl⟩, hdel⟩, hdc⟩, hve⟩ := h1
      obtain ⟨nm, bs, mro, ns, qn, hd, sn, sub, ab, col, del⟩ := cd
      dsimp only at hm hdel hdc
      subst hm hdel hdc
      have hsl : sl = #[k0, k1, k2, k3, some (.builtin "ValueError.__new__"), k5] := by
        obtain ⟨l⟩ := sl
        simp only at hs
        rw [hs]
      subst hsl
      exact ⟨nm, qn, ns, bs, bm, sn, sub, ab, col, dd, k0, k1, k2, k3, k5, ho, hve⟩
    · cases h1
  · cases h1
end FB

/-! ## FBFacts -/
set_option Elab.async false
set_option linter.all false
set_option maxRecDepth 100000
/-! The defs of the text, the facts of the top. -/
namespace FB
open PySem PySem.Spec PyProof.Rows L2
abbrev sIsNumber : Stmt := top 12
abbrev sFaultIn : Stmt := top 13
abbrev sNeedPattern : Stmt := top 14
abbrev sSizesOf : Stmt := top 15
abbrev sNeedPatterns : Stmt := top 16
abbrev sPlacesOf : Stmt := top 17
abbrev sBitsOfBlock : Stmt := top 18
abbrev sWithBits : Stmt := top 19
abbrev sNeedLike : Stmt := top 20
abbrev sLiesIn : Stmt := top 22
abbrev cPattern : Stmt := top 23
abbrev sPInit : Stmt := inClass cPattern 2
abbrev sPSizes : Stmt := inClass cPattern 5
abbrev sPLe : Stmt := inClass cPattern 9
abbrev sChanged : Stmt := top 26
abbrev sBox : Stmt := top 27
abbrev sInBox : Stmt := top 28
abbrev sStanding : Stmt := top 31
abbrev sFallen : Stmt := top 32
abbrev sAreBits : Stmt := top 33
abbrev sIsWriteForm : Stmt := top 34
abbrev sIsWrite : Stmt := top 35
abbrev sEnd : Stmt := top 36
abbrev sWriteBox : Stmt := top 37
abbrev sSingle : Stmt := top 38
abbrev sChoices : Stmt := top 39
abbrev sAllWrites : Stmt := top 40
abbrev cDevice : Stmt := top 42
abbrev sDInit : Stmt := inClass cDevice 0
abbrev sDPattern : Stmt := inClass cDevice 1
abbrev sDEnded : Stmt := inClass cDevice 2
abbrev sDCuts : Stmt := inClass cDevice 3
abbrev sDErases : Stmt := inClass cDevice 4
abbrev sDArmed : Stmt := inClass cDevice 5
abbrev sDArm : Stmt := inClass cDevice 6
abbrev sDDo : Stmt := inClass cDevice 8
abbrev sDStood : Stmt := inClass cDevice 9
abbrev cCut : Stmt := top 9
abbrev sCutInit : Stmt := inClass cCut 0
abbrev sPen : Stmt := top 45
abbrev sTake : Stmt := top 46
abbrev sSizes : Stmt := top 47
abbrev sDrawn : Stmt := top 48
abbrev sChosen : Stmt := top 49
abbrev sCut : Stmt := top 50
abbrev sStep : Stmt := top 51
abbrev sAgain : Stmt := top 52
abbrev sLaw : Stmt := top 53
/-- a global def -/
def gd (x : Str) (st : Stmt) (dfl : List He.Dv := []) : DM := ⟨fun K => He.ga K x, x, x, st, dfl⟩
def md (C m q : Str) (st : Stmt) : DM := ⟨fun K => He.ma K (He.ga K C) m, m, q, st, []⟩
def pd (C m q : Str) (st : Stmt) : DM := ⟨gAd C m, m, q, st, []⟩
def dms : List DM := [
  gd "is_number" sIsNumber, gd "fault_in" sFaultIn, gd "need_pattern" sNeedPattern, gd "sizes_of" sSizesOf, gd "need_patterns" sNeedPatterns, gd "places_of" sPlacesOf, gd "bits_of_block" sBitsOfBlock, gd "with_bits" sWithBits,
  gd "need_like" sNeedLike, gd "lies_in" sLiesIn, md "Pattern" "__init__" "Pattern.__init__" sPInit, pd "Pattern" "sizes" "Pattern.sizes" sPSizes, md "Pattern" "__le__" "Pattern.__le__" sPLe,
  gd "changed" sChanged, gd "box" sBox, gd "in_box" sInBox, gd "standing_bits" sStanding, gd "fallen_blocks" sFallen, gd "are_bits" sAreBits, gd "is_write_form" sIsWriteForm, gd "is_write" sIsWrite, gd "end" sEnd, gd "write_box" sWriteBox,
  gd "single_writes" sSingle [.bl true], gd "choices" sChoices, gd "all_writes" sAllWrites [.bl true],
  md "Device" "__init__" "Device.__init__" sDInit, pd "Device" "pattern" "Device.pattern" sDPattern, pd "Device" "ended" "Device.ended" sDEnded, pd "Device" "cuts" "Device.cuts" sDCuts, pd "Device" "erases" "Device.erases" sDErases, pd "Device" "armed" "Device.armed" sDArmed,
  md "Device" "arm" "Device.arm" sDArm, md "Device" "do" "Device.do" sDDo, md "Device" "stood" "Device.stood" sDStood, md "Cut" "__init__" "Cut.__init__" sCutInit,
  gd "_law_pen" sPen, gd "_law_take" sTake, gd "_law_sizes" sSizes, gd "_law_drawn" sDrawn, gd "_law_chosen" sChosen, gd "_law_cut" sCut, gd "_law_step" sStep, gd "_law_again" sAgain, gd "law" sLaw]
def globals : List Str := ["is_number", "fault_in", "need_pattern", "sizes_of", "need_patterns", "places_of", "bits_of_block", "with_bits", "need_like", "lies_in", "Pattern", "changed", "box", "in_box", "standing_bits", "fallen_blocks", "are_bits", "is_write_form", "is_write", "end"]
def globals2 : List Str := ["write_box", "single_writes", "choices", "all_writes", "Device", "Cut", "_law_pen", "_law_take", "_law_sizes", "_law_drawn", "_law_chosen", "_law_cut", "_law_step", "_law_again", "law"]
def builtins : List Str := ["isinstance", "int", "bool", "str", "tuple", "len", "enumerate", "zip", "sum", "list", "range", "all", "abs"]
def fas : List He.Fa := (globals ++ globals2).map He.Fa.glo ++ builtins.map He.Fa.free ++ [.int "MOST_CHANGED" 10, .int "MOST_STANDING" 10, .cls "Pattern", .cls "Device", .noat "Pattern" "written", .noat "Pattern" "signs",
  .noat "Device" "past", .noat "Device" "ended_so_far", .noat "Device" "cuts_so_far", .noat "Device" "erases_so_far", .noat "Device" "failure_at", .noat "Cut" "found",
  .meth "Pattern" "__le__", .meth "Pattern" "__ge__", .meth "Device" "arm", .meth "Device" "do", .meth "Device" "stood", .mkr "Pattern", .mkr "Device", .exm "Cut" "Cut" true]
def moreB (K : PySem.W.Frag) : Bool := propB K "Pattern" "sizes" && (propB K "Device" "pattern" && (propB K "Device" "ended" && (propB K "Device" "cuts" && (propB K "Device" "erases" && (propB K "Device" "armed" &&
  (cvalB K "Pattern" "BITS" 120 && (cvalB K "Pattern" "BLOCKS" 3 && (oexB K (He.ga K "Cut") && (xfB K (He.ga K "Cut") && (decide (PySem.W.findIn K (.ref (He.ga K "Cut")) "__init__" = some (some (.ref (He.ma K (He.ga K "Cut") "__init__")))) &&
  decide (PySem.W.typeIn K (.ref (He.ma K (He.ga K "Cut") "__init__")) = some (.type "function"))))))))))))
/-- what is told of the top -/
abbrev AlM : Type := Bool × List He.FnW
def obsM (K : PySem.W.Frag) : AlM := ((fas.all fun f => f.ok K) && (moreB K && dms.all fun d => d.ok K), dms.map fun d => fnWM K (d.ad K))
def valM : AlM := (true, dms.map DM.val)
def SaysM (K : PySem.W.Frag) : Prop := obsM K = valM
/-- what the module's names reach in n steps, and the interpreter's own record -/
def asM (g : Addr → Option Obj) : Nat → List Addr
  | 0 => [mainGlobals, cStatics]
  | n + 1 => He.growD g (asM g n)
def obsMG (n : Nat) (g : Addr → Option Obj) : AlM := obsM (He.frG g (asM g n))
def hookM (n : Nat) : PySem.W.Hook where
  α := AlM
  obs := fun s => obsMG n s.heap.get?
  val := fun _ => valM
  says := fun _ h => ∃ K : PySem.W.Frag, K.In h ∧ SaysM K
  of := fun _ _ e => ⟨_, He.frG_in, e⟩
  keeps := fun _ _ _ ⟨K, hK, c⟩ k => ⟨K, PySem.W.Frag.In.keeps hK k, c⟩
theorem obsMG_eq {n : Nat} {g : Addr → Option Obj} {s : Shared} (h : ∀ a, g a = s.heap.get? a) : obsMG n g = (hookM n).obs s := by
  have e : g = s.heap.get? := funext h
  rw [e] <;> rfl
section
variable {K : PySem.W.Frag}
theorem SaysM.facts (c : SaysM K) : fas.all (fun f => f.ok K) = true := (He.ba (show (fas.all (fun f => f.ok K) && (moreB K && dms.all fun d => d.ok K)) = true from congrArg (fun z : AlM => z.1) c)).1
theorem SaysM.more (c : SaysM K) : moreB K = true := (He.ba (He.ba (show (fas.all (fun f => f.ok K) && (moreB K && dms.all fun d => d.ok K)) = true from congrArg (fun z : AlM => z.1) c)).2).1
theorem SaysM.defs (c : SaysM K) : dms.all (fun d => d.ok K) = true := (He.ba (He.ba (show (fas.all (fun f => f.ok K) && (moreB K && dms.all fun d => d.ok K)) = true from congrArg (fun z : AlM => z.1) c)).2).2
theorem SaysM.fact (c : SaysM K) {f : He.Fa} (h : f ∈ fas) : f.ok K = true := List.all_eq_true.mp c.facts f h
theorem SaysM.def_ (c : SaysM K) (i : Nat) {d : DM} (h : dms[i]? = some d) : ∃ fd, FnF K d.name d.qual d.st (d.dvs K) (d.ad K) fd := by
  have e : dms.map (fun d => fnWM K (d.ad K)) = dms.map DM.val := congrArg (fun z : AlM => z.2) c
  have e2 : (dms.map fun d => fnWM K (d.ad K))[i]? = (dms.map DM.val)[i]? := by rw [e]
  rw [List.getElem?_map, List.getElem?_map, h] at e2
  exact DM.funD (Option.some.inj e2) (List.all_eq_true.mp c.defs d (List.mem_of_getElem? h))
end
abbrev R : PySem.W.OpenRow := PySem.W.OpenLaw.row PySem.Challenge.rw_fallenbits_k10_whole_histories_of_device
end FB

/-! ## FBHead -/
set_option Elab.async false
set_option linter.all false
set_option maxRecDepth 100000
set_option maxHeartbeats 0
namespace FB
open PySem PySem.Spec PyProof.Rows L2
abbrev qv : Program := PySem.W.view R.prog [53]
def loose1 : List Str := ["_wall", "FallenError", "NoPattern", "Unlike", "NoBit", "NoWrite", "Rise", "NotInBox", "Cut", "TooMany", "is_number", "fault_in", "need_pattern", "sizes_of", "need_patterns", "places_of", "bits_of_block", "with_bits", "need_like", "merged", "lies_in", "Pattern", "MOST_CHANGED"]
def loose2 : List Str := ["changed", "box", "in_box", "MOST_STANDING", "standing_bits", "fallen_blocks", "are_bits", "is_write_form", "is_write", "end", "write_box", "single_writes", "choices", "all_writes", "Device", "Block", "_law_pen", "_law_take", "_law_sizes", "_law_drawn", "_law_chosen", "_law_cut", "_law_step", "_law_again"]
def looseN : List Str := loose1 ++ loose2
abbrev hk : PySem.W.Hook := hookM 5
def ob (s : PySem.W.SharedT) : AlM := obsMG 5 (HandSHeadRun.getT s)
theorem ob_eq (s : PySem.W.SharedT) : ob s = hk.obs s.abs := obsMG_eq (HandSHeadRun.getT_eq s)
theorem run (w : World) : HandSHeadRun.RunEq R qv hk ob 6000 looseN w := by
  intro os
  kernel_rfl
end FB

/-! ## FBWalk -/
set_option Elab.async false
set_option linter.all false
set_option maxRecDepth 100000
set_option maxHeartbeats 1000000
/-! What a for walks: enumerate(text), zip of two and of three texts; each turn hands out a new tuple. -/
namespace FB
open PySem PySem.Spec PyProof.Rows L2
/-- n turns, a new tuple of vals i each -/
def Itv (vals : Nat → List V) (n : Nat) : It := ⟨fun i _ => i < n, fun i H v H' => ∃ T, v = .ref T ∧ H T = none ∧ H' = upd H T (.tup (vals i)), fun i _ => i = n⟩
theorem turn_of {P : Program} {w : World} {K : PySem.W.Frag} {elts : List Expr} {kk : Nat} {tpos : Pos} {it : Addr} {fp wr : List Addr} {n : Nat} {Pt : Nat → Array Value → Prop} {St : Nat → Heap → Prop} {Mid : Nat → Addr → Heap → Prop} {vals : Nat → List V}
    (W : ∀ A : Around, A.handled = none → WalksT P w A it fp wr n Pt St Mid) (mem : it ∈ fp) (hP : ∀ i us, Pt i us → i < n → Vals (vals i) us.toList) (hz : ∀ i, (vals i).length ≤ sizeLine)
    (obj : ∀ i h, St i h → ∀ b ∈ fp, ∃ o, h.get? b = some o ∧ ∀ v, o.data ≠ .cell v)
    (self : ∀ (A : Around) (i : Nat) (s : Shared) (Q : Value → Shared → Prop) (E : Value → Shared → Prop), St i s.heap → Q (.ref it) s → wpAny (model P w) A (pyIter (.ref it)) Q E s) : Turn P w K (.Tuple elts kk tpos) (Itv vals n) fp it St where
  mem := mem
  obj := obj
  keep := (W ⟨none, 0, none, none, 0⟩ rfl).frame
  item := by
    intro X hPX hw hK hc i pins s σ H E I hf st hg
    subst hPX hw hK
    have W1 := W X.A (I.ok.hd hc)
    have hi : i < n := hg
    refine W1.item i s _ _ hi st fun T us h' tk hPt hnew hT hm hk => ⟨_, rfl, W1.go elts kk tpos i T { s with heap := h', toks := tk } _ _ hm fun h2 st2 hk2 => ?_⟩
    have hT2 : h2.IsTuple T us := hT.at fun o e => hk2 T o (W1.apart i T h' hm) e
    have new : ObjOk X.prog X.w (upd H T (.tup (vals i))) h2 T (.tup (vals i)) := ⟨hz i, us.toList, hP i us hPt hi, hT2⟩
    have I1 : Inv X pins σ (upd H T (.tup (vals i))) { s with heap := h2, toks := tk } :=
      I.turnedNew (t' := tk) (ch := fp) (fun b o hb e => hk2 b o (fun q => hb (W1.sub b q)) (hk b o (fun q => hb (W1.sub b q)) e)) hf hnew new
    have hn : H T = none := I.hok.fresh hnew
    refine ⟨.ref T, _, I1, rfl, ⟨T, rfl, hn, rfl⟩, st2, fun b hb => ?_⟩
    have hbl : b < s.heap.objs.size := by
      obtain ⟨o, e, _⟩ := obj i _ st b hb
      exact Heap.lt_size e
    rw [upd_ne (Nat.ne_of_lt (Nat.lt_of_lt_of_le hbl hnew))]
    exact (hf b hb).1
  done := by
    intro X hPX hw hK hc i pins s σ H E I hf st hg
    subst hPX hw hK
    have W1 := W X.A (I.ok.hd hc)
    have e : i = n := hg
    subst e
    exact W1.done s _ _ st fun h' tk hk => ⟨rfl, I.turnedL (t' := tk) (ch := fp) (fun b o hb q => hk b o (fun z => hb (W1.sub b z)) q) hf⟩
  self := self
/-- the i-th sign of a text, as a text -/
def sg (z : Str) (i : Nat) : V := .str ⟨#[z.cps.getD i 0]⟩
theorem sg_of {z : Str} {i c : Nat} (h : z.cps[i]? = some c) : sg z i = .str ⟨#[c]⟩ := by
  unfold sg
  rw [Array.getD_eq_getD_getElem?, h]
  rfl
theorem str_cell {h : Heap} {it : Addr} {x : Str} {t : Tok} {ty : String} {i : Nat} (s : h.IsStrIter it ty x t i) : ∃ o, h.get? it = some o ∧ ∀ v, o.data ≠ .cell v := by
  obtain ⟨o, e, _, d⟩ := s
  exact ⟨o, e, fun v q => by rw [d] at q; cases q⟩
/-! ### enumerate(text) -/
def enS (z : Str) (i : Nat) : List V := [.int (i : Nat), sg z i]
theorem turn_enumS {P : Program} {w : World} {K : PySem.W.Frag} {elts : List Expr} {kk : Nat} {tpos : Pos} (z : Str) (t : Tok) (e it : Addr) (hne : e ≠ it) :
    Turn P w K (.Tuple elts kk tpos) (Itv (enS z) z.cps.size) [e, it] e (fun i h => (∃ old, IsEnum h e it ((0 : Int) + (i : Int)) old) ∧ h.IsStrIter it (strIterType z) z t i) := by
  refine turn_of (fun A hA => WalksT.enumFrom 0 (Draws.text (A := A.in1) hA it z t) e hne (by simpa using hne) (by simp)) (by simp) (fun i us hp hi => ?_) (fun i => by show 2 ≤ sizeLine; decide) (fun i h st b hb => ?_) (fun A i s Q E st h => ?_)
  · obtain ⟨tk, x, ⟨c, u, hc, rfl⟩, rfl⟩ := hp
    unfold enS
    rw [sg_of hc]
    refine .cons ⟨tk, ?_⟩ (.cons ⟨u, rfl⟩ .nil)
    rw [Int.zero_add]
  · obtain ⟨⟨old, he⟩, hs⟩ := st
    have e' : b = e ∨ b = it := by simpa using hb
    rcases e' with q | q
    · rw [q]; exact ⟨_, he, fun v q => nomatch q⟩
    · rw [q]; exact str_cell hs
  · obtain ⟨⟨old, he⟩, _⟩ := st
    exact wpAny_pyIter_enum he h
def iEnumS (ta : TA) : TI := fun σ H R => ta σ H fun vs H1 => ∃ z, vs = [.str z] ∧ R (Itv (enS z) z.cps.size) H1
section
variable {X : Cx} {p pos tpos : Pos} {elts : List Expr} {kk : Nat}
theorem pi_enumS {e : Expr} {ta : TA} (hg : Gl X "enumerate") (hm : X.mg "enumerate" = none) (ha : PA X [e] ta) (hs : starEach [e] X.env = [(false, eval e X.env)] := by rfl) :
    PI X (.Tuple elts kk tpos) (.Call (.Name "enumerate" p) [e] [] pos) (iEnumS ta) := by
  refine ⟨fun pins s σ H R I h => ?_⟩
  refine Call_ (ld_blt I hg hm boot_enumerate (PyProof.Rows.callWith_type1 (thn (ha.run pos pins s σ H _ I h) fun us s1 ⟨vs, H1, I1, r1, q1⟩ => ?_) hs rfl))
  obtain ⟨z, ex, q⟩ := q1
  subst ex
  cases r1 with
  | cons r rr =>
    cases rr
    obtain ⟨t, rfl⟩ := r
    refine call_enumerate_str fun h' he hit hsz hk => wpAny_pyIter_enum he ?_
    have I2 : Inv X pins σ H1 { s1 with heap := h' } := I1.kept (t' := s1.toks) hk
    refine ⟨s1.heap.objs.size + 1, [s1.heap.objs.size + 1, s1.heap.objs.size], _, _, H1, rfl, I2, turn_enumS z t (s1.heap.objs.size + 1) s1.heap.objs.size (Nat.succ_ne_self _), ⟨⟨.none, he⟩, hit⟩, fun b hb => ?_, q⟩
    have e' : b = s1.heap.objs.size + 1 ∨ b = s1.heap.objs.size := by simpa using hb
    have hle : s1.heap.objs.size ≤ b := by
      rcases e' with z | z
      · rw [z]; exact Nat.le_add_right _ _
      · rw [z]; exact Nat.le_refl _
    exact I1.fpOk hle (I1.hok.fresh hle)
end
/-! ### zip(text, text) -/
def zpS (x y : Str) (i : Nat) : List V := [sg x i, sg y i]
theorem turn_zipS {P : Program} {w : World} {K : PySem.W.Frag} {elts : List Expr} {kk : Nat} {tpos : Pos} (x y : Str) (t u : Tok) (N : Addr) :
    Turn P w K (.Tuple elts kk tpos) (Itv (zpS x y) (min x.cps.size y.cps.size)) ((N + 4) :: (N + 2) :: (N + 3) :: ([N] ++ [N + 1])) (N + 4)
      (fun i h => IsZip h (N + 4) (N + 2) (N + 3) .none ∧ IsTupOf2 h (N + 2) (.ref N) (.ref (N + 1)) ∧ (∃ a1 a2, IsTupOf2 h (N + 3) a1 a2) ∧ h.IsStrIter N (strIterType x) x t i ∧ h.IsStrIter (N + 1) (strIterType y) y u i) := by
  have S : ZipSep2 (N + 4) (N + 2) (N + 3) N (N + 1) [N] [N + 1] := zip_sep2 (fp1 := []) (fp2 := []) (fun b hb => by cases hb) (fun b hb => by cases hb)
  refine turn_of (fun A hA => WalksT.zipD2 S (Draws.text (A := A.in1) hA N x t) (Draws.text (A := A.in1) hA (N + 1) y u)) (by simp) (fun i us hp hi => ?_) (fun i => by show 2 ≤ sizeLine; decide) (fun i h st b hb => ?_) (fun A i s Q E st h => ?_)
  · obtain ⟨v1, v2, ⟨c, a, hc, rfl⟩, ⟨d, b, hd, rfl⟩, rfl⟩ := hp
    unfold zpS
    rw [sg_of hc, sg_of hd]
    exact .cons ⟨a, rfl⟩ (.cons ⟨b, rfl⟩ .nil)
  · obtain ⟨h1, h2, ⟨a1, a2, h3⟩, h4, h5⟩ := st
    have e' : b = N + 4 ∨ b = N + 2 ∨ b = N + 3 ∨ b = N ∨ b = N + 1 := by simpa using hb
    rcases e' with q | q | q | q | q
    · rw [q]; exact ⟨_, h1, fun v q => nomatch q⟩
    · rw [q]; exact ⟨_, h2, fun v q => nomatch q⟩
    · rw [q]; exact ⟨_, h3, fun v q => nomatch q⟩
    · rw [q]; exact str_cell h4
    · rw [q]; exact str_cell h5
  · exact wpAny_pyIter_zip st.1 h
def iZipS (ta : TA) : TI := fun σ H R => ta σ H fun vs H1 => ∃ x y, vs = [.str x, .str y] ∧ R (Itv (zpS x y) (min x.cps.size y.cps.size)) H1
section
variable {X : Cx} {p pos tpos : Pos} {elts : List Expr} {kk : Nat}
theorem pi_zipS {e e2 : Expr} {ta : TA} (hg : Gl X "zip") (hm : X.mg "zip" = none) (ha : PA X [e, e2] ta)
    (hs : starEach [e, e2] X.env = (false, eval e X.env) :: starEach [e2] X.env := by rfl) (hpl : (backTo pos (starEach [e2] X.env)).any (·.1) = false := by rfl) :
    PI X (.Tuple elts kk tpos) (.Call (.Name "zip" p) [e, e2] [] pos) (iZipS ta) := by
  refine ⟨fun pins s σ H R I h => ?_⟩
  refine Call_ (ld_blt I hg hm PyProof.Rows.boot_zip (PyProof.Rows.callWith_type1 (thn (ha.run pos pins s σ H _ I h) fun us s1 ⟨vs, H1, I1, r1, q1⟩ => ?_) hs hpl))
  obtain ⟨x, y, ex, q⟩ := q1
  subst ex
  cases r1 with
  | cons r rr =>
    cases rr with
    | cons r' rr =>
      cases rr
      obtain ⟨t, rfl⟩ := r
      obtain ⟨u, rfl⟩ := r'
      refine zip_begins2 (begins_text x t) (begins_text y u) trivial trivial fun h' hz hTI hTO h1 h2 hsz hk => wpAny_pyIter_zip hz ?_
      have I2 : Inv X pins σ H1 { s1 with heap := h' } := I1.kept (t' := s1.toks) hk
      refine ⟨s1.heap.objs.size + 4, _, _, _, H1, rfl, I2, turn_zipS x y t u s1.heap.objs.size, ⟨hz, hTI, ⟨_, _, hTO⟩, ⟨_, h1, rfl, rfl⟩, ⟨_, h2, rfl, rfl⟩⟩, fun c hcm => ?_, q⟩
      have e' : c = s1.heap.objs.size + 4 ∨ c = s1.heap.objs.size + 2 ∨ c = s1.heap.objs.size + 3 ∨ c = s1.heap.objs.size ∨ c = s1.heap.objs.size + 1 := by simpa using hcm
      have hle : s1.heap.objs.size ≤ c := by
        rcases e' with z | z | z | z | z
        · rw [z]; exact Nat.le_add_right _ _
        · rw [z]; exact Nat.le_add_right _ _
        · rw [z]; exact Nat.le_add_right _ _
        · rw [z]; exact Nat.le_refl _
        · rw [z]; exact Nat.le_add_right _ _
      exact I1.fpOk hle (I1.hok.fresh hle)
end
/-! ### zip(text, text, text) -/
def zp3S (x y z : Str) (i : Nat) : List V := [sg x i, sg y i, sg z i]
theorem turn_zip3S {P : Program} {w : World} {K : PySem.W.Frag} {elts : List Expr} {kk : Nat} {tpos : Pos} (x y z : Str) (t u v : Tok) (N : Addr) :
    Turn P w K (.Tuple elts kk tpos) (Itv (zp3S x y z) (min (min x.cps.size y.cps.size) z.cps.size)) ((N + 5) :: (N + 3) :: (N + 4) :: ([N] ++ [N + 1] ++ [N + 2])) (N + 5)
      (fun i h => IsZip h (N + 5) (N + 3) (N + 4) .none ∧ IsTupOf3 h (N + 3) (.ref N) (.ref (N + 1)) (.ref (N + 2)) ∧ (∃ a1 a2 a3, IsTupOf3 h (N + 4) a1 a2 a3) ∧ h.IsStrIter N (strIterType x) x t i ∧ h.IsStrIter (N + 1) (strIterType y) y u i ∧ h.IsStrIter (N + 2) (strIterType z) z v i) := by
  have S : ZipSep3 (N + 5) (N + 3) (N + 4) N (N + 1) (N + 2) [N] [N + 1] [N + 2] := zip_sep3 (fp1 := []) (fp2 := []) (fp3 := []) (fun b hb => by cases hb) (fun b hb => by cases hb) (fun b hb => by cases hb)
  refine turn_of (fun A hA => WalksT.zipD3 S (Draws.text (A := A.in1) hA N x t) (Draws.text (A := A.in1) hA (N + 1) y u) (Draws.text (A := A.in1) hA (N + 2) z v)) (by simp) (fun i us hp hi => ?_) (fun i => by show 3 ≤ sizeLine; decide) (fun i h st b hb => ?_) (fun A i s Q E st h => ?_)
  · obtain ⟨v1, v2, v3, ⟨c, a, hc, rfl⟩, ⟨d, b, hd, rfl⟩, ⟨f, g, hf, rfl⟩, rfl⟩ := hp
    unfold zp3S
    rw [sg_of hc, sg_of hd, sg_of hf]
    exact .cons ⟨a, rfl⟩ (.cons ⟨b, rfl⟩ (.cons ⟨g, rfl⟩ .nil))
  · obtain ⟨h1, h2, ⟨a1, a2, a3, h3⟩, h4, h5, h6⟩ := st
    have e' : b = N + 5 ∨ b = N + 3 ∨ b = N + 4 ∨ b = N ∨ b = N + 1 ∨ b = N + 2 := by simpa using hb
    rcases e' with q | q | q | q | q | q
    · rw [q]; exact ⟨_, h1, fun v q => nomatch q⟩
    · rw [q]; exact ⟨_, h2, fun v q => nomatch q⟩
    · rw [q]; exact ⟨_, h3, fun v q => nomatch q⟩
    · rw [q]; exact str_cell h4
    · rw [q]; exact str_cell h5
    · rw [q]; exact str_cell h6
  · exact wpAny_pyIter_zip st.1 h
def iZip3S (ta : TA) : TI := fun σ H R => ta σ H fun vs H1 => ∃ x y z, vs = [.str x, .str y, .str z] ∧ R (Itv (zp3S x y z) (min (min x.cps.size y.cps.size) z.cps.size)) H1
section
variable {X : Cx} {p pos tpos : Pos} {elts : List Expr} {kk : Nat}
theorem pi_zip3S {e e2 e3 : Expr} {ta : TA} (hg : Gl X "zip") (hm : X.mg "zip" = none) (ha : PA X [e, e2, e3] ta)
    (hs : starEach [e, e2, e3] X.env = (false, eval e X.env) :: starEach [e2, e3] X.env := by rfl) (hpl : (backTo pos (starEach [e2, e3] X.env)).any (·.1) = false := by rfl) :
    PI X (.Tuple elts kk tpos) (.Call (.Name "zip" p) [e, e2, e3] [] pos) (iZip3S ta) := by
  refine ⟨fun pins s σ H R I h => ?_⟩
  refine Call_ (ld_blt I hg hm PyProof.Rows.boot_zip (PyProof.Rows.callWith_type1 (thn (ha.run pos pins s σ H _ I h) fun us s1 ⟨vs, H1, I1, r1, q1⟩ => ?_) hs hpl))
  obtain ⟨x, y, z, ex, q⟩ := q1
  subst ex
  cases r1 with
  | cons r rr =>
    cases rr with
    | cons r' rr =>
      cases rr with
      | cons r'' rr =>
        cases rr
        obtain ⟨t, rfl⟩ := r
        obtain ⟨u, rfl⟩ := r'
        obtain ⟨v, rfl⟩ := r''
        refine zip_begins3 (begins_text x t) (begins_text y u) (begins_text z v) trivial trivial trivial fun h' hz hTI hTO h1 h2 h3 hsz hk => wpAny_pyIter_zip hz ?_
        have I2 : Inv X pins σ H1 { s1 with heap := h' } := I1.kept (t' := s1.toks) hk
        refine ⟨s1.heap.objs.size + 5, _, _, _, H1, rfl, I2, turn_zip3S x y z t u v s1.heap.objs.size, ⟨hz, hTI, ⟨_, _, _, hTO⟩, ⟨_, h1, rfl, rfl⟩, ⟨_, h2, rfl, rfl⟩, ⟨_, h3, rfl, rfl⟩⟩, fun c hcm => ?_, q⟩
        have e' : c = s1.heap.objs.size + 5 ∨ c = s1.heap.objs.size + 3 ∨ c = s1.heap.objs.size + 4 ∨ c = s1.heap.objs.size ∨ c = s1.heap.objs.size + 1 ∨ c = s1.heap.objs.size + 2 := by simpa using hcm
        have hle : s1.heap.objs.size ≤ c := by
          rcases e' with z | z | z | z | z | z
          · rw [z]; exact Nat.le_add_right _ _
          · rw [z]; exact Nat.le_add_right _ _
          · rw [z]; exact Nat.le_add_right _ _
          · rw [z]; exact Nat.le_refl _
          · rw [z]; exact Nat.le_add_right _ _
          · rw [z]; exact Nat.le_add_right _ _
        exact I1.fpOk hle (I1.hok.fresh hle)
end
/-- the walk, for for_it and lc_it -/
theorem walk_v {vals : Nat → List V} {n : Nat} : Walk (Itv vals n) n (fun _ => True) (fun i H v H' => ∃ T, v = .ref T ∧ H T = none ∧ H' = upd H T (.tup (vals i))) :=
  ⟨fun _ _ hi _ => hi, fun _ _ => rfl, fun _ _ _ _ _ _ y => y⟩
end FB

/-! ## FBRules -/
set_option Elab.async false
set_option linter.all false
set_option maxRecDepth 100000
set_option maxHeartbeats 4000000
/-! Rules of our own: an own <=; a caught exception that is looked at behind its clause. -/
namespace FB
open PySem PySem.Spec PyProof.Rows L2
/-! ### an own <= -/
section
variable {X : Cx} {CX : CXT} {n : Nat} {C f : Addr} {fd : FuncData} {ps : List Str} {sp : Sp}
def rLeO (C : Addr) (sp : Sp) : R2 := fun x y H Q => ∃ a b dx dy fs gs, x = .ref a ∧ y = .ref b ∧ H a = some (.ins C dx fs) ∧ H b = some (.ins C dy gs) ∧ sp [.ref a, .ref b] H (fun v H' => ∃ k, v = .bl k ∧ Q (.bl k) H') E0
theorem op_leO (F : FnOk X.prog X.w X.K X.mg X.base CX n f fd ps sp) (hs : PySem.W.findIn X.K (.ref C) "__le__" = some (some (.ref f))) (hf : PySem.W.isFn X.K (.ref f) = true) (hb : Binds X.K fd ps []) (hx : Passes CX X E0) (hr : Room n X.A) :
    OpR X (compareOp .LtE) (rLeO C sp) := by
  intro pins s σ H x y v u Q I rx ry hq
  obtain ⟨a, b, dx, dy, fs, gs, rfl, rfl, ha, hb', hsp⟩ := hq
  cases rx
  cases ry
  obtain ⟨mA, O, _⟩ := ins_get I.hok ha
  obtain ⟨od, J, _⟩ := O.look
  obtain ⟨mB, O', _⟩ := ins_get I.hok hb'
  obtain ⟨od', J', _⟩ := O'.look
  obtain ⟨m, hF⟩ := I.fr
  show wpAny (model X.prog X.w) X.A (richCompare .LtE (.ref a) (.ref b)) (EP X pins σ Q) X.xe s
  refine PySem.W.cmp_K (op := .LtE) (tb := .ref C) hr.units0 hF I.ok.mod.kin J J'.type (by simp [PySem.W.notFirst]) hs hf ?_
  have hl := F.len _ _ _ _ hsp
  have r2 : Vals [V.ref a, V.ref b] [Value.ref a, Value.ref b] := .cons rfl (.cons rfl .nil)
  refine wpAny_call (codeAny_mono (F.run X.A X.stack s H ⟨[.ref a, .ref b], []⟩ [.ref a, .ref b] [.ref a, .ref b] _ E0 hr I.env0 (by
    have := hb s [.ref a, .ref b] I.kIn (by simpa using hl)
    simpa using this) r2 hsp) fun r s' hq => ?_)
  cases r with
  | error e => exact hx pins σ H s e s' I hq
  | ok fl =>
    cases fl with
    | ret w =>
      obtain ⟨z, H', I', rz, k, ez, q⟩ := I.after hq
      subst ez
      cases rz
      exact ⟨.bl k, H', I', rfl, q⟩
    | next => exact False.elim hq
    | brk => exact False.elim hq
    | cont => exact False.elim hq
end
/-! ### an exception that was caught, as it stands behind its clause -/
/-- at a: an exception of the class cls, its own dict at d -/
def exh (a : Addr) (cls : Value) (d : Option Addr) : HO := .ext fun h => ∃ oe vs, h.get? a = some oe ∧ Zc cls d oe ∧ oe.data = .fields vs
theorem exh_ok {P : Program} {w : World} {H : Hp} {h : Heap} {a : Addr} {cls : Value} {d : Option Addr} {oe : Obj} {vs : Array Value} (he : h.get? a = some oe) (hz : Zc cls d oe) (hd : oe.data = .fields vs) : ObjOk P w H h a (exh a cls d) :=
  ⟨⟨oe, vs, he, hz, hd⟩, ⟨oe, he⟩, fun h1 h2 z k => by
    obtain ⟨o, us, q, r⟩ := z
    exact ⟨o, us, k _ q, r⟩⟩
theorem exh_at {P : Program} {w : World} {H : Hp} {h : Heap} {a : Addr} {cls : Value} {d : Option Addr} (hok : HOk P w H h) (e : H a = some (exh a cls d)) : ∃ oe vs, h.get? a = some oe ∧ Zc cls d oe ∧ oe.data = .fields vs := by
  have x : ObjOk P w H h a (.ext fun h => ∃ oe vs, h.get? a = some oe ∧ Zc cls d oe ∧ oe.data = .fields vs) := hok a _ e
  exact x.1
/-- an object that was made here and is not tracked yet is tracked -/
theorem _root_.L2.Inv.track {X : Cx} {pins : List (Addr × Obj)} {σ : L2.St} {H : Hp} {s : Shared} {a : Addr} {cls : Value} {d : Option Addr} (I : Inv X pins σ H s) (hn : H a = none) (hL : a ≠ X.env.locals) (h0 : ∀ o, X.s_0.heap.get? a ≠ some o) (hc : ∀ x c, X.env.cells.lookup x = some c → c ≠ a)
    (hp : ∀ p ∈ X.pn ++ pins, p.1 ≠ a) (new : ObjOk X.prog X.w (upd H a (exh a cls d)) s.heap a (exh a cls d)) : Inv X pins σ (upd H a (exh a cls d)) s := by
  have ne : ∀ b o, H b = some o → b ≠ a := fun b o e => ne_of_none e hn
  refine ⟨I.ok, I.os, I.bare, ⟨I.base.keep, I.base.slot, fun b o e n hx => ?_, I.base.there, fun b xs e => ?_, fun b o u e => ?_, fun b ps e => ?_⟩, I.loc, I.cell, ?_, fun x c e => ?_, fun p hm => ?_, fun b o e => ?_, I.len⟩
  · rw [upd_ne (fun z => h0 o (by rw [← z]; exact e))]
    exact I.base.free b o e n hx
  · have q := I.base.tups b xs e
    rw [upd_ne (ne b _ q)]
    exact q
  · have q := I.base.frzs b o u e
    rw [upd_ne (ne b _ q)]
    exact q
  · obtain ⟨more, q⟩ := I.base.tbls b ps e
    exact ⟨more, by rw [upd_ne (ne b _ q)]; exact q⟩
  · rw [upd_ne (Ne.symm hL)]
    exact I.free
  · rw [upd_ne (hc x c e)]
    exact I.freeC x c e
  · obtain ⟨h1, h2, h3⟩ := I.pin p hm
    exact ⟨h1, by rw [upd_ne (hp p hm)]; exact h2, h3⟩
  · by_cases hb : b = a
    · subst hb
      rw [upd_same] at e
      cases e
      exact new
    · rw [upd_ne hb] at e
      exact (I.hok b o e).stay (fun _ _ _ q => q) (fun c q => by rw [upd_ne (ne c _ q)]; exact q) fun c xs q => by rw [upd_ne (ne c _ q)]; exact q
/-- e.n, e a caught exception that is tracked -/
def tXh (C : Addr) (f : Str) (te : TE) : TE := fun σ H Q => te σ H fun x H1 => ∃ (a dd : Addr) (fs : List (Str × V)) (v : V), x = .ref a ∧ H1 a = some (exh a (.ref C) (some dd)) ∧ H1 dd = some (.xd fs) ∧ fs.lookup f = some v ∧ Q v H1
theorem pe_xh {X : Cx} {C : Addr} {e : Expr} {te : TE} {pos : Pos} {n : Str} (T : XfC X.K C) (hno : PySem.W.findIn X.K (.ref C) n = some none) (he : PE X e te) (hb : attributeBase e n X.env (eval e X.env) = eval e X.env := by rfl) :
    PE X (.Attribute e n pos) (tXh C n te) := by
  refine ⟨fun pins s σ H Q I h => ?_⟩
  refine attr_of hb (thn (he.run pins s σ H _ I h) fun u s1 hh => ?_)
  obtain ⟨x, H1, I1, rx, a, dd, fs, v, ex, ea, ed, l, q⟩ := hh
  subst ex
  obtain rfl : u = Value.ref a := rx
  obtain ⟨oe, vs, ha, hz, hd⟩ := exh_at I1.hok ea
  have hx : ObjOk X.prog X.w H1 s1.heap dd (.xd fs) := I1.hok dd _ ed
  obtain ⟨mA, hns, hr⟩ := hx
  obtain ⟨od, ho, hl⟩ := lookIn_ns hns
  obtain ⟨u, hu, ru⟩ := RelO.some_of (v := v) (o := mA n) (by rw [← l]; exact hr n)
  have J : PySem.W.InstAt s1.heap a oe C (some od) := ⟨ha, hz.1, by unfold PySem.W.notCls; rw [hd] <;> rfl, by rw [hz.2]; exact ho⟩
  exact HandSPX.exc_get I1.kIn J T.ga T.gg T.exC (PySem.W.findObj_own T.hdC hno rfl (by rw [hl, hu])) (handed_of ru) ⟨v, H1, I1.tok _, ru, q⟩
/-- what the clause 'except x as n' wishes; behind the suite the exception stays known -/
def wAsK (K : PySem.W.Frag) (c : Value) (i : Nat) (ts : Addr → Value → Option Addr → TS) (Wout : WX) (D : Ends) : WX := fun cls d σ H =>
  ∃ b, PySem.W.exmOne K cls c = some b ∧ (b = true → ∀ a, H a = none → ts a cls d { nx := fun σ' H' => H' a = none → D.nx (σ'.set i none) (upd H' a (exh a cls d)), rt := D.rt, bk := fun σ' H' => D.bk (σ'.set i none) H', ct := fun σ' H' => D.ct (σ'.set i none) H' } (σ.set i (some (.ref a))) H) ∧
    (b = false → Wout cls d σ H)
section
variable {X : Cx} {x n : Str} {c : Value} {i : Nat} {body suite : List Stmt} {b₀ : Stmt} {np pos pos' : Pos} {tb : WX → TS} {ts : Addr → Value → Option Addr → TS} {Wout : WX}
theorem ps_try_asK (hex : X.ex = []) (hs : X.stack = X.env :: X.outer) (hf : X.env.frame = some X.env.locals) (hN : X.N.Nodup) (hi : X.N[i]? = some n) (hln : X.env.kindOf n = some .local) (hc : Names X x c) (tk : Takes X Wout)
    (hb : ∀ (W : WX) (pn : List (Addr × Obj)) (xe : Value → Shared → Prop), Takes (X.tr pn xe) W → PassesOwn (model X.prog X.w) X.A X.env xe → PSs (X.tr pn xe) body (tb W))
    (hsu : ∀ (a : Addr) (oe : Obj) (cls : Value) (d : Option Addr) (pn : List (Addr × Obj)), Zc cls d oe → (∃ vs, oe.data = .fields vs) → PSs (X.suite a ((a, oe) :: pn)) (b₀ :: suite) (ts a cls d)) :
    PS X (.Try body [.ExceptHandler (some (.Name x np)) (some n) (b₀ :: suite) pos'] [] [] pos) (fun D σ H => tb (wAsK X.K c i ts Wout D) D σ H) := by
  refine ⟨fun pins s σ H D I h => ?_⟩
  have ok := I.ok
  have hfr : X.A.frames = some (X.env :: X.outer) := by rw [ok.frames, hs]
  have hloc : Loc X.env.scope n := .inl hln
  refine wpAny_Try_except ?_
  refine wpAny_mono ((hb (wAsK X.K c i ts Wout D) (X.pn ++ pins) (fun e s₁ => wpAny (model X.prog X.w) X.A (noteFrame e X.env) (fun _ s₂ => wpAny (model X.prog X.w) X.A (setFlight e none) (fun _ s₃ =>
    wpAny (model X.prog X.w) X.A (handleBy e X.env [.ExceptHandler (some (.Name x np)) (some n) (b₀ :: suite) pos']) (SP X pins D) X.xe s₃) X.xe s₂) X.xe s₁) (fun u s' xx => ?_) PassesOwn.looking).run [] s σ H D (I.toTry _) h) (fun f s1 hsp => ?_) (fun e s1 he => he)
  · -- the catch
    obtain ⟨a, B, sI, pins', σ', H', cls, d, rfl, J', nb, up, sky, na, os, ag, b, hb1, hyes, hno⟩ := xx
    have J : Inv X pins σ' H' sI := J'.ofTry ok
    have sky' : Sky B (X.env :: X.outer) a (Zc cls d) X.env.locals s'.heap := by rw [← hs]; exact sky
    show wpAny (model X.prog X.w) X.A (noteFrame (.ref a) X.env) _ _ _
    refine Sky.land Zc.steady hfr hf sky' fun h3 fl3 up3 => ?_
    have J3 : Inv X pins σ' H' { s' with heap := h3 } := J.landed nb fl3.1 (up.trans up3) os ag
    obtain ⟨oe3, vs3, he3, hz3, hd3⟩ := fl3.there
    have notFr : ∀ {h : Heap} {o : Obj} {vs : Array Value}, h.FunFrames B (X.env :: X.outer) → h.get? a = some o → o.data = .fields vs → a ∉ frs (X.env :: X.outer) := fun {h o vs} ff e dd hm => by
      obtain ⟨_, o', e', hnf⟩ := ff.mem hm
      rw [e] at e'; cases e'
      exact hnf _ dd
    have nfr := notFr fl3.2.2.1 he3 hd3
    have nL : a ≠ X.env.locals := fun z => nfr (List.mem_filterMap.mpr ⟨X.env, List.mem_cons_self, by rw [hf, z]⟩)
    have nF : a ∉ X.fs := fun hm => by
      obtain ⟨e, he, q⟩ := List.mem_filterMap.mp hm
      exact nfr (List.mem_filterMap.mpr ⟨e, List.mem_cons_of_mem _ he, q⟩)
    have S3 := J3.suite he3 hd3 na nL nF
    have nsI : ∀ o, sI.heap.get? a ≠ some o := fun o e => by
      have q := nb a o e (by rw [hs]; exact nfr)
      rw [fl3.2.1] at q
      cases q
    refine wpAny_handleBy_cons (codeAny_handlers_test ?_) (by intro q; cases q)
    have LT : PySem.W.Looks (model X.prog X.w) h3 (typeOf (.ref a)) cls := fun A Q E s k q => wpAny_typeOf_ref (k _ _ he3) (by rw [hz3.1]; exact q)
    have LM := PySem.W.exm_one (M := model X.prog X.w) (J3.kIn) LT hb1
    have test : ∀ {Q : Value → Shared → Prop} {E : Value → Shared → Prop}, Q c { s' with heap := h3 } → wpAny (model X.prog X.w) (X.A.mark (some (.ref a))) (eval (.Name x np) X.env) Q E { s' with heap := h3 } := fun {Q E} q => by
      obtain ⟨hg, hdbg, hm | ⟨hm, hv, hnn⟩⟩ := hc
      · exact ld_glob (X := X.suite a ((a, oe3) :: (X.pn ++ pins))) S3 hg hm q hdbg
      · exact ld_blt (X := X.suite a ((a, oe3) :: (X.pn ++ pins))) S3 hg hm hv q hnn hdbg
    refine test (LM.here ?_)
    cases b with
    | true =>
      refine codeAny_handlers_suite_as ?_
      refine HandSPX.lands_againZ fl3 fun h4 fl4 up4 => ?_
      have J4 : Inv X pins σ' H' { s' with heap := h4 } := J.landed nb fl4.1 ((up.trans up3).trans up4) os ag
      obtain ⟨oe4, vs4, he4, hz4, hd4⟩ := fl4.there
      have S4 := J4.suite he4 hd4 na nL nF
      refine store_ok (X := X.suite a ((a, oe4) :: (X.pn ++ pins))) (v := .ref a) S4 hN hi hloc rfl (fun s5 S5 => ?_) (.inr hln)
      refine wpAny_mono ((hsu a oe4 cls d (X.pn ++ pins) hz4 ⟨_, hd4⟩).run [] s5 _ H' _ S5 (hyes rfl a na)) (fun f s6 hsp => ?_) (fun _ _ z => False.elim z)
      have end_ : ∀ {σ6 : L2.St} {H6 : Hp} {Q : Shared → Prop}, Inv (X.suite a ((a, oe4) :: (X.pn ++ pins))) [] σ6 H6 s6 → (∀ s7, Inv X pins (σ6.set i none) H6 s7 → Q s7) →
          wpAny (model X.prog X.w) X.A (do bindName X.env n .none; unbindBehindTheSuite X.env n pos') (fun _ s7 => Q s7) X.xe s6 := fun {σ6 H6 Q} S6 hq => gone_ok (S6.unsuite ok) hN hi hln hq
      have known : ∀ {σ6 : L2.St} {H6 : Hp}, Inv (X.suite a ((a, oe4) :: (X.pn ++ pins))) [] σ6 H6 s6 → Inv X pins σ6 (upd H6 a (exh a cls d)) s6 := fun {σ6 H6} S6 => by
        obtain ⟨p1, p2, p3, p4, p5⟩ := S6.pin (a, oe4) (List.mem_append_left _ List.mem_cons_self)
        refine (S6.unsuite ok).track p2 p3 (fun o e => ?_) (fun y c e z => ?_) (fun p hp z => ?_) (exh_ok p1 hz4 hd4)
        · obtain ⟨o', e'⟩ := J.base.there a o e (by rw [hex]; simp)
          exact nsI o' e'
        · obtain ⟨v, o, ho, hv⟩ := S6.cell y c e
          rw [z] at ho
          have ho' : s6.heap.get? a = some o := ho
          rw [show s6.heap.get? a = some oe4 from p1] at ho'
          cases ho'
          exact p5 v hv
        · exact nsI p.2 (by rw [← z]; exact (J.pin p hp).1)
      cases f with
      | next =>
        obtain ⟨σ6, H6, S6, q6⟩ := hsp
        have na6 : H6 a = none := (S6.pin (a, oe4) (List.mem_append_left _ List.mem_cons_self)).2.1
        exact gone_ok (known S6) hN hi hln fun s7 J7 => ⟨_, _, J7, q6 na6⟩
      | brk =>
        obtain ⟨σ6, H6, S6, q6⟩ := hsp
        exact end_ S6 fun s7 J7 => ⟨_, _, J7, q6⟩
      | cont =>
        obtain ⟨σ6, H6, S6, q6⟩ := hsp
        exact end_ S6 fun s7 J7 => ⟨_, _, J7, q6⟩
      | ret u =>
        obtain ⟨v6, σ6, H6, S6, r6, q6⟩ := hsp
        exact end_ S6 fun s7 J7 => ⟨_, _, _, J7, r6, q6⟩
    | false =>
      show wpAny _ X.A (handleBy (.ref a) X.env []) _ _ _
      refine wpAny_handleBy_nil ?_
      obtain ⟨k1, k2, k3, oe, vs, T, oT, ts', he, hz, hd, h1, hr⟩ := id fl3
      unfold PySem.passOn
      refine wpAny_bind (wpAny_field he hd h1 ?_)
      rw [if_neg (show ¬ ((Value.ref T == Value.none) = true) from by simp)]
      have fin : wpAny (model X.prog X.w) X.A (setFlight (.ref a) X.env.frame) (fun _ s4 => wpAny (model X.prog X.w) X.A (throw (.ref a) : Sem Flow) (SP X pins D) X.xe s4) X.xe { s' with heap := h3 } := by
        rw [hf]
        refine HandSPX.setFlight_upZ fl3 fun h4 hh4 up4 => wpAny_throw (tk _ _ ?_)
        exact ⟨a, B, sI, pins, σ', H', cls, d, rfl, J, nb, (up.trans up3).trans up4, .inr (.inr (by rw [hs]; exact hh4)), na, os, ag, hno rfl⟩
      first
        | exact wpAny_bind (wpAny_pure (wpAny_bind fin))
        | exact wpAny_bind fin
  · cases f with
    | next =>
      obtain ⟨σ', H', J', q⟩ := hsp
      exact wpAny_execs_nil ⟨σ', H', J'.ofTry ok, q⟩
    | brk =>
      obtain ⟨σ', H', J', q⟩ := hsp
      exact ⟨σ', H', J'.ofTry ok, q⟩
    | cont =>
      obtain ⟨σ', H', J', q⟩ := hsp
      exact ⟨σ', H', J'.ofTry ok, q⟩
    | ret u =>
      obtain ⟨v, σ', H', J', r, q⟩ := hsp
      exact ⟨v, σ', H', J'.ofTry ok, r, q⟩
end
end FB

/-! ## FBMath -/
set_option Elab.async false
set_option linter.all false
set_option maxRecDepth 100000
/-! The plain side: what the defs compute, over texts. -/
namespace FB
open PySem
def mk (l : List Nat) : Str := ⟨l.toArray⟩
abbrev codes (x : Str) : List Nat := x.cps.toList
def cdL (l : List Nat) (i : Nat) : Nat := l.getD i 0
def cd (x : Str) (i : Nat) : Nat := cdL (codes x) i
def sg1 (x : Str) (i : Nat) : Str := ⟨#[cd x i]⟩
abbrev sz (x : Str) : Nat := (codes x).length
def fstep (s : Option (Nat × Nat × Nat)) (c : Nat) : Option (Nat × Nat × Nat) := match s with
  | none => none
  | some (bl, bi, ru) => if (c = 48 ∨ c = 49) ∧ bi < 120 then some (bl, bi + 1, ru + 1) else if c = 46 ∧ 0 < ru ∧ bl < 3 ∧ bi < 120 then some (bl + 1, bi, 0) else none
def faultSt (x : Str) (i : Nat) : Option (Nat × Nat × Nat) := (List.range i).foldl (fun s j => fstep s (cd x j)) (some (1, 0, 0))
def okM (x : Str) : Bool := match faultSt x (sz x) with
  | some (_, _, r) => decide (0 < r)
  | none => false
def blocksOf (x : Str) : List Str := Txt.split x "."
def sizesM (x : Str) : List Nat := (blocksOf x).map (·.length)
def placesM (x : Str) : List Nat := (List.range (sz x)).filter fun j => cd x j ≠ 46
def firstM (x : Str) (b : Nat) : Nat := ((sizesM x).take b).sum
def blockBitsM (x : Str) (b : Nat) : List Nat := (List.range ((sizesM x).getD b 0)).map (firstM x b + ·)
def signsM (x : Str) : List Str := (List.range (sz x)).map (sg1 x)
def withM (x : Str) (bits : List Nat) (s : Str) : Str := Txt.join "" (bits.foldl (fun l b => l.set ((placesM x).getD b 0) s) (signsM x))
def liesL (a b : List Nat) : Bool := (List.range (min a.length b.length)).all fun j => cdL a j != 49 || cdL b j == 49
def liesM (a b : Str) : Bool := liesL (codes a) (codes b)
def changedM (a b : Str) : Nat := ((List.range (min (sz a) (sz b))).filter fun j => cd a j ≠ cd b j).length
def boxStepL (a b : List Nat) (found : List (List Nat)) (j : Nat) : List (List Nat) := found.flatMap fun t => (if cdL a j == cdL b j then [cdL a j] else [48, 49]).map fun c => t ++ [c]
def boxL (a b : List Nat) : List (List Nat) := (List.range (min a.length b.length)).foldl (boxStepL a b) [[]]
def boxM (a b : Str) : List Str := (boxL (codes a) (codes b)).map mk
def inBoxL (z a b : List Nat) : Bool := (List.range (min (min z.length a.length) b.length)).all fun j => cdL z j == cdL a j || cdL z j == cdL b j
def inBoxM (z a b : Str) : Bool := inBoxL (codes z) (codes a) (codes b)
def standingM (x : Str) : List Nat := (List.range (placesM x).length).filter fun k => cd x ((placesM x).getD k 0) = 49
def fallenM (x : Str) : List Nat := (List.range (blocksOf x).length).filter fun b => 48 ∈ codes ((blocksOf x).getD b "")
def choicesM : List Nat → List (List Nat)
  | [] => []
  | b :: r => [b] :: ((choicesM r).map (b :: ·) ++ choicesM r)
inductive Wr where
  | fall (bits : List Nat)
  | erase (b : Nat)
  deriving DecidableEq
def allM (x : Str) : List Wr := (choicesM (standingM x)).map .fall ++ (fallenM x).map .erase
def singleM (x : Str) : List Wr := (standingM x).map (fun b => .fall [b]) ++ (fallenM x).map .erase
def endM (x : Str) : Wr → Str
  | .fall bs => withM x bs "0"
  | .erase b => withM x (blockBitsM x b) "1"
def asc : List Nat → Bool
  | a :: b :: r => decide (a < b) && asc (b :: r)
  | _ => true
def formM (x : Str) : Wr → Bool
  | .fall bs => !bs.isEmpty && bs.all (fun b => b < (sizesM x).sum) && asc bs
  | .erase b => b < (sizesM x).length
def writeM (x : Str) : Wr → Bool
  | .fall bs => formM x (.fall bs) && bs.all (fun b => (standingM x).contains b)
  | .erase b => formM x (.erase b) && (fallenM x).contains b
def blocksL (l : List Nat) : List (List Nat) := match l.dropWhile (· != 46) with
  | [] => [l.takeWhile (· != 46)]
  | _ :: b => [l.takeWhile (· != 46), b]
def othersL (x z : List Nat) (b : Nat) : List Nat := (List.range (blocksL x).length).filter fun k => k != b && (blocksL x).getD k [] != (blocksL z).getD k []
def okB (b : List Nat) : Bool := Nat.ble 1 b.length && Nat.ble b.length 3 && b.all fun c => c == 48 || c == 49
def isPatL (l : List Nat) : Bool := match blocksL l with
  | [a] => okB a
  | [a, b] => okB a && okB b
  | _ => false
def lawL (x z : List Nat) : Wr → Bool
  | .fall _ => liesL z x
  | .erase b => (othersL x z b).isEmpty && (decide (b < (blocksL z).length) && (decide (b < (blocksL x).length) && (liesL ((blocksL x).getD b []) ((blocksL z).getD b []))))
def shapeL (x z : List Nat) : Bool := (blocksL x).map (·.length) == (blocksL z).map (·.length)
def factZ (x y : List Nat) (w : Wr) (z : List Nat) : Bool := isPatL z && (shapeL x z && (inBoxL z x y && lawL x z w))
def factY (x : Str) (w : Wr) (y : Str) : Bool := decide (changedM x y ≤ 10) && ((boxL (codes x) (codes y)).contains (codes y) && (boxL (codes x) (codes y)).all (factZ (codes x) (codes y) w))
def factW (x : Str) (w : Wr) : Bool := writeM x w && factY x w (endM x w)
def factX (l : List Nat) : Bool := okM (mk l) && (decide (blocksOf (mk l) = (blocksL l).map mk) && (!(singleM (mk l)).isEmpty && ((singleM (mk l)).all (fun w => (allM (mk l)).contains w) && (allM (mk l)).all (factW (mk l)))))
def bitsL : Nat → List (List Nat)
  | 0 => [[]]
  | n + 1 => (bitsL n).flatMap fun l => [48 :: l, 49 :: l]
def blocksAll : List (List Nat) := bitsL 1 ++ bitsL 2 ++ bitsL 3
def patsL : List (List Nat) := blocksAll ++ (blocksAll.flatMap fun a => blocksAll.map fun b => a ++ 46 :: b)
end FB

/-! ## FBPats -/
set_option Elab.async false
set_option linter.all false
set_option maxRecDepth 100000
set_option maxHeartbeats 4000000
/-! The facts over all 210 patterns, by the kernel; a text of the right form is one of them. -/
namespace FB
open PySem
theorem fx0 : ((patsL.drop 0).take 35).all factX = true := by decide +kernel
theorem fx1 : ((patsL.drop 35).take 35).all factX = true := by decide +kernel
theorem fx2 : ((patsL.drop 70).take 35).all factX = true := by decide +kernel
theorem fx3 : ((patsL.drop 105).take 35).all factX = true := by decide +kernel
theorem fx4 : ((patsL.drop 140).take 35).all factX = true := by decide +kernel
theorem fx5 : ((patsL.drop 175).take 17).all factX = true := by decide +kernel
theorem fx6 : ((patsL.drop 192).take 18).all factX = true := by decide +kernel
theorem pats_len : patsL.length = 210 := by decide +kernel
theorem in_chunk {α : Type} {xs : List α} {x : α} {p : α → Bool} (k m : Nat) (h : ((xs.drop k).take m).all p = true) (i : Nat) (hi : xs[i]? = some x) (h1 : k ≤ i) (h2 : i < k + m) : p x = true := by
  refine List.all_eq_true.mp h x ?_
  refine List.mem_of_getElem? (i := i - k) ?_
  rw [List.getElem?_take_of_lt (by omega), List.getElem?_drop]
  rw [show k + (i - k) = i by omega]
  exact hi
theorem facts {l : List Nat} (h : l ∈ patsL) : factX l = true := by
  obtain ⟨i, hi, e⟩ := List.mem_iff_getElem.mp h
  have hg : patsL[i]? = some l := by rw [List.getElem?_eq_getElem hi, e]
  have hl : i < 210 := by rw [pats_len] at hi; exact hi
  by_cases h0 : i < 35
  · exact in_chunk 0 35 fx0 i hg (by omega) (by omega)
  by_cases h1 : i < 70
  · exact in_chunk 35 35 fx1 i hg (by omega) (by omega)
  by_cases h2 : i < 105
  · exact in_chunk 70 35 fx2 i hg (by omega) (by omega)
  by_cases h3 : i < 140
  · exact in_chunk 105 35 fx3 i hg (by omega) (by omega)
  by_cases h4 : i < 175
  · exact in_chunk 140 35 fx4 i hg (by omega) (by omega)
  by_cases h5 : i < 192
  · exact in_chunk 175 17 fx5 i hg (by omega) (by omega)
  · exact in_chunk 192 18 fx6 i hg (by omega) (by omega)
theorem okB_mem : ∀ {b : List Nat}, okB b = true → b ∈ blocksAll := by
  have two : ∀ c : Nat, (c == 48 || c == 49) = true → c = 48 ∨ c = 49 := fun c h => by simpa using h
  intro b h
  unfold okB at h
  match b, h with
  | [], h => exact absurd h (by decide)
  | [a], h =>
    have ha := two a (by simpa using h)
    rcases ha with rfl | rfl <;> decide +kernel
  | [a, b], h =>
    have hh : (a = 48 ∨ a = 49) ∧ (b = 48 ∨ b = 49) := by simpa using h
    rcases hh with ⟨rfl | rfl, rfl | rfl⟩ <;> decide +kernel
  | [a, b, c], h =>
    have hh : (a = 48 ∨ a = 49) ∧ (b = 48 ∨ b = 49) ∧ (c = 48 ∨ c = 49) := by simpa using h
    rcases hh with ⟨rfl | rfl, rfl | rfl, rfl | rfl⟩ <;> decide +kernel
  | a :: b :: c :: d :: r, h => exact absurd h (by simp [Nat.ble_eq])
theorem drop_cons : ∀ {l : List Nat} {c : Nat} {b : List Nat}, l.dropWhile (· != 46) = c :: b → c = 46
  | [], c, b, h => by cases h
  | a :: l, c, b, h => by
    rw [List.dropWhile_cons] at h
    split at h
    · exact drop_cons h
    · rename_i hn
      have e : a = c := by injection h
      subst e
      simpa using hn
theorem pat_mem {l : List Nat} (h : isPatL l = true) : l ∈ patsL := by
  have split : l = l.takeWhile (· != 46) ++ l.dropWhile (· != 46) := (List.takeWhile_append_dropWhile).symm
  unfold isPatL blocksL at h
  cases e : l.dropWhile (· != 46) with
  | nil =>
    rw [e] at h split
    have h1 : okB (l.takeWhile (· != 46)) = true := h
    rw [List.append_nil] at split
    refine List.mem_append_left _ ?_
    rw [split]
    exact okB_mem h1
  | cons c b =>
    rw [e] at h split
    have h1 : (okB (l.takeWhile (· != 46)) && okB b) = true := h
    obtain ⟨ha, hb⟩ := Bool.and_eq_true_iff.mp h1
    have hc := drop_cons e
    subst hc
    refine List.mem_append_right _ (List.mem_flatMap.mpr ⟨_, okB_mem ha, List.mem_map.mpr ⟨b, okB_mem hb, split.symm⟩⟩)
/-- a text that is a pattern of one or two blocks of one to three bits -/
def Pat (x : Str) : Prop := isPatL (codes x) = true
theorem mk_codes (x : Str) : mk (codes x) = x := by
  obtain ⟨l⟩ := x
  simp [mk, codes]
theorem codes_mk (l : List Nat) : codes (mk l) = l := by simp [mk, codes]
theorem Pat.fact {x : Str} (h : Pat x) : factX (codes x) = true := facts (pat_mem h)
end FB

/-! ## FBTxt -/
set_option Elab.async false
set_option linter.all false
set_option maxRecDepth 100000
set_option maxHeartbeats 4000000
/-! What the top has written, def by def (printed by gentxt.py). -/
namespace FB
open PySem PySem.Spec PyProof.Rows L2
def noFd : FuncData := PySem.W.fnOf "" "" (defArgs sLaw) [] (defScope sLaw) .none .none .none .none none .none .none
/-- the function object that stands at an address -/
def fdA (K : PySem.W.Frag) (a : Addr) : FuncData := match K.lookup a with
  | some ⟨_, _, .func fd, _⟩ => fd
  | _ => noFd
theorem fdA_of {K : PySem.W.Frag} {n q : Str} {st : Stmt} {dvs : List V} {f : Addr} {fd : FuncData} (F : FnF K n q st dvs f fd) : fdA K f = fd := by
  obtain ⟨oc, od, dV, kV, doc, pm, an, cdv, ct, osl, e, lk, _⟩ := F.ex
  unfold fdA
  rw [lk]
structure Txt (K : PySem.W.Frag) (mg : Str → Option Value) : Prop where
  says : SaysM K
  here : ∃ h : Heap, K.In h ∧ h.Ns mainGlobals mg
section
variable {K : PySem.W.Frag} {mg : Str → Option Value}
theorem Txt.g (T : Txt K mg) {x : Str} (hx : He.Fa.glo x ∈ fas) : mg x = some (.ref (He.ga K x)) := by
  obtain ⟨h, X, G⟩ := T.here
  exact He.glo_ok X G (T.says.fact hx)
theorem Txt.fr (T : Txt K mg) {x : Str} (hx : He.Fa.free x ∈ fas) : mg x = none := by
  obtain ⟨h, X, G⟩ := T.here
  exact He.free_ok X G (T.says.fact hx)
theorem glo_mem {x : Str} (h : x ∈ globals ++ globals2) : He.Fa.glo x ∈ fas := List.mem_append_left _ (List.mem_append_left _ (List.mem_map.mpr ⟨x, h, rfl⟩))
theorem free_mem {x : Str} (h : x ∈ builtins) : He.Fa.free x ∈ fas := List.mem_append_left _ (List.mem_append_right _ (List.mem_map.mpr ⟨x, h, rfl⟩))
theorem Txt.fnAt (T : Txt K mg) (i : Nat) {d : DM} (h : dms[i]? = some d) : FnF K d.name d.qual d.st (d.dvs K) (d.ad K) (fdA K (d.ad K)) := by
  obtain ⟨fd, F⟩ := T.says.def_ i h
  rw [fdA_of F]
  exact F
theorem Txt.g_is_number (T : Txt K mg) : mg "is_number" = some (.ref (He.ga K "is_number")) := T.g (glo_mem (List.mem_of_getElem? (i := 0) rfl))
theorem Txt.g_fault_in (T : Txt K mg) : mg "fault_in" = some (.ref (He.ga K "fault_in")) := T.g (glo_mem (List.mem_of_getElem? (i := 1) rfl))
theorem Txt.g_need_pattern (T : Txt K mg) : mg "need_pattern" = some (.ref (He.ga K "need_pattern")) := T.g (glo_mem (List.mem_of_getElem? (i := 2) rfl))
theorem Txt.g_sizes_of (T : Txt K mg) : mg "sizes_of" = some (.ref (He.ga K "sizes_of")) := T.g (glo_mem (List.mem_of_getElem? (i := 3) rfl))
theorem Txt.g_need_patterns (T : Txt K mg) : mg "need_patterns" = some (.ref (He.ga K "need_patterns")) := T.g (glo_mem (List.mem_of_getElem? (i := 4) rfl))
theorem Txt.g_places_of (T : Txt K mg) : mg "places_of" = some (.ref (He.ga K "places_of")) := T.g (glo_mem (List.mem_of_getElem? (i := 5) rfl))
theorem Txt.g_bits_of_block (T : Txt K mg) : mg "bits_of_block" = some (.ref (He.ga K "bits_of_block")) := T.g (glo_mem (List.mem_of_getElem? (i := 6) rfl))
theorem Txt.g_with_bits (T : Txt K mg) : mg "with_bits" = some (.ref (He.ga K "with_bits")) := T.g (glo_mem (List.mem_of_getElem? (i := 7) rfl))
theorem Txt.g_need_like (T : Txt K mg) : mg "need_like" = some (.ref (He.ga K "need_like")) := T.g (glo_mem (List.mem_of_getElem? (i := 8) rfl))
theorem Txt.g_lies_in (T : Txt K mg) : mg "lies_in" = some (.ref (He.ga K "lies_in")) := T.g (glo_mem (List.mem_of_getElem? (i := 9) rfl))
theorem Txt.g_Pattern (T : Txt K mg) : mg "Pattern" = some (.ref (He.ga K "Pattern")) := T.g (glo_mem (List.mem_of_getElem? (i := 10) rfl))
theorem Txt.g_changed (T : Txt K mg) : mg "changed" = some (.ref (He.ga K "changed")) := T.g (glo_mem (List.mem_of_getElem? (i := 11) rfl))
theorem Txt.g_box (T : Txt K mg) : mg "box" = some (.ref (He.ga K "box")) := T.g (glo_mem (List.mem_of_getElem? (i := 12) rfl))
theorem Txt.g_in_box (T : Txt K mg) : mg "in_box" = some (.ref (He.ga K "in_box")) := T.g (glo_mem (List.mem_of_getElem? (i := 13) rfl))
theorem Txt.g_standing_bits (T : Txt K mg) : mg "standing_bits" = some (.ref (He.ga K "standing_bits")) := T.g (glo_mem (List.mem_of_getElem? (i := 14) rfl))
theorem Txt.g_fallen_blocks (T : Txt K mg) : mg "fallen_blocks" = some (.ref (He.ga K "fallen_blocks")) := T.g (glo_mem (List.mem_of_getElem? (i := 15) rfl))
theorem Txt.g_are_bits (T : Txt K mg) : mg "are_bits" = some (.ref (He.ga K "are_bits")) := T.g (glo_mem (List.mem_of_getElem? (i := 16) rfl))
theorem Txt.g_is_write_form (T : Txt K mg) : mg "is_write_form" = some (.ref (He.ga K "is_write_form")) := T.g (glo_mem (List.mem_of_getElem? (i := 17) rfl))
theorem Txt.g_is_write (T : Txt K mg) : mg "is_write" = some (.ref (He.ga K "is_write")) := T.g (glo_mem (List.mem_of_getElem? (i := 18) rfl))
theorem Txt.g_end (T : Txt K mg) : mg "end" = some (.ref (He.ga K "end")) := T.g (glo_mem (List.mem_of_getElem? (i := 19) rfl))
theorem Txt.g_write_box (T : Txt K mg) : mg "write_box" = some (.ref (He.ga K "write_box")) := T.g (glo_mem (List.mem_of_getElem? (i := 20) rfl))
theorem Txt.g_single_writes (T : Txt K mg) : mg "single_writes" = some (.ref (He.ga K "single_writes")) := T.g (glo_mem (List.mem_of_getElem? (i := 21) rfl))
theorem Txt.g_choices (T : Txt K mg) : mg "choices" = some (.ref (He.ga K "choices")) := T.g (glo_mem (List.mem_of_getElem? (i := 22) rfl))
theorem Txt.g_all_writes (T : Txt K mg) : mg "all_writes" = some (.ref (He.ga K "all_writes")) := T.g (glo_mem (List.mem_of_getElem? (i := 23) rfl))
theorem Txt.g_Device (T : Txt K mg) : mg "Device" = some (.ref (He.ga K "Device")) := T.g (glo_mem (List.mem_of_getElem? (i := 24) rfl))
theorem Txt.g_Cut (T : Txt K mg) : mg "Cut" = some (.ref (He.ga K "Cut")) := T.g (glo_mem (List.mem_of_getElem? (i := 25) rfl))
theorem Txt.g_l_pen (T : Txt K mg) : mg "_law_pen" = some (.ref (He.ga K "_law_pen")) := T.g (glo_mem (List.mem_of_getElem? (i := 26) rfl))
theorem Txt.g_l_take (T : Txt K mg) : mg "_law_take" = some (.ref (He.ga K "_law_take")) := T.g (glo_mem (List.mem_of_getElem? (i := 27) rfl))
theorem Txt.g_l_sizes (T : Txt K mg) : mg "_law_sizes" = some (.ref (He.ga K "_law_sizes")) := T.g (glo_mem (List.mem_of_getElem? (i := 28) rfl))
theorem Txt.g_l_drawn (T : Txt K mg) : mg "_law_drawn" = some (.ref (He.ga K "_law_drawn")) := T.g (glo_mem (List.mem_of_getElem? (i := 29) rfl))
theorem Txt.g_l_chosen (T : Txt K mg) : mg "_law_chosen" = some (.ref (He.ga K "_law_chosen")) := T.g (glo_mem (List.mem_of_getElem? (i := 30) rfl))
theorem Txt.g_l_cut (T : Txt K mg) : mg "_law_cut" = some (.ref (He.ga K "_law_cut")) := T.g (glo_mem (List.mem_of_getElem? (i := 31) rfl))
theorem Txt.g_l_step (T : Txt K mg) : mg "_law_step" = some (.ref (He.ga K "_law_step")) := T.g (glo_mem (List.mem_of_getElem? (i := 32) rfl))
theorem Txt.g_l_again (T : Txt K mg) : mg "_law_again" = some (.ref (He.ga K "_law_again")) := T.g (glo_mem (List.mem_of_getElem? (i := 33) rfl))
theorem Txt.g_l_law (T : Txt K mg) : mg "law" = some (.ref (He.ga K "law")) := T.g (glo_mem (List.mem_of_getElem? (i := 34) rfl))
theorem Txt.b_isinstance (T : Txt K mg) : mg "isinstance" = none := T.fr (free_mem (List.mem_of_getElem? (i := 0) rfl))
theorem Txt.b_int (T : Txt K mg) : mg "int" = none := T.fr (free_mem (List.mem_of_getElem? (i := 1) rfl))
theorem Txt.b_bool (T : Txt K mg) : mg "bool" = none := T.fr (free_mem (List.mem_of_getElem? (i := 2) rfl))
theorem Txt.b_str (T : Txt K mg) : mg "str" = none := T.fr (free_mem (List.mem_of_getElem? (i := 3) rfl))
theorem Txt.b_tuple (T : Txt K mg) : mg "tuple" = none := T.fr (free_mem (List.mem_of_getElem? (i := 4) rfl))
theorem Txt.b_len (T : Txt K mg) : mg "len" = none := T.fr (free_mem (List.mem_of_getElem? (i := 5) rfl))
theorem Txt.b_enumerate (T : Txt K mg) : mg "enumerate" = none := T.fr (free_mem (List.mem_of_getElem? (i := 6) rfl))
theorem Txt.b_zip (T : Txt K mg) : mg "zip" = none := T.fr (free_mem (List.mem_of_getElem? (i := 7) rfl))
theorem Txt.b_sum (T : Txt K mg) : mg "sum" = none := T.fr (free_mem (List.mem_of_getElem? (i := 8) rfl))
theorem Txt.b_list (T : Txt K mg) : mg "list" = none := T.fr (free_mem (List.mem_of_getElem? (i := 9) rfl))
theorem Txt.b_range (T : Txt K mg) : mg "range" = none := T.fr (free_mem (List.mem_of_getElem? (i := 10) rfl))
theorem Txt.b_all (T : Txt K mg) : mg "all" = none := T.fr (free_mem (List.mem_of_getElem? (i := 11) rfl))
theorem Txt.b_abs (T : Txt K mg) : mg "abs" = none := T.fr (free_mem (List.mem_of_getElem? (i := 12) rfl))
theorem Txt.f_mc (T : Txt K mg) : (He.Fa.int "MOST_CHANGED" 10).ok K = true := T.says.fact (List.mem_append_right _ (List.mem_of_getElem? (i := 0) rfl))
theorem Txt.f_ms (T : Txt K mg) : (He.Fa.int "MOST_STANDING" 10).ok K = true := T.says.fact (List.mem_append_right _ (List.mem_of_getElem? (i := 1) rfl))
theorem Txt.f_clsP (T : Txt K mg) : (He.Fa.cls "Pattern").ok K = true := T.says.fact (List.mem_append_right _ (List.mem_of_getElem? (i := 2) rfl))
theorem Txt.f_clsD (T : Txt K mg) : (He.Fa.cls "Device").ok K = true := T.says.fact (List.mem_append_right _ (List.mem_of_getElem? (i := 3) rfl))
theorem Txt.f_nPw (T : Txt K mg) : (He.Fa.noat "Pattern" "written").ok K = true := T.says.fact (List.mem_append_right _ (List.mem_of_getElem? (i := 4) rfl))
theorem Txt.f_nPs (T : Txt K mg) : (He.Fa.noat "Pattern" "signs").ok K = true := T.says.fact (List.mem_append_right _ (List.mem_of_getElem? (i := 5) rfl))
theorem Txt.f_nDp (T : Txt K mg) : (He.Fa.noat "Device" "past").ok K = true := T.says.fact (List.mem_append_right _ (List.mem_of_getElem? (i := 6) rfl))
theorem Txt.f_nDe (T : Txt K mg) : (He.Fa.noat "Device" "ended_so_far").ok K = true := T.says.fact (List.mem_append_right _ (List.mem_of_getElem? (i := 7) rfl))
theorem Txt.f_nDc (T : Txt K mg) : (He.Fa.noat "Device" "cuts_so_far").ok K = true := T.says.fact (List.mem_append_right _ (List.mem_of_getElem? (i := 8) rfl))
theorem Txt.f_nDr (T : Txt K mg) : (He.Fa.noat "Device" "erases_so_far").ok K = true := T.says.fact (List.mem_append_right _ (List.mem_of_getElem? (i := 9) rfl))
theorem Txt.f_nDf (T : Txt K mg) : (He.Fa.noat "Device" "failure_at").ok K = true := T.says.fact (List.mem_append_right _ (List.mem_of_getElem? (i := 10) rfl))
theorem Txt.f_nCf (T : Txt K mg) : (He.Fa.noat "Cut" "found").ok K = true := T.says.fact (List.mem_append_right _ (List.mem_of_getElem? (i := 11) rfl))
theorem Txt.f_mPle (T : Txt K mg) : (He.Fa.meth "Pattern" "__le__").ok K = true := T.says.fact (List.mem_append_right _ (List.mem_of_getElem? (i := 12) rfl))
theorem Txt.f_mPge (T : Txt K mg) : (He.Fa.meth "Pattern" "__ge__").ok K = true := T.says.fact (List.mem_append_right _ (List.mem_of_getElem? (i := 13) rfl))
theorem Txt.f_mDarm (T : Txt K mg) : (He.Fa.meth "Device" "arm").ok K = true := T.says.fact (List.mem_append_right _ (List.mem_of_getElem? (i := 14) rfl))
theorem Txt.f_mDdo (T : Txt K mg) : (He.Fa.meth "Device" "do").ok K = true := T.says.fact (List.mem_append_right _ (List.mem_of_getElem? (i := 15) rfl))
theorem Txt.f_mDstood (T : Txt K mg) : (He.Fa.meth "Device" "stood").ok K = true := T.says.fact (List.mem_append_right _ (List.mem_of_getElem? (i := 16) rfl))
theorem Txt.f_kP (T : Txt K mg) : (He.Fa.mkr "Pattern").ok K = true := T.says.fact (List.mem_append_right _ (List.mem_of_getElem? (i := 17) rfl))
theorem Txt.f_kD (T : Txt K mg) : (He.Fa.mkr "Device").ok K = true := T.says.fact (List.mem_append_right _ (List.mem_of_getElem? (i := 18) rfl))
theorem Txt.f_xCut (T : Txt K mg) : (He.Fa.exm "Cut" "Cut" true).ok K = true := T.says.fact (List.mem_append_right _ (List.mem_of_getElem? (i := 19) rfl))
abbrev a_is_number (K : PySem.W.Frag) : Addr := (He.ga K "is_number")
theorem Txt.is_number (T : Txt K mg) : FnF K "is_number" "is_number" sIsNumber [] (a_is_number K) (fdA K (a_is_number K)) := T.fnAt 0 rfl
theorem Txt.n_is_number (T : Txt K mg) : Binds K (fdA K (a_is_number K)) ["thing"] [] := FunD.bindsN T.is_number fun _ _ _ _ _ _ us hl => match us, hl with | [_], _ => rfl
abbrev a_fault_in (K : PySem.W.Frag) : Addr := (He.ga K "fault_in")
theorem Txt.fault_in (T : Txt K mg) : FnF K "fault_in" "fault_in" sFaultIn [] (a_fault_in K) (fdA K (a_fault_in K)) := T.fnAt 1 rfl
theorem Txt.n_fault_in (T : Txt K mg) : Binds K (fdA K (a_fault_in K)) ["text"] [] := FunD.bindsN T.fault_in fun _ _ _ _ _ _ us hl => match us, hl with | [_], _ => rfl
abbrev a_need_pattern (K : PySem.W.Frag) : Addr := (He.ga K "need_pattern")
theorem Txt.need_pattern (T : Txt K mg) : FnF K "need_pattern" "need_pattern" sNeedPattern [] (a_need_pattern K) (fdA K (a_need_pattern K)) := T.fnAt 2 rfl
theorem Txt.n_need_pattern (T : Txt K mg) : Binds K (fdA K (a_need_pattern K)) ["text"] [] := FunD.bindsN T.need_pattern fun _ _ _ _ _ _ us hl => match us, hl with | [_], _ => rfl
abbrev a_sizes_of (K : PySem.W.Frag) : Addr := (He.ga K "sizes_of")
theorem Txt.sizes_of (T : Txt K mg) : FnF K "sizes_of" "sizes_of" sSizesOf [] (a_sizes_of K) (fdA K (a_sizes_of K)) := T.fnAt 3 rfl
theorem Txt.n_sizes_of (T : Txt K mg) : Binds K (fdA K (a_sizes_of K)) ["text"] [] := FunD.bindsN T.sizes_of fun _ _ _ _ _ _ us hl => match us, hl with | [_], _ => rfl
abbrev a_need_patterns (K : PySem.W.Frag) : Addr := (He.ga K "need_patterns")
theorem Txt.need_patterns (T : Txt K mg) : FnF K "need_patterns" "need_patterns" sNeedPatterns [] (a_need_patterns K) (fdA K (a_need_patterns K)) := T.fnAt 4 rfl
abbrev a_places_of (K : PySem.W.Frag) : Addr := (He.ga K "places_of")
theorem Txt.places_of (T : Txt K mg) : FnF K "places_of" "places_of" sPlacesOf [] (a_places_of K) (fdA K (a_places_of K)) := T.fnAt 5 rfl
theorem Txt.n_places_of (T : Txt K mg) : Binds K (fdA K (a_places_of K)) ["text"] [] := FunD.bindsN T.places_of fun _ _ _ _ _ _ us hl => match us, hl with | [_], _ => rfl
abbrev a_bits_of_block (K : PySem.W.Frag) : Addr := (He.ga K "bits_of_block")
theorem Txt.bits_of_block (T : Txt K mg) : FnF K "bits_of_block" "bits_of_block" sBitsOfBlock [] (a_bits_of_block K) (fdA K (a_bits_of_block K)) := T.fnAt 6 rfl
theorem Txt.n_bits_of_block (T : Txt K mg) : Binds K (fdA K (a_bits_of_block K)) ["text", "block"] [] := FunD.bindsN T.bits_of_block fun _ _ _ _ _ _ us hl => match us, hl with | [_, _], _ => rfl
abbrev a_with_bits (K : PySem.W.Frag) : Addr := (He.ga K "with_bits")
theorem Txt.with_bits (T : Txt K mg) : FnF K "with_bits" "with_bits" sWithBits [] (a_with_bits K) (fdA K (a_with_bits K)) := T.fnAt 7 rfl
theorem Txt.n_with_bits (T : Txt K mg) : Binds K (fdA K (a_with_bits K)) ["text", "bits", "sign"] [] := FunD.bindsN T.with_bits fun _ _ _ _ _ _ us hl => match us, hl with | [_, _, _], _ => rfl
abbrev a_need_like (K : PySem.W.Frag) : Addr := (He.ga K "need_like")
theorem Txt.need_like (T : Txt K mg) : FnF K "need_like" "need_like" sNeedLike [] (a_need_like K) (fdA K (a_need_like K)) := T.fnAt 8 rfl
theorem Txt.n_need_like (T : Txt K mg) : Binds K (fdA K (a_need_like K)) ["one", "other"] [] := FunD.bindsN T.need_like fun _ _ _ _ _ _ us hl => match us, hl with | [_, _], _ => rfl
abbrev a_lies_in (K : PySem.W.Frag) : Addr := (He.ga K "lies_in")
theorem Txt.lies_in (T : Txt K mg) : FnF K "lies_in" "lies_in" sLiesIn [] (a_lies_in K) (fdA K (a_lies_in K)) := T.fnAt 9 rfl
theorem Txt.n_lies_in (T : Txt K mg) : Binds K (fdA K (a_lies_in K)) ["one", "other"] [] := FunD.bindsN T.lies_in fun _ _ _ _ _ _ us hl => match us, hl with | [_, _], _ => rfl
abbrev a_p_init (K : PySem.W.Frag) : Addr := (He.ma K (He.ga K "Pattern") "__init__")
theorem Txt.p_init (T : Txt K mg) : FnF K "__init__" "Pattern.__init__" sPInit [] (a_p_init K) (fdA K (a_p_init K)) := T.fnAt 10 rfl
theorem Txt.n_p_init (T : Txt K mg) : Binds K (fdA K (a_p_init K)) ["self", "text"] [] := FunD.bindsN T.p_init fun _ _ _ _ _ _ us hl => match us, hl with | [_, _], _ => rfl
abbrev a_p_sizes (K : PySem.W.Frag) : Addr := (gAd "Pattern" "sizes" K)
theorem Txt.p_sizes (T : Txt K mg) : FnF K "sizes" "Pattern.sizes" sPSizes [] (a_p_sizes K) (fdA K (a_p_sizes K)) := T.fnAt 11 rfl
theorem Txt.n_p_sizes (T : Txt K mg) : Binds K (fdA K (a_p_sizes K)) ["self"] [] := FunD.bindsN T.p_sizes fun _ _ _ _ _ _ us hl => match us, hl with | [_], _ => rfl
abbrev a_p_le (K : PySem.W.Frag) : Addr := (He.ma K (He.ga K "Pattern") "__le__")
theorem Txt.p_le (T : Txt K mg) : FnF K "__le__" "Pattern.__le__" sPLe [] (a_p_le K) (fdA K (a_p_le K)) := T.fnAt 12 rfl
theorem Txt.n_p_le (T : Txt K mg) : Binds K (fdA K (a_p_le K)) ["self", "other"] [] := FunD.bindsN T.p_le fun _ _ _ _ _ _ us hl => match us, hl with | [_, _], _ => rfl
abbrev a_changed (K : PySem.W.Frag) : Addr := (He.ga K "changed")
theorem Txt.changed (T : Txt K mg) : FnF K "changed" "changed" sChanged [] (a_changed K) (fdA K (a_changed K)) := T.fnAt 13 rfl
theorem Txt.n_changed (T : Txt K mg) : Binds K (fdA K (a_changed K)) ["one", "other"] [] := FunD.bindsN T.changed fun _ _ _ _ _ _ us hl => match us, hl with | [_, _], _ => rfl
abbrev a_box (K : PySem.W.Frag) : Addr := (He.ga K "box")
theorem Txt.box (T : Txt K mg) : FnF K "box" "box" sBox [] (a_box K) (fdA K (a_box K)) := T.fnAt 14 rfl
theorem Txt.n_box (T : Txt K mg) : Binds K (fdA K (a_box K)) ["one", "other"] [] := FunD.bindsN T.box fun _ _ _ _ _ _ us hl => match us, hl with | [_, _], _ => rfl
abbrev a_in_box (K : PySem.W.Frag) : Addr := (He.ga K "in_box")
theorem Txt.in_box (T : Txt K mg) : FnF K "in_box" "in_box" sInBox [] (a_in_box K) (fdA K (a_in_box K)) := T.fnAt 15 rfl
theorem Txt.n_in_box (T : Txt K mg) : Binds K (fdA K (a_in_box K)) ["z", "one", "other"] [] := FunD.bindsN T.in_box fun _ _ _ _ _ _ us hl => match us, hl with | [_, _, _], _ => rfl
abbrev a_standing_bits (K : PySem.W.Frag) : Addr := (He.ga K "standing_bits")
theorem Txt.standing_bits (T : Txt K mg) : FnF K "standing_bits" "standing_bits" sStanding [] (a_standing_bits K) (fdA K (a_standing_bits K)) := T.fnAt 16 rfl
theorem Txt.n_standing_bits (T : Txt K mg) : Binds K (fdA K (a_standing_bits K)) ["x"] [] := FunD.bindsN T.standing_bits fun _ _ _ _ _ _ us hl => match us, hl with | [_], _ => rfl
abbrev a_fallen_blocks (K : PySem.W.Frag) : Addr := (He.ga K "fallen_blocks")
theorem Txt.fallen_blocks (T : Txt K mg) : FnF K "fallen_blocks" "fallen_blocks" sFallen [] (a_fallen_blocks K) (fdA K (a_fallen_blocks K)) := T.fnAt 17 rfl
theorem Txt.n_fallen_blocks (T : Txt K mg) : Binds K (fdA K (a_fallen_blocks K)) ["x"] [] := FunD.bindsN T.fallen_blocks fun _ _ _ _ _ _ us hl => match us, hl with | [_], _ => rfl
abbrev a_are_bits (K : PySem.W.Frag) : Addr := (He.ga K "are_bits")
theorem Txt.are_bits (T : Txt K mg) : FnF K "are_bits" "are_bits" sAreBits [] (a_are_bits K) (fdA K (a_are_bits K)) := T.fnAt 18 rfl
theorem Txt.n_are_bits (T : Txt K mg) : Binds K (fdA K (a_are_bits K)) ["thing", "many"] [] := FunD.bindsN T.are_bits fun _ _ _ _ _ _ us hl => match us, hl with | [_, _], _ => rfl
abbrev a_is_write_form (K : PySem.W.Frag) : Addr := (He.ga K "is_write_form")
theorem Txt.is_write_form (T : Txt K mg) : FnF K "is_write_form" "is_write_form" sIsWriteForm [] (a_is_write_form K) (fdA K (a_is_write_form K)) := T.fnAt 19 rfl
theorem Txt.n_is_write_form (T : Txt K mg) : Binds K (fdA K (a_is_write_form K)) ["thing", "sizes"] [] := FunD.bindsN T.is_write_form fun _ _ _ _ _ _ us hl => match us, hl with | [_, _], _ => rfl
abbrev a_is_write (K : PySem.W.Frag) : Addr := (He.ga K "is_write")
theorem Txt.is_write (T : Txt K mg) : FnF K "is_write" "is_write" sIsWrite [] (a_is_write K) (fdA K (a_is_write K)) := T.fnAt 20 rfl
theorem Txt.n_is_write (T : Txt K mg) : Binds K (fdA K (a_is_write K)) ["x", "thing"] [] := FunD.bindsN T.is_write fun _ _ _ _ _ _ us hl => match us, hl with | [_, _], _ => rfl
abbrev a_end (K : PySem.W.Frag) : Addr := (He.ga K "end")
theorem Txt.end (T : Txt K mg) : FnF K "end" "end" sEnd [] (a_end K) (fdA K (a_end K)) := T.fnAt 21 rfl
theorem Txt.n_end (T : Txt K mg) : Binds K (fdA K (a_end K)) ["x", "write"] [] := FunD.bindsN T.end fun _ _ _ _ _ _ us hl => match us, hl with | [_, _], _ => rfl
abbrev a_write_box (K : PySem.W.Frag) : Addr := (He.ga K "write_box")
theorem Txt.write_box (T : Txt K mg) : FnF K "write_box" "write_box" sWriteBox [] (a_write_box K) (fdA K (a_write_box K)) := T.fnAt 22 rfl
theorem Txt.n_write_box (T : Txt K mg) : Binds K (fdA K (a_write_box K)) ["x", "write"] [] := FunD.bindsN T.write_box fun _ _ _ _ _ _ us hl => match us, hl with | [_, _], _ => rfl
abbrev a_single_writes (K : PySem.W.Frag) : Addr := (He.ga K "single_writes")
theorem Txt.single_writes (T : Txt K mg) : FnF K "single_writes" "single_writes" sSingle [.bl true] (a_single_writes K) (fdA K (a_single_writes K)) := T.fnAt 23 rfl
theorem Txt.n_single_writes (T : Txt K mg) : ∃ ds, Vals [V.bl true] ds ∧ Binds K (fdA K (a_single_writes K)) ["x", "erases"] ds := FunD.binds1 (ps := ["x", "erases"]) T.single_writes 1 0 (by simp) rfl fun _ _ _ _ _ _ _ us its h1 h2 => match us, its, h1, h2 with | [_], [_], _, _ => ⟨_, rfl, rfl⟩
abbrev a_choices (K : PySem.W.Frag) : Addr := (He.ga K "choices")
theorem Txt.choices (T : Txt K mg) : FnF K "choices" "choices" sChoices [] (a_choices K) (fdA K (a_choices K)) := T.fnAt 24 rfl
theorem Txt.n_choices (T : Txt K mg) : Binds K (fdA K (a_choices K)) ["bits"] [] := FunD.bindsN T.choices fun _ _ _ _ _ _ us hl => match us, hl with | [_], _ => rfl
abbrev a_all_writes (K : PySem.W.Frag) : Addr := (He.ga K "all_writes")
theorem Txt.all_writes (T : Txt K mg) : FnF K "all_writes" "all_writes" sAllWrites [.bl true] (a_all_writes K) (fdA K (a_all_writes K)) := T.fnAt 25 rfl
theorem Txt.n_all_writes (T : Txt K mg) : ∃ ds, Vals [V.bl true] ds ∧ Binds K (fdA K (a_all_writes K)) ["x", "erases"] ds := FunD.binds1 (ps := ["x", "erases"]) T.all_writes 1 0 (by simp) rfl fun _ _ _ _ _ _ _ us its h1 h2 => match us, its, h1, h2 with | [_], [_], _, _ => ⟨_, rfl, rfl⟩
abbrev a_d_init (K : PySem.W.Frag) : Addr := (He.ma K (He.ga K "Device") "__init__")
theorem Txt.d_init (T : Txt K mg) : FnF K "__init__" "Device.__init__" sDInit [] (a_d_init K) (fdA K (a_d_init K)) := T.fnAt 26 rfl
theorem Txt.n_d_init (T : Txt K mg) : Binds K (fdA K (a_d_init K)) ["self", "text"] [] := FunD.bindsN T.d_init fun _ _ _ _ _ _ us hl => match us, hl with | [_, _], _ => rfl
abbrev a_d_pattern (K : PySem.W.Frag) : Addr := (gAd "Device" "pattern" K)
theorem Txt.d_pattern (T : Txt K mg) : FnF K "pattern" "Device.pattern" sDPattern [] (a_d_pattern K) (fdA K (a_d_pattern K)) := T.fnAt 27 rfl
theorem Txt.n_d_pattern (T : Txt K mg) : Binds K (fdA K (a_d_pattern K)) ["self"] [] := FunD.bindsN T.d_pattern fun _ _ _ _ _ _ us hl => match us, hl with | [_], _ => rfl
abbrev a_d_ended (K : PySem.W.Frag) : Addr := (gAd "Device" "ended" K)
theorem Txt.d_ended (T : Txt K mg) : FnF K "ended" "Device.ended" sDEnded [] (a_d_ended K) (fdA K (a_d_ended K)) := T.fnAt 28 rfl
theorem Txt.n_d_ended (T : Txt K mg) : Binds K (fdA K (a_d_ended K)) ["self"] [] := FunD.bindsN T.d_ended fun _ _ _ _ _ _ us hl => match us, hl with | [_], _ => rfl
abbrev a_d_cuts (K : PySem.W.Frag) : Addr := (gAd "Device" "cuts" K)
theorem Txt.d_cuts (T : Txt K mg) : FnF K "cuts" "Device.cuts" sDCuts [] (a_d_cuts K) (fdA K (a_d_cuts K)) := T.fnAt 29 rfl
theorem Txt.n_d_cuts (T : Txt K mg) : Binds K (fdA K (a_d_cuts K)) ["self"] [] := FunD.bindsN T.d_cuts fun _ _ _ _ _ _ us hl => match us, hl with | [_], _ => rfl
abbrev a_d_erases (K : PySem.W.Frag) : Addr := (gAd "Device" "erases" K)
theorem Txt.d_erases (T : Txt K mg) : FnF K "erases" "Device.erases" sDErases [] (a_d_erases K) (fdA K (a_d_erases K)) := T.fnAt 30 rfl
theorem Txt.n_d_erases (T : Txt K mg) : Binds K (fdA K (a_d_erases K)) ["self"] [] := FunD.bindsN T.d_erases fun _ _ _ _ _ _ us hl => match us, hl with | [_], _ => rfl
abbrev a_d_armed (K : PySem.W.Frag) : Addr := (gAd "Device" "armed" K)
theorem Txt.d_armed (T : Txt K mg) : FnF K "armed" "Device.armed" sDArmed [] (a_d_armed K) (fdA K (a_d_armed K)) := T.fnAt 31 rfl
theorem Txt.n_d_armed (T : Txt K mg) : Binds K (fdA K (a_d_armed K)) ["self"] [] := FunD.bindsN T.d_armed fun _ _ _ _ _ _ us hl => match us, hl with | [_], _ => rfl
abbrev a_d_arm (K : PySem.W.Frag) : Addr := (He.ma K (He.ga K "Device") "arm")
theorem Txt.d_arm (T : Txt K mg) : FnF K "arm" "Device.arm" sDArm [] (a_d_arm K) (fdA K (a_d_arm K)) := T.fnAt 32 rfl
theorem Txt.n_d_arm (T : Txt K mg) : Binds K (fdA K (a_d_arm K)) ["self", "z"] [] := FunD.bindsN T.d_arm fun _ _ _ _ _ _ us hl => match us, hl with | [_, _], _ => rfl
abbrev a_d_do (K : PySem.W.Frag) : Addr := (He.ma K (He.ga K "Device") "do")
theorem Txt.d_do (T : Txt K mg) : FnF K "do" "Device.do" sDDo [] (a_d_do K) (fdA K (a_d_do K)) := T.fnAt 33 rfl
theorem Txt.n_d_do (T : Txt K mg) : Binds K (fdA K (a_d_do K)) ["self", "write"] [] := FunD.bindsN T.d_do fun _ _ _ _ _ _ us hl => match us, hl with | [_, _], _ => rfl
abbrev a_d_stood (K : PySem.W.Frag) : Addr := (He.ma K (He.ga K "Device") "stood")
theorem Txt.d_stood (T : Txt K mg) : FnF K "stood" "Device.stood" sDStood [] (a_d_stood K) (fdA K (a_d_stood K)) := T.fnAt 34 rfl
theorem Txt.n_d_stood (T : Txt K mg) : Binds K (fdA K (a_d_stood K)) ["self"] [] := FunD.bindsN T.d_stood fun _ _ _ _ _ _ us hl => match us, hl with | [_], _ => rfl
abbrev a_cut_init (K : PySem.W.Frag) : Addr := (He.ma K (He.ga K "Cut") "__init__")
theorem Txt.cut_init (T : Txt K mg) : FnF K "__init__" "Cut.__init__" sCutInit [] (a_cut_init K) (fdA K (a_cut_init K)) := T.fnAt 35 rfl
theorem Txt.n_cut_init (T : Txt K mg) : Binds K (fdA K (a_cut_init K)) ["self", "found"] [] := FunD.bindsN T.cut_init fun _ _ _ _ _ _ us hl => match us, hl with | [_, _], _ => rfl
abbrev a_l_pen (K : PySem.W.Frag) : Addr := (He.ga K "_law_pen")
theorem Txt.l_pen (T : Txt K mg) : FnF K "_law_pen" "_law_pen" sPen [] (a_l_pen K) (fdA K (a_l_pen K)) := T.fnAt 36 rfl
theorem Txt.n_l_pen (T : Txt K mg) : Binds K (fdA K (a_l_pen K)) ["_law_script"] [] := FunD.bindsN T.l_pen fun _ _ _ _ _ _ us hl => match us, hl with | [_], _ => rfl
abbrev a_l_take (K : PySem.W.Frag) : Addr := (He.ga K "_law_take")
theorem Txt.l_take (T : Txt K mg) : FnF K "_law_take" "_law_take" sTake [] (a_l_take K) (fdA K (a_l_take K)) := T.fnAt 37 rfl
theorem Txt.n_l_take (T : Txt K mg) : Binds K (fdA K (a_l_take K)) ["_law_pen_here", "_law_many"] [] := FunD.bindsN T.l_take fun _ _ _ _ _ _ us hl => match us, hl with | [_, _], _ => rfl
abbrev a_l_sizes (K : PySem.W.Frag) : Addr := (He.ga K "_law_sizes")
theorem Txt.l_sizes (T : Txt K mg) : FnF K "_law_sizes" "_law_sizes" sSizes [] (a_l_sizes K) (fdA K (a_l_sizes K)) := T.fnAt 38 rfl
theorem Txt.n_l_sizes (T : Txt K mg) : Binds K (fdA K (a_l_sizes K)) ["_law_pen_here", "_law_most"] [] := FunD.bindsN T.l_sizes fun _ _ _ _ _ _ us hl => match us, hl with | [_, _], _ => rfl
abbrev a_l_drawn (K : PySem.W.Frag) : Addr := (He.ga K "_law_drawn")
theorem Txt.l_drawn (T : Txt K mg) : FnF K "_law_drawn" "_law_drawn" sDrawn [] (a_l_drawn K) (fdA K (a_l_drawn K)) := T.fnAt 39 rfl
theorem Txt.n_l_drawn (T : Txt K mg) : Binds K (fdA K (a_l_drawn K)) ["_law_pen_here", "_law_sizes_here"] [] := FunD.bindsN T.l_drawn fun _ _ _ _ _ _ us hl => match us, hl with | [_, _], _ => rfl
abbrev a_l_chosen (K : PySem.W.Frag) : Addr := (He.ga K "_law_chosen")
theorem Txt.l_chosen (T : Txt K mg) : FnF K "_law_chosen" "_law_chosen" sChosen [] (a_l_chosen K) (fdA K (a_l_chosen K)) := T.fnAt 40 rfl
theorem Txt.n_l_chosen (T : Txt K mg) : Binds K (fdA K (a_l_chosen K)) ["_law_pen_here", "_law_x"] [] := FunD.bindsN T.l_chosen fun _ _ _ _ _ _ us hl => match us, hl with | [_, _], _ => rfl
abbrev a_l_cut (K : PySem.W.Frag) : Addr := (He.ga K "_law_cut")
theorem Txt.l_cut (T : Txt K mg) : FnF K "_law_cut" "_law_cut" sCut [] (a_l_cut K) (fdA K (a_l_cut K)) := T.fnAt 41 rfl
theorem Txt.n_l_cut (T : Txt K mg) : Binds K (fdA K (a_l_cut K)) ["_law_device", "_law_write"] [] := FunD.bindsN T.l_cut fun _ _ _ _ _ _ us hl => match us, hl with | [_, _], _ => rfl
abbrev a_l_step (K : PySem.W.Frag) : Addr := (He.ga K "_law_step")
theorem Txt.l_step (T : Txt K mg) : FnF K "_law_step" "_law_step" sStep [] (a_l_step K) (fdA K (a_l_step K)) := T.fnAt 42 rfl
theorem Txt.n_l_step (T : Txt K mg) : Binds K (fdA K (a_l_step K)) ["_law_pen_here", "_law_device", "_law_deeds"] [] := FunD.bindsN T.l_step fun _ _ _ _ _ _ us hl => match us, hl with | [_, _, _], _ => rfl
abbrev a_l_again (K : PySem.W.Frag) : Addr := (He.ga K "_law_again")
theorem Txt.l_again (T : Txt K mg) : FnF K "_law_again" "_law_again" sAgain [] (a_l_again K) (fdA K (a_l_again K)) := T.fnAt 43 rfl
theorem Txt.n_l_again (T : Txt K mg) : Binds K (fdA K (a_l_again K)) ["_law_x", "_law_deeds"] [] := FunD.bindsN T.l_again fun _ _ _ _ _ _ us hl => match us, hl with | [_, _], _ => rfl
abbrev a_l_law (K : PySem.W.Frag) : Addr := (He.ga K "law")
theorem Txt.l_law (T : Txt K mg) : FnF K "law" "law" sLaw [] (a_l_law K) (fdA K (a_l_law K)) := T.fnAt 44 rfl
theorem Txt.n_l_law (T : Txt K mg) : Binds K (fdA K (a_l_law K)) ["_law_script"] [] := FunD.bindsN T.l_law fun _ _ _ _ _ _ us hl => match us, hl with | [_], _ => rfl
theorem Txt.cP (T : Txt K mg) : Cls K (He.ga K "Pattern") := He.cls_ok T.f_clsP
theorem Txt.cD (T : Txt K mg) : Cls K (He.ga K "Device") := He.cls_ok T.f_clsD
theorem Txt.kP (T : Txt K mg) : Mk K (He.ga K "Pattern") (a_p_init K) := He.mkr_ok T.f_kP
theorem Txt.kD (T : Txt K mg) : Mk K (He.ga K "Device") (a_d_init K) := He.mkr_ok T.f_kD
theorem Txt.mLe (T : Txt K mg) : Meth K (He.ga K "Pattern") "__le__" (a_p_le K) := He.meth_ok T.f_mPle
theorem Txt.mArm (T : Txt K mg) : Meth K (He.ga K "Device") "arm" (a_d_arm K) := He.meth_ok T.f_mDarm
theorem Txt.mDo (T : Txt K mg) : Meth K (He.ga K "Device") "do" (a_d_do K) := He.meth_ok T.f_mDdo
theorem Txt.mStood (T : Txt K mg) : Meth K (He.ga K "Device") "stood" (a_d_stood K) := He.meth_ok T.f_mDstood
theorem Txt.more (T : Txt K mg) : moreB K = true := T.says.more
theorem Txt.pSizes (T : Txt K mg) : PropOf K (He.ga K "Pattern") "sizes" (pAd "Pattern" "sizes" K) (a_p_sizes K) := propB_ok (He.ba T.more).1
theorem Txt.pPattern (T : Txt K mg) : PropOf K (He.ga K "Device") "pattern" (pAd "Device" "pattern" K) (a_d_pattern K) := propB_ok (He.ba (He.ba T.more).2).1
theorem Txt.pEnded (T : Txt K mg) : PropOf K (He.ga K "Device") "ended" (pAd "Device" "ended" K) (a_d_ended K) := propB_ok (He.ba (He.ba (He.ba T.more).2).2).1
theorem Txt.pCuts (T : Txt K mg) : PropOf K (He.ga K "Device") "cuts" (pAd "Device" "cuts" K) (a_d_cuts K) := propB_ok (He.ba (He.ba (He.ba (He.ba T.more).2).2).2).1
theorem Txt.pErases (T : Txt K mg) : PropOf K (He.ga K "Device") "erases" (pAd "Device" "erases" K) (a_d_erases K) := propB_ok (He.ba (He.ba (He.ba (He.ba (He.ba T.more).2).2).2).2).1
theorem Txt.pArmed (T : Txt K mg) : PropOf K (He.ga K "Device") "armed" (pAd "Device" "armed" K) (a_d_armed K) := propB_ok (He.ba (He.ba (He.ba (He.ba (He.ba (He.ba T.more).2).2).2).2).2).1
theorem Txt.rest6 (T : Txt K mg) : (cvalB K "Pattern" "BITS" 120 && (cvalB K "Pattern" "BLOCKS" 3 && (oexB K (He.ga K "Cut") && (xfB K (He.ga K "Cut") && (decide (PySem.W.findIn K (.ref (He.ga K "Cut")) "__init__" = some (some (.ref (He.ma K (He.ga K "Cut") "__init__")))) &&
  decide (PySem.W.typeIn K (.ref (He.ma K (He.ga K "Cut") "__init__")) = some (.type "function"))))))) = true := (He.ba (He.ba (He.ba (He.ba (He.ba (He.ba T.more).2).2).2).2).2).2
theorem Txt.bits (T : Txt K mg) : ClX.CRead K (He.ga K "Pattern") (.type "type") ∧ ∃ u, ClX.CVal K (He.ga K "Pattern") (.type "type") "BITS" (.int 120) u := cvalB_ok (He.ba T.rest6).1
theorem Txt.blocks (T : Txt K mg) : ClX.CRead K (He.ga K "Pattern") (.type "type") ∧ ∃ u, ClX.CVal K (He.ga K "Pattern") (.type "type") "BLOCKS" (.int 3) u := cvalB_ok (He.ba (He.ba T.rest6).2).1
theorem Txt.oCut (T : Txt K mg) : OexC K (He.ga K "Cut") := oexB_ok (He.ba (He.ba (He.ba T.rest6).2).2).1
theorem Txt.xCut (T : Txt K mg) : XfC K (He.ga K "Cut") := xfB_ok (He.ba (He.ba (He.ba (He.ba T.rest6).2).2).2).1
theorem Txt.iCut (T : Txt K mg) : PySem.W.findIn K (.ref (He.ga K "Cut")) "__init__" = some (some (.ref (a_cut_init K))) := of_decide_eq_true (He.ba (He.ba (He.ba (He.ba (He.ba T.rest6).2).2).2).2).1
theorem Txt.tCut (T : Txt K mg) : PySem.W.typeIn K (.ref (a_cut_init K)) = some (.type "function") := of_decide_eq_true (He.ba (He.ba (He.ba (He.ba (He.ba T.rest6).2).2).2).2).2
theorem Txt.eCut (T : Txt K mg) : PySem.W.exmOne K (.ref (He.ga K "Cut")) (.ref (He.ga K "Cut")) = some true := He.exm_ok T.f_xCut
theorem Txt.nCut (T : Txt K mg) : PySem.W.findIn K (.ref (He.ga K "Cut")) "found" = some none := He.noat_ok T.f_nCf
end
end FB

/-! ## FBKit -/
set_option Elab.async false
set_option linter.all false
set_option maxRecDepth 100000
set_option maxHeartbeats 4000000
/-! Small things that the defs' proofs share. -/
namespace FB
open PySem PySem.Spec PyProof.Rows L2
theorem bt_isinstance : bootBuiltins "isinstance" = some (.builtin "isinstance") := by decide +kernel
theorem bt_int : bootBuiltins "int" = some (.type "int") := by decide +kernel
theorem bt_bool : bootBuiltins "bool" = some (.type "bool") := by decide +kernel
theorem bt_str : bootBuiltins "str" = some (.type "str") := by decide +kernel
theorem bt_tuple : bootBuiltins "tuple" = some (.type "tuple") := by decide +kernel
theorem bt_len : bootBuiltins "len" = some (.builtin "len") := by decide +kernel
theorem bt_sum : bootBuiltins "sum" = some (.builtin "sum") := by decide +kernel
theorem bt_list : bootBuiltins "list" = some (.type "list") := by decide +kernel
theorem bt_range : bootBuiltins "range" = some (.type "range") := by decide +kernel
theorem bt_all : bootBuiltins "all" = some (.builtin "all") := by decide +kernel
theorem bt_abs : bootBuiltins "abs" = some (.builtin "abs") := by decide +kernel
theorem kt_int_int : kitB "int" "int" = some true := by decide +kernel
theorem kt_int_bool : kitB "int" "bool" = some false := by decide +kernel
theorem kt_str_str : kitB "str" "str" = some true := by decide +kernel
theorem kt_tuple_tuple : kitB "tuple" "tuple" = some true := by decide +kernel
theorem vals_of_get : ∀ {xs : List V} {us : List Value}, xs.length = us.length → (∀ (i : Nat) v u, xs[i]? = some v → us[i]? = some u → RelV v u) → Vals xs us
  | [], [], _, _ => .nil
  | [], _ :: _, h, _ => by cases h
  | _ :: _, [], h, _ => by cases h
  | x :: xs, u :: us, h, f => .cons (f 0 x u rfl rfl) (vals_of_get (Nat.succ.inj h) fun i v w a b => f (i + 1) v w (by simpa using a) (by simpa using b))
/-! the same rules, the written part by its name (for a comprehension's block) -/
theorem call_lenK {X : Cx} {K : PySem.W.Frag} (h : X.K = K) : CallR X (.builtin "len") (rLen K) := by
  subst h
  exact call_len
theorem op_in_seqK {X : Cx} {K : PySem.W.Frag} (h : X.K = K) : OpR X (compareOp .In) (rIn K false) := by
  subst h
  exact op_in_seq
theorem pg_tupK {X : Cx} {K : PySem.W.Frag} {es : List Expr} {k : Nat} {t : TGs} {n : Nat} {pos : Pos} (e : X.K = K) (hc : X.calm = true) (h : PGs X es t) (hn : (assignEach es X.env).length = n := by rfl) (hst : (assignEach es X.env).findIdx? (·.1) = none := by rfl) :
    PG X (.Tuple es k pos) (gTup K n t) := by
  subst e
  exact pg_tup hc h hn hst
theorem ix_listK {X : Cx} {K : PySem.W.Frag} (h : X.K = K) : IxR X (rIxL K) := by
  subst h
  exact ix_list
theorem ix_tupK {X : Cx} {K : PySem.W.Frag} (h : X.K = K) : IxR X (rIxT K) := by
  subst h
  exact ix_tup
/-- list(text) -/
theorem call_listS {X : Cx} (hc : X.calm = true) : CallR X (.type "list") (fun xs H Q => ∃ z : Str, xs = [.str z] ∧ z.cps.size ≤ sizeLine ∧ ∀ l, H l = none → Q (.ref l) (upd H l (.lst ((List.range z.cps.size).map (sg z))))) := by
  intro pins s σ H xs us Q I r h
  obtain ⟨z, rfl, hz, q⟩ := h
  cases r with
  | cons r rr =>
    cases rr
    obtain ⟨t, rfl⟩ := r
    refine call_list_str (I.ok.hd hc) z t (hn := hz) fun h' tk acc c' hk hS hacc => ?_
    have hlen : ((List.range z.cps.size).map (sg z)).length = acc.toList.length := by
      rw [List.length_map, List.length_range, Array.length_toList]
      exact hacc.1.symm
    have rel : Vals ((List.range z.cps.size).map (sg z)) acc.toList := by
      refine vals_of_get hlen fun i v u hv hu => ?_
      rw [List.getElem?_map] at hv
      cases e : (List.range z.cps.size)[i]? with
      | none => rw [e] at hv; cases hv
      | some k =>
        rw [e] at hv
        have hk2 : k = i := by
          have q := List.getElem?_range (n := z.cps.size) (i := i) (by
            have := (List.getElem?_eq_some_iff.mp e).1
            simpa using this)
          rw [q] at e
          exact (Option.some.inj e).symm
        subst hk2
        have ev : sg z k = v := by simpa using hv
        obtain ⟨c, w, hcx, hw⟩ := hacc.2 k u (by simpa using hu)
        rw [← ev, sg_of hcx, hw]
        exact ⟨w, rfl⟩
    have new : ObjOk X.prog X.w (upd H s.heap.objs.size (.lst ((List.range z.cps.size).map (sg z)))) h' s.heap.objs.size (.lst ((List.range z.cps.size).map (sg z))) :=
      ⟨by rw [List.length_map, List.length_range]; exact hz, acc.toList, c', rel, by simpa using hS⟩
    have I2 := I.laid (t' := tk) hk (Nat.le_refl _) new
    exact ⟨.ref s.heap.objs.size, _, I2, rfl, q _ (I.hok.fresh (Nat.le_refl _))⟩
end FB

/-! ## FBDef1 -/
set_option Elab.async false
set_option linter.all false
set_option maxRecDepth 100000
set_option maxHeartbeats 4000000
/-! is_number, fault_in, need_pattern. -/
namespace FB
open PySem PySem.Spec PyProof.Rows L2
/-! ### texts -/
theorem cd_eq (z : Str) (i : Nat) : z.cps.getD i 0 = cd z i := by
  show _ = z.cps.toList.getD i 0
  rw [Array.getD_eq_getD_getElem?, List.getD_eq_getElem?_getD, Array.getElem?_toList]
theorem sg_eq (z : Str) (i : Nat) : sg z i = .str (sg1 z i) := by
  unfold sg sg1
  rw [cd_eq]
theorem s_0 : ("0" : Str) = ⟨#[48]⟩ := by decide +kernel
theorem s_1 : ("1" : Str) = ⟨#[49]⟩ := by decide +kernel
theorem s_dot : ("." : Str) = ⟨#[46]⟩ := by decide +kernel
theorem one_inj {a b : Nat} : ((⟨#[a]⟩ : Str) = ⟨#[b]⟩) ↔ a = b := by
  constructor
  · intro h
    injection h with h
    have h2 : [a] = [b] := congrArg Array.toList h
    injection h2
  · intro h
    rw [h]
theorem sg_is {z : Str} {i c : Nat} : (sg z i = .str ⟨#[c]⟩) ↔ cd z i = c := by
  rw [sg_eq]
  constructor
  · intro h
    injection h with h
    exact one_inj.mp h
  · intro h
    unfold sg1
    rw [h]
theorem beq_one {a b : Nat} : ((⟨#[a]⟩ : Str) == ⟨#[b]⟩) = decide (a = b) := by
  by_cases h : a = b
  · rw [h, decide_eq_true rfl]
    exact beq_self_eq_true _
  · rw [decide_eq_false h]
    exact beq_eq_false_iff_ne.mpr fun q => h (one_inj.mp q)
theorem in_01 {z : Str} {i : Nat} : inV (sg z i) [.str "0", .str "1"] = decide (cd z i = 48 ∨ cd z i = 49) := by
  rw [sg_eq]
  show ((("0" : Str) == sg1 z i) || ((("1" : Str) == sg1 z i) || false)) = _
  unfold sg1
  rw [s_0, s_1, beq_one, beq_one, Bool.or_false, Bool.decide_or]
  congr 1
  · exact decide_eq_decide.mpr ⟨Eq.symm, Eq.symm⟩
  · exact decide_eq_decide.mpr ⟨Eq.symm, Eq.symm⟩
theorem sz_eq (z : Str) : z.cps.size = sz z := (Array.length_toList).symm
/-! ### the state of fault_in -/
theorem fault_succ (x : Str) (i : Nat) : faultSt x (i + 1) = fstep (faultSt x i) (cd x i) := by
  unfold faultSt
  rw [List.range_succ, List.foldl_append]
  rfl
theorem fault_some {x : Str} {i n : Nat} (h : i ≤ n) : ∀ {s}, faultSt x n = some s → ∃ r, faultSt x i = some r := by
  induction n with
  | zero =>
    intro s e
    have : i = 0 := by omega
    subst this
    exact ⟨s, e⟩
  | succ n ih =>
    intro s e
    by_cases hi : i = n + 1
    · subst hi
      exact ⟨s, e⟩
    · rw [fault_succ] at e
      cases q : faultSt x n with
      | none =>
        rw [q] at e
        cases e
      | some r => exact ih (by omega) q
theorem okM_end {x : Str} (h : okM x = true) : ∃ bl bi ru, faultSt x (sz x) = some (bl, bi, ru) ∧ 0 < ru := by
  unfold okM at h
  cases e : faultSt x (sz x) with
  | none =>
    rw [e] at h
    cases h
  | some s =>
    obtain ⟨bl, bi, ru⟩ := s
    rw [e] at h
    exact ⟨bl, bi, ru, rfl, of_decide_eq_true h⟩
/-- so it goes at each sign of a text that is no fault -/
theorem okM_turn {x : Str} (h : okM x = true) {i : Nat} (hi : i < sz x) {bl bi ru : Nat} (e : faultSt x i = some (bl, bi, ru)) :
    ((cd x i = 48 ∨ cd x i = 49) ∧ bi < 120 ∧ faultSt x (i + 1) = some (bl, bi + 1, ru + 1)) ∨
      (¬ (cd x i = 48 ∨ cd x i = 49) ∧ cd x i = 46 ∧ 0 < ru ∧ bl < 3 ∧ bi < 120 ∧ faultSt x (i + 1) = some (bl + 1, bi, 0)) := by
  obtain ⟨b1, b2, b3, e1, _⟩ := okM_end h
  obtain ⟨r, hr⟩ := fault_some (i := i + 1) (Nat.succ_le_of_lt hi) e1
  rw [fault_succ, e] at hr
  unfold fstep at hr
  simp only at hr
  rw [fault_succ, e]
  unfold fstep
  simp only
  split at hr
  · rename_i c
    exact .inl ⟨c.1, c.2, by rw [if_pos c]⟩
  · rename_i c
    split at hr
    · rename_i c2
      refine .inr ⟨fun q => ?_, c2.1, c2.2.1, c2.2.2.1, c2.2.2.2, by rw [if_neg c, if_pos c2]⟩
      exact c ⟨q, c2.2.2.2⟩
    · cases hr
section
variable {P : Program} {w : World} {K : PySem.W.Frag} {mg : Str → Option Value} {base : Heap}
/-! ### is_number -/
def spIsNumber : Sp := fun vs H Q _ => ∃ n : Int, vs = [.int n] ∧ Q (.bl true) H
theorem sc_is_number : FnScope ["thing"] ["thing"] (defScope sIsNumber) := ⟨rfl, rfl, rfl, by decide +kernel, rfl, by decide +kernel, by decide +kernel⟩
theorem ok_is_number (T : Txt K mg) : FnOk P w K mg base CX0 5 (a_is_number K) (fdA K (a_is_number K)) ["thing"] spIsNumber := by
  refine FunD.ok T.is_number sc_is_number (fun vs H Q E h => ?_) (fun cdv A outer s H vs Q E hr h => ?_)
  · obtain ⟨n, rfl, _⟩ := h
    rfl
  · obtain ⟨n, rfl, k⟩ := h
    refine ⟨_, PSs.nox (pss_one (ps_ret (pe_and (pe_callB call_isi (by rfl) T.b_isinstance bt_isinstance (pa_cons (pv 0) (pa_cons (pe_bltn (by rfl) T.b_int bt_int (v := .ty "int") rfl) pa_nil)))
      (pe_one (pe_not (pe_callB call_isi (by rfl) T.b_isinstance bt_isinstance (pa_cons (pv 0) (pa_cons (pe_bltn (by rfl) T.b_bool bt_bool (v := .ty "bool") rfl) pa_nil)))))))), ?_⟩
    refine ⟨_, rfl, _, _, _, _, true, rfl, .ty "int", .base (.int n), kit_ty kt_int_int, true, rfl, iteT ?_⟩
    exact ⟨_, rfl, _, _, _, _, false, rfl, .ty "bool", .base (.int n), kit_ty kt_int_bool, false, rfl, k⟩
/-! ### fault_in -/
def spFaultIn : Sp := fun vs H Q _ => ∃ x : Str, vs = [.str x] ∧ okM x = true ∧ ∀ H', Same H H' → Q .non H'
theorem sc_fault_in : FnScope ["text", "blocks", "bits", "run", "at", "sign"] ["text"] (defScope sFaultIn) := ⟨rfl, rfl, rfl, by decide +kernel, rfl, by decide +kernel, by decide +kernel⟩
theorem ok_fault_in (T : Txt K mg) : FnOk P w K mg base CX0 5 (a_fault_in K) (fdA K (a_fault_in K)) ["text"] spFaultIn := by
  refine FunD.ok T.fault_in sc_fault_in (fun vs H Q E h => ?_) (fun cdv A outer s H vs Q E hr h => ?_)
  · obtain ⟨x, rfl, _⟩ := h
    rfl
  · obtain ⟨x, rfl, hx, k⟩ := h
    have nd := sc_fault_in.nd
    obtain ⟨crB, uB, cvB⟩ := T.bits
    obtain ⟨crC, uC, cvC⟩ := T.blocks
    refine ⟨_, PSs.nox (pss_cons (ps_if (pt_not (pt_val (pe_callB call_isi (by rfl) T.b_isinstance bt_isinstance (pa_cons (pv 0) (pa_cons (pe_bltn (by rfl) T.b_str bt_str (v := .ty "str") rfl) pa_nil))))) (pss_one (ps_ret pe_int)) pss_nil)
      (pss_cons (ps_set (i := 1) nd rfl (.inl rfl) pe_int) (pss_cons (ps_set (i := 2) nd rfl (.inl rfl) pe_int) (pss_cons (ps_set (i := 3) nd rfl (.inl rfl) pe_int)
      (pss_cons (ps_for PassesOwn.never rfl (pi_enumS (by rfl) T.b_enumerate (pa_cons (pv 0) pa_nil)) (pg_tup rfl (pgs_cons (pg_name (i := 4) nd rfl (.inl rfl)) (pgs_cons (pg_name (i := 5) nd rfl (.inl rfl)) pgs_nil)))
        (pss_one (ps_if (PW.pt (pw_and (pt_cmpR op_in_seq (pv 5) (pe_tup (pa_cons pe_str (pa_cons pe_str pa_nil))) (by rfl)) (pw_and1 (pt_cmpR op_lt (pv 2) (ClX.pe_cval (pe_glob (v := .ref (He.ga K "Pattern")) (by rfl) T.g_Pattern rfl)) (nomark _)))))
          (pss_cons (ps_aug (i := 2) nd rfl (.inl rfl) pe_int ip_add) (pss_one (ps_aug (i := 3) nd rfl (.inl rfl) pe_int ip_add)))
          (pss_one (ps_if (PW.pt (pw_and (pt_cmpR op_eq (pv 5) pe_str (nomark _)) (pw_and (pt_cmpR op_gt (pv 3) pe_int (nomark _)) (pw_and (pt_cmpR op_lt (pv 1) (ClX.pe_cval (pe_glob (v := .ref (He.ga K "Pattern")) (by rfl) T.g_Pattern rfl)) (nomark _)) (pw_and1 (pt_cmpR op_lt (pv 2) (ClX.pe_cval (pe_glob (v := .ref (He.ga K "Pattern")) (by rfl) T.g_Pattern rfl)) (nomark _)))))))
            (pss_cons (ps_aug (i := 1) nd rfl (.inl rfl) pe_int ip_add) (pss_one (ps_set (i := 3) nd rfl (.inl rfl) pe_int))) (pss_one (ps_ret (pv 4))))))))
      (pss_one (ps_ret (pe_ifExp (pt_cmpR op_gt (pv 3) pe_int (nomark _)) pe_non (pe_callB call_len (by rfl) T.b_len bt_len (pa_cons (pv 0) pa_nil)))))))))), ?_⟩
    refine ⟨_, rfl, _, _, _, _, true, rfl, .ty "str", .base (.str x), kit_ty kt_str_str, true, rfl, iteF ?_⟩
    refine ⟨_, rfl, x, rfl, for_it (walk_v) (fun i σ H' => ∃ (bl bi ru : Nat) (v4 v5 : Option V), faultSt x i = some (bl, bi, ru) ∧ σ = [some (.str x), some (.int bl), some (.int bi), some (.int ru), v4, v5] ∧ Same H H')
      ⟨1, 0, 0, none, none, rfl, rfl, Same.refl H⟩ (fun _ _ _ _ _ => trivial) ?_ ?_⟩
    · rintro i y σ H1 H2 hi ⟨bl, bi, ru, v4, v5, e, rfl, s1⟩ ⟨Tp, rfl, hT, rfl⟩
      have s2 : Same H (upd H1 Tp (.tup (enS x i))) := fun b o q => by rw [upd_ne (ne_of_none (s1 b o q) hT)]; exact s1 b o q
      rw [sz_eq] at hi
      refine ⟨Tp, _, rfl, SqT.of upd_same, rfl, _, _, rfl, _, _, rfl, rfl, ?_⟩
      refine ⟨_, rfl, (by show 2 ≤ sizeLine; decide), fun p hp => ⟨p, _, rfl, .inr (SqT.of upd_same), (by rw [sg_eq]; rfl), rfl, _, rfl, ?_⟩⟩
      have s3 : Same H (upd (upd H1 Tp (.tup (enS x i))) p (.tup [.str "0", .str "1"])) := fun b o q => by rw [upd_ne (ne_of_none (s2 b o q) hp)]; exact s2 b o q
      rcases okM_turn hx hi e with ⟨c, hb, e2⟩ | ⟨c, cdot, hru, hbl, hb, e2⟩
      · rw [show (if false = true then !inV (sg x i) [V.str "0", V.str "1"] else inV (sg x i) [V.str "0", V.str "1"]) = true from by rw [if_neg Bool.false_ne_true, in_01]; exact decide_eq_true c]
        refine iteT ⟨_, rfl, _, _, _, _, rfl, crB, cvB, _, _, rfl, rfl, _, rfl, ?_⟩
        rw [show decide ((bi : Int) < 120) = true from decide_eq_true (by omega)]
        refine iteT ⟨_, rfl, _, _, rfl, rfl, _, rfl, _, _, rfl, rfl, ?_⟩
        exact ⟨bl, bi + 1, ru + 1, _, _, e2, rfl, s3⟩
      · rw [show (if false = true then !inV (sg x i) [V.str "0", V.str "1"] else inV (sg x i) [V.str "0", V.str "1"]) = false from by rw [if_neg Bool.false_ne_true, in_01]; exact decide_eq_false c]
        refine iteF (iteF ?_)
        refine ⟨_, rfl, (by rw [sg_eq]; rfl), _, rfl, ?_⟩
        rw [show decide (sg x i = V.str ".") = true from decide_eq_true (by rw [s_dot]; exact sg_is.mpr cdot)]
        refine iteT ⟨_, rfl, _, _, rfl, rfl, _, rfl, ?_⟩
        rw [show decide ((0 : Int) < (ru : Int)) = true from decide_eq_true (by omega)]
        refine iteT ⟨_, rfl, _, _, _, _, rfl, crC, cvC, _, _, rfl, rfl, _, rfl, ?_⟩
        rw [show decide ((bl : Int) < 3) = true from decide_eq_true (by omega)]
        refine iteT ⟨_, rfl, _, _, _, _, rfl, crB, cvB, _, _, rfl, rfl, _, rfl, ?_⟩
        rw [show decide ((bi : Int) < 120) = true from decide_eq_true (by omega)]
        refine iteT ⟨_, rfl, _, _, rfl, rfl, ?_⟩
        exact ⟨bl + 1, bi, 0, _, _, e2, rfl, s3⟩
    · rintro σ H1 ⟨bl, bi, ru, v4, v5, e, rfl, s1⟩
      rw [sz_eq] at e
      obtain ⟨b1, b2, b3, e1, h0⟩ := okM_end hx
      rw [e1] at e
      cases e
      refine ⟨_, rfl, _, _, rfl, rfl, _, rfl, ?_⟩
      rw [show decide ((0 : Int) < (ru : Int)) = true from decide_eq_true (by omega)]
      exact iteT (k H1 s1)
/-! ### need_pattern -/
def spNeedPattern : Sp := fun vs H Q _ => ∃ x : Str, vs = [.str x] ∧ okM x = true ∧ ∀ H', Same H H' → Q .non H'
theorem sc_need_pattern : FnScope ["text", "at"] ["text"] (defScope sNeedPattern) := ⟨rfl, rfl, rfl, by decide +kernel, rfl, by decide +kernel, by decide +kernel⟩
theorem ok_need_pattern (T : Txt K mg) : FnOk P w K mg base CX0 7 (a_need_pattern K) (fdA K (a_need_pattern K)) ["text"] spNeedPattern := by
  refine FunD.ok T.need_pattern sc_need_pattern (fun vs H Q E h => ?_) (fun cdv A outer s H vs Q E hr h => ?_)
  · obtain ⟨x, rfl, _⟩ := h
    rfl
  · obtain ⟨x, rfl, hx, k⟩ := h
    have nd := sc_need_pattern.nd
    refine ⟨_, PSs.nox (pss_cons (ps_set (i := 1) nd rfl (.inl rfl) (pe_call (ok_fault_in T) (hr.mono (by decide)) (by rfl) T.g_fault_in T.fault_in.kp T.n_fault_in .nil pass0 (pa_cons (pv 0) pa_nil)))
      (pss_one (ps_if (pt_cmpR op_notN (pv 1) pe_non (nomark _)) pss_never pss_nil))), ?_⟩
    refine ⟨_, rfl, x, rfl, hx, fun H' s1 => ⟨_, rfl, rfl, _, rfl, ?_⟩⟩
    exact iteF (k H' s1)
end
end FB

/-! ## FBDef2 -/
set_option Elab.async false
set_option linter.all false
set_option maxRecDepth 100000
set_option maxHeartbeats 4000000
/-! sizes_of, need_patterns, places_of. -/
namespace FB
open PySem PySem.Spec PyProof.Rows L2
/-- x(e, ..), x a def with a star parameter -/
theorem pe_callR {X : Cx} {CX : CXT} {k : Nat} {f : Addr} {sp : Sp} {E : XK} {x : Str} {e : Expr} {es : List Expr} {t : TA} {p pos : Pos} (F : FnR X.prog X.w X.K X.mg X.base CX k f sp) (hr : Room k X.A) (hg : Gl X x) (hm : X.mg x = some (.ref f)) (hk : PySem.W.keepIn X.K (.ref f) = true) (hx : Passes CX X E) (ha : PA X (e :: es) t)
    (hdb : (x == ("__debug__" : Str)) = false := by decide) (he : starEach (e :: es) X.env = (false, eval e X.env) :: starEach es X.env := by rfl) (hpl : (backTo pos (starEach es X.env)).any (·.1) = false := by rfl) :
    PE X (.Call (.Name x p) (e :: es) [] pos) (fun σ H Q => t σ H fun vs H1 => sp vs H1 Q E) := by
  refine ⟨fun pins s σ H Q I h => ?_⟩
  refine wpAny_Call_Name_kw (ld_glob I hg hm ?_ hdb)
  refine PySem.W.callWith_K (h₀ := X.base) I.ok.mod.kin hk (thn (ha.run pos pins s σ H _ I h) fun us s1 ⟨vs, H1, I1, r, q⟩ => ⟨I1.kIn, ?_⟩) he hpl
  exact wpAny_call (run_fnR F hr hx I1 r q)
theorem _root_.L2.Same.upd {H H1 : Hp} {p : Addr} {o : HO} (s : Same H H1) (h : H1 p = none) : Same H (upd H1 p o) := fun b u q => by
  rw [upd_ne (ne_of_none (s b u q) h)]
  exact s b u q
/-- what was tracked but for one new thing -/
theorem _root_.L2.Same.updN {H H1 : Hp} {p : Addr} {o : HO} (s : Same H H1) (h : H p = none) : Same H (L2.upd H1 p o) := fun b u q => by
  rw [upd_ne (ne_of_none q h)]
  exact s b u q
section
variable {P : Program} {w : World} {K : PySem.W.Frag} {mg : Str → Option Value} {base : Heap}
/-! ### sizes_of -/
def natV (n : Nat) : V := .int n
def sizesV (x : Str) : List V := (sizesM x).map natV
def spSizesOf : Sp := fun vs H Q _ => ∃ x : Str, vs = [.str x] ∧ sz x ≤ 1000 ∧ (blocksOf x).length ≤ 1000 ∧ (∀ b ∈ blocksOf x, b.length ≤ 1000) ∧ ∀ H' p, Same H H' → H p = none → H' p = some (.tup (sizesV x)) → Q (.ref p) H'
theorem sc_sizes_of : FnScope ["text", "block"] ["text"] (defScope sSizesOf) := ⟨rfl, rfl, rfl, by decide +kernel, rfl, by decide +kernel, by decide +kernel⟩
theorem take_succ_map {α β : Type} (f : α → β) {xs : List α} {i : Nat} {x : α} (h : xs[i]? = some x) : (xs.take (i + 1)).map f = (xs.take i).map f ++ [f x] := by
  rw [List.take_add_one, h, List.map_append]
  rfl
theorem ok_sizes_of (T : Txt K mg) : FnOk P w K mg base CX0 5 (a_sizes_of K) (fdA K (a_sizes_of K)) ["text"] spSizesOf := by
  refine FunD.ok T.sizes_of sc_sizes_of (fun vs H Q E h => ?_) (fun cdv A outer s H vs Q E hr h => ?_)
  · obtain ⟨x, rfl, _⟩ := h
    rfl
  · obtain ⟨x, rfl, hx, hb, hbl, k⟩ := h
    have nd := sc_sizes_of.nd
    refine ⟨_, PSs.nox (pss_one (ps_ret (pe_callTy call_tuple_of (by rfl) T.b_tuple bt_tuple (pa_cons
      (pe_lc (own := [("block", 1)]) (g := gName 1) rfl nd (pi_list (pe_split (pv 0) pe_str)) (blkOk_by (N := ["text", "block"]) (sc := defScope sSizesOf) (by decide +kernel)) (fun _ _ _ _ _ => pg_name (i := 1) nd rfl (Or.inl rfl)) (fun _ _ _ _ _ => pts_nil)
        (fun _ _ _ _ _ => pe_callB (call_lenK (K := K) rfl) (by rfl) T.b_len bt_len (pa_cons (pv 1) pa_nil))) pa_nil)))), ?_⟩
    refine ⟨_, rfl, ⟨_, rfl⟩, x, "." , rfl, rfl, by decide +kernel, ?_, fun p hp => ?_⟩
    · show x.length + 2 ≤ sizeLine
      rw [sizeLine_eq]
      have : x.length = sz x := sz_eq x
      omega
    have s1 : Same H (upd H p (.lst ((blocksOf x).map V.str))) := (Same.refl H).upd hp
    refine ⟨p, rfl, ⟨_, SqL.of upd_same⟩, fun D hD => ?_⟩
    have hDp : D ≠ p := fun q => by rw [q, upd_same] at hD; cases hD
    have hD0 : H D = none := by rw [upd_ne hDp] at hD; exact hD
    refine lc_list (K := K) (a := p) (xs := (blocksOf x).map V.str) (fun i H' => Same H H' ∧ H' p = some (.lst ((blocksOf x).map V.str)) ∧ H' D = some (.lst (((blocksOf x).take i).map fun b => natV b.length)))
      ⟨s1.upd hD, by rw [upd_ne (Ne.symm hDp)]; exact upd_same, upd_same⟩ (fun i H' _ h => SqL.of h.2.1) ?_ ?_
    · rintro i y H1 hi ⟨h1, h2, h3⟩
      obtain ⟨b, hb2, rfl⟩ : ∃ b, (blocksOf x)[i]? = some b ∧ y = V.str b := by
        rw [List.getElem?_map] at hi
        cases e : (blocksOf x)[i]? with
        | none => rw [e] at hi; cases hi
        | some b => rw [e] at hi; exact ⟨b, rfl, (Option.some.inj hi).symm⟩
      have hmem : b ∈ blocksOf x := List.mem_of_getElem? hb2
      refine ⟨rfl, ?_⟩
      refine ⟨_, rfl, _, b.length, rfl, ⟨?_, rfl⟩, _, h3, ?_, h1.updN hD0, by rw [upd_ne (Ne.symm hDp)]; exact h2, ?_⟩
      · have := hbl b hmem
        rw [sizeLine_eq]
        omega
      · rw [List.length_map, List.length_take]
        exact small1000 (by omega)
      · rw [upd_same, take_succ_map _ hb2]
        rfl
    · rintro H1 ⟨h1, h2, h3⟩
      rw [List.length_map, List.take_length] at h3
      refine ⟨D, _, rfl, .inl ⟨SqL.of h3, fun l hl => k _ l (h1.upd hl) (h1.free hl) ?_⟩⟩
      rw [upd_same]
      unfold sizesV sizesM
      rw [List.map_map]
      rfl
/-! ### flat data -/
def intD (n : Nat) : PyData := .int n
theorem shaped_flat : ∀ {f : α → PyData} {xs : List α} (hf : ∀ x, (f x).canLay0 = true ∧ (f x).depth = 0), PyData.canLayAll0 (xs.map f) = true ∧ PyData.depthAll (xs.map f) = 0
  | f, [], hf => ⟨rfl, rfl⟩
  | f, x :: xs, hf => by
    obtain ⟨h1, h2⟩ := shaped_flat (xs := xs) hf
    obtain ⟨h3, h4⟩ := hf x
    refine ⟨?_, ?_⟩
    · show (PyData.canLay0 (f x) && PyData.canLayAll0 (xs.map f)) = true
      rw [h1, h3]
      rfl
    · show max (PyData.depth (f x)) (PyData.depthAll (xs.map f)) = 0
      rw [h2, h4]
      rfl
theorem shaped_ints (xs : List Nat) : SeqAt.shaped (.tuple (xs.map intD)) = true ∧ SeqAt.shaped (.list (xs.map intD)) = true := by
  obtain ⟨h1, h2⟩ := shaped_flat (f := intD) (xs := xs) (fun x => ⟨rfl, rfl⟩)
  constructor
  · unfold SeqAt.shaped
    rw [show PyData.canLay0 (.tuple (xs.map intD)) = PyData.canLayAll0 (xs.map intD) from rfl, show PyData.depth (.tuple (xs.map intD)) = PyData.depthAll (xs.map intD) + 1 from rfl, h1, h2]
    rfl
  · unfold SeqAt.shaped
    rw [show PyData.canLay0 (.list (xs.map intD)) = PyData.canLayAll0 (xs.map intD) from rfl, show PyData.depth (.list (xs.map intD)) = PyData.depthAll (xs.map intD) + 1 from rfl, h1, h2]
    rfl
theorem dpAll_ints {K : PySem.W.Frag} {H : Hp} : ∀ xs : List Nat, DpAll K H (xs.map natV) (xs.map intD)
  | [] => .nil
  | x :: xs => .cons (.int x) (dpAll_ints xs)
theorem eqv_ints (xs : List Nat) : PyData.eqv (.tuple (xs.map intD)) (.tuple (xs.map intD)) = true := SeqAt.eqv_refl _ (SeqAt.canLay_of_shaped (shaped_ints xs).1)
/-! ### need_patterns -/
/-- a text that the defs may be given -/
structure Fit (x : Str) : Prop where
  ok : okM x = true
  len : sz x ≤ 1000
  many : (blocksOf x).length ≤ 1000
  each : ∀ b ∈ blocksOf x, b.length ≤ 1000
def spNP (K : PySem.W.Frag) : Sp := fun vs H Q _ => ∃ (a : Addr) (xs : List Str) (x0 : Str) (r : List Str), vs = [.ref a] ∧ xs = x0 :: r ∧ r ≠ [] ∧ H a = some (.tup (xs.map V.str)) ∧ (∀ x ∈ xs, Fit x ∧ sizesM x = sizesM x0) ∧ ∀ H', Same H H' → Q .non H'
theorem sc_need_patterns : FnScope ["texts", "text"] ["texts"] (defScope sNeedPatterns) := ⟨rfl, rfl, rfl, by decide +kernel, rfl, by decide +kernel, by decide +kernel⟩
theorem get_str {xs : List Str} {i : Nat} {y : V} (h : (xs.map V.str)[i]? = some y) : ∃ b, xs[i]? = some b ∧ y = V.str b := by
  rw [List.getElem?_map] at h
  cases e : xs[i]? with
  | none => rw [e] at h; cases h
  | some b => rw [e] at h; exact ⟨b, rfl, (Option.some.inj h).symm⟩
theorem ok_need_patterns (T : Txt K mg) : FnR P w K mg base CX0 10 (a_need_patterns K) (fun vs H Q E => ∃ ws rest, vs = ws ++ rest ∧ ws.length = ([] : List Str).length ∧ rest.length ≤ sizeLine ∧ ∀ p, H p = Option.none → spNP K (ws ++ [V.ref p]) (upd H p (.tup rest)) Q E) := by
  obtain ⟨oc, od, dV, kV, doc, pm, an, cdv, ct, osl, e, lk, hcd, hD, hK⟩ := T.need_patterns.ex
  have hdV : dV = .none := by
    rcases hD with ⟨_, h⟩ | ⟨h, _⟩
    · exact h
    · exact absurd rfl h
  subst hdV
  rw [e] at lk
  refine StX.fn_star (ps := []) (pv := "texts") (N := ["texts", "text"]) lk hcd sc_need_patterns StX.cxUp_none (fun us rest hl => match us, rest, hl with | [], [], _ => rfl | [], _ :: _, _ => rfl) (fun A outer s H vs Q E hr h => ?_)
  obtain ⟨a, xs, x0, r, rfl, rfl, hr0, ha, hf, k⟩ := h
  have nd := sc_need_patterns.nd
  have GP := ok_need_pattern (P := P) (w := w) (base := base) T
  have GS := ok_sizes_of (P := P) (w := w) (base := base) T
  refine ⟨_, PSs.nox (pss_cons (ps_for PassesOwn.never rfl (pi_tup (pv 0)) (pg_name (i := 1) nd rfl (.inl rfl)) (pss_one (ps_expr (pe_call GP (hr.mono (by decide)) (by rfl) T.g_need_pattern T.need_pattern.kp T.n_need_pattern .nil pass0 (pa_cons (pv 1) pa_nil)))))
    (pss_one (ps_for PassesOwn.never rfl (pi_tup (pe_slice sl_tup (pv 0) (po_some pe_int) po_none)) (pg_name (i := 1) nd rfl (.inl rfl)) (pss_one (ps_if (pt_cmpR (op_neD hr.units)
      (pe_call GS (hr.mono (by decide)) (by rfl) T.g_sizes_of T.sizes_of.kp T.n_sizes_of .nil pass0 (pa_cons (pv 1) pa_nil))
      (pe_call GS (hr.mono (by decide)) (by rfl) T.g_sizes_of T.sizes_of.kp T.n_sizes_of .nil pass0 (pa_cons (pe_ix ix_tup (pv 0) pe_int (fun _ _ => rfl)) pa_nil)) (nomark _)) pss_never pss_nil))))), ?_⟩
  refine ⟨_, rfl, a, rfl, ⟨_, SqT.of ha⟩, for_tup (K := K) (a := a) (xs := (x0 :: r).map V.str) (fun i σ H' => ∃ v, σ = [some (.ref a), v] ∧ Same H H') ⟨none, rfl, Same.refl H⟩ (fun i σ H' _ ⟨v, _, s1⟩ => SqT.of (s1 _ _ ha)) ?_ ?_⟩
  · rintro i y σ H1 hi ⟨v, rfl, s1⟩
    obtain ⟨b, hb, rfl⟩ := get_str hi
    have hm : b ∈ x0 :: r := List.mem_of_getElem? hb
    exact ⟨_, rfl, b, rfl, (hf b hm).1.ok, fun H' s2 => ⟨_, rfl, s1.trans s2⟩⟩
  · rintro σ H1 ⟨v, rfl, s1⟩
    refine ⟨_, rfl, 1, rfl, a, _, rfl, SqT.of (s1 _ _ ha), ?_, fun p hp => ?_⟩
    · rintro ⟨h1, _⟩
      cases r with
      | nil => exact hr0 rfl
      | cons b r =>
        have h2 : min 1 (r.length + 1 + 1) = 0 := by
          rw [show ((1 : Int)) = ((1 : Nat) : Int) from rfl, HT.sIx_nat] at h1
          simpa using h1
        omega
    have s2 := s1.upd (o := .tup (cutV ((x0 :: r).map V.str) (some 1) none)) hp
    have ec : cutV ((x0 :: r).map V.str) (some 1) none = r.map V.str := by
      unfold cutV
      rw [HT.sIx_none, show (some (1 : Int)) = some ((1 : Nat) : Int) from rfl, HT.sIx_nat]
      have e1 : min 1 ((x0 :: r).map V.str).length = 1 := by simp
      rw [e1]
      show (r.map V.str).take _ = _
      rw [List.take_of_length_le]
      simp
    rw [ec] at s2 ⊢
    refine ⟨p, rfl, ⟨_, SqT.of upd_same⟩, for_tup (K := K) (a := p) (xs := r.map V.str) (fun i σ H' => ∃ v, σ = [some (.ref a), v] ∧ Same H H' ∧ H' p = some (.tup (r.map V.str))) ⟨v, rfl, s2, upd_same⟩ (fun i σ H' _ ⟨v, _, _, h⟩ => SqT.of h) ?_ ?_⟩
    · rintro i y σ H2 hi ⟨v, rfl, s3, hp3⟩
      obtain ⟨b, hb, rfl⟩ := get_str hi
      have hm : b ∈ x0 :: r := List.mem_cons_of_mem _ (List.mem_of_getElem? hb)
      obtain ⟨fb, eb⟩ := hf b hm
      obtain ⟨f0, _⟩ := hf x0 List.mem_cons_self
      refine ⟨_, rfl, b, rfl, fb.len, fb.many, fb.each, fun H3 q s4 hq0 hq => ?_⟩
      have ha3 := (s3.trans s4) _ _ ha
      refine ⟨_, rfl, a, _, 0, .str x0, rfl, rfl, SqT.of ha3, atI_nat (j := 0) rfl, x0, rfl, f0.len, f0.many, f0.each, fun H4 q2 s5 hq20 hq2 => ?_⟩
      have hq' := s5 _ _ hq
      refine ⟨.tuple ((sizesM b).map intD), .tuple ((sizesM x0).map intD), .tup (SqT.of hq') (dpAll_ints _), .tup (SqT.of hq2) (dpAll_ints _), (shaped_ints _).1, (shaped_ints _).1, _, rfl, ?_⟩
      rw [eb, eqv_ints]
      exact iteF ⟨_, rfl, (s3.trans s4).trans s5, (s4.trans s5) _ _ hp3⟩
    · rintro σ H2 ⟨v, rfl, s3, _⟩
      exact k H2 s3
/-! ### places_of -/
def placesV (x : Str) : List V := (placesM x).map natV
def spPlacesOf : Sp := fun vs H Q _ => ∃ x : Str, vs = [.str x] ∧ sz x ≤ 1000 ∧ ∀ H' p, Same H H' → H p = none → H' p = some (.lst (placesV x)) → Q (.ref p) H'
theorem sc_places_of : FnScope ["text", "at", "sign"] ["text"] (defScope sPlacesOf) := ⟨rfl, rfl, rfl, by decide +kernel, rfl, by decide +kernel, by decide +kernel⟩
theorem filter_succ {n : Nat} (p : Nat → Bool) : (List.range (n + 1)).filter p = (List.range n).filter p ++ (if p n = true then [n] else []) := by
  rw [List.range_succ, List.filter_append]
  congr 1
  rw [List.filter_cons, List.filter_nil]
theorem ok_places_of (T : Txt K mg) : FnOk P w K mg base CX0 5 (a_places_of K) (fdA K (a_places_of K)) ["text"] spPlacesOf := by
  refine FunD.ok T.places_of sc_places_of (fun vs H Q E h => ?_) (fun cdv A outer s H vs Q E hr h => ?_)
  · obtain ⟨x, rfl, _⟩ := h
    rfl
  · obtain ⟨x, rfl, hx, k⟩ := h
    have nd := sc_places_of.nd
    refine ⟨_, PSs.nox (pss_one (ps_ret (pe_lc (own := [("at", 1), ("sign", 2)]) (g := gTup K 2 (gCons (gName 1) (gCons (gName 2) gNil))) rfl nd (pi_enumS (by rfl) T.b_enumerate (pa_cons (pv 0) pa_nil)) (blkOk_by (N := ["text", "at", "sign"]) (sc := defScope sPlacesOf) (by decide +kernel))
      (fun _ _ _ _ _ => pg_tupK (K := K) rfl rfl (pgs_cons (pg_name (i := 1) nd rfl (Or.inl rfl)) (pgs_cons (pg_name (i := 2) nd rfl (Or.inl rfl)) pgs_nil))) (fun _ _ _ _ _ => pts_one (pt_cmpR op_ne (pv 2) pe_str (nomark _))) (fun _ _ _ _ _ => pv 1)))), ?_⟩
    refine ⟨_, rfl, x, rfl, fun D hD => ?_⟩
    refine lc_it walk_v (fun i H' => Same H H' ∧ H' D = some (.lst (((List.range i).filter fun j => cd x j ≠ 46).map natV))) ⟨(Same.refl H).upd hD, upd_same⟩ (fun _ _ _ _ => trivial) ?_ ?_
    · rintro i y H1 H2 hi ⟨s1, h1⟩ ⟨Tp, rfl, hT, rfl⟩
      rw [sz_eq] at hi
      have hTD : D ≠ Tp := ne_of_none h1 hT
      refine ⟨Tp, _, rfl, SqT.of upd_same, rfl, _, _, rfl, _, _, rfl, rfl, rfl, _, rfl, (by rw [sg_eq]; rfl), _, rfl, ?_⟩
      have s2 : Same H (upd H1 Tp (.tup (enS x i))) := s1.upd hT
      by_cases c : cd x i = 46
      · rw [show (!decide (sg x i = V.str ".")) = false from by rw [decide_eq_true (by rw [s_dot]; exact sg_is.mpr c)]; rfl]
        refine iteF ⟨s2, ?_⟩
        rw [upd_ne hTD, h1, filter_succ, if_neg (by simpa using c), List.append_nil]
      · rw [show (!decide (sg x i = V.str ".")) = true from by rw [decide_eq_false (by rw [s_dot]; exact fun q => c (sg_is.mp q))]; rfl]
        refine iteT ⟨_, rfl, _, by rw [upd_ne hTD]; exact h1, ?_, s2.updN hD, ?_⟩
        · rw [List.length_map]
          have := List.length_filter_le (fun j => decide (cd x j ≠ 46)) (List.range i)
          rw [List.length_range] at this
          exact small1000 (by omega)
        · rw [upd_same, filter_succ, if_pos (by simpa using c), List.map_append]
          rfl
    · rintro H1 ⟨s1, h1⟩
      rw [sz_eq] at h1
      exact k _ D s1 hD h1
end
end FB

/-! ## FBDef3 -/
set_option Elab.async false
set_option linter.all false
set_option maxRecDepth 100000
set_option maxHeartbeats 4000000
/-! bits_of_block, with_bits. -/
namespace FB
open PySem PySem.Spec PyProof.Rows L2
/-- sum(t), t a tuple of ints -/
def rSumT (K : PySem.W.Frag) : List V → Hp → VK → Prop := fun vs H Q => ∃ (a : Addr) (ns : List Int), vs = [.ref a] ∧ SqT K H a (ns.map V.int) ∧ Q (.int ns.sum) H
theorem cr_sumT {X : Cx} (hc : X.calm = true) : CallR X (.builtin "sum") (rSumT X.K) := by
  intro pins s σ H vs us Q I r h
  obtain ⟨a, ns, rfl, hs, q⟩ := h
  obtain ⟨its, rv, ht, _⟩ := I.tuple hs
  rw [Vals.ref1 r]
  obtain ⟨xs, hx⟩ := rv.ints.allInts.items
  have hn : numsOf its = ns := rv.ints.numsOf
  have ht2 : s.heap.IsTuple a (intItems xs) := by rw [← hx]; exact ht
  have hn2 : numsOf (intItems xs).toList = ns := by rw [← hx]; exact hn
  rw [nums_intItems] at hn2
  refine PySem.W.ktm_sumG (I.ok.hd hc) ht2 fun h' tk t' hk => ⟨.int ns.sum, H, I.kept hk, ⟨t', ?_⟩, q⟩
  rw [preSum_eq, List.take_of_length_le (by simp), hn2]
theorem natV_int (xs : List Nat) : xs.map natV = (xs.map fun n : Nat => (n : Int)).map V.int := by
  rw [List.map_map]
  rfl
theorem sum_cast : ∀ xs : List Nat, (xs.map fun n : Nat => (n : Int)).sum = ((xs.sum : Nat) : Int)
  | [] => rfl
  | x :: xs => by
    rw [List.map_cons, List.sum_cons, List.sum_cons, sum_cast xs]
    omega
/-- what a for walks: a list or a tuple -/
def iSeq (K : PySem.W.Frag) (te : TE) : TI := fun σ H R => te σ H fun x H1 => ∃ a, x = .ref a ∧ ((∃ xs, SqL K H1 a xs ∧ R (Itl K a) H1) ∨ ∃ xs, SqT K H1 a xs ∧ R (Itt K a) H1)
theorem pi_seq {X : Cx} {tg e : Expr} {te : TE} (he : PE X e te) : PI X tg e (iSeq X.K te) := by
  refine ⟨fun pins s σ H R I h => ?_⟩
  refine thn (he.run pins s σ H _ I h) fun v s1 ⟨x, H1, I1, r1, q1⟩ => ?_
  obtain ⟨a, rfl, q⟩ := q1
  cases r1
  rcases q with ⟨xs, hq, q⟩ | ⟨xs, hq, q⟩
  · obtain ⟨its, _, p, _⟩ := I1.list hq
    exact wpAny_pyIter_list p.isList (pi_one (tk := s1.toks) I1 _ (turn_list a _) ⟨_, Heap.get?_push_size _ rfl, rfl, rfl⟩ q)
  · obtain ⟨its, _, p, _⟩ := I1.tuple hq
    exact wpAny_pyIter_tuple (show s1.heap.IsTuple a its.toArray from p) (pi_one (tk := s1.toks) I1 _ (turn_tuple a _) ⟨_, Heap.get?_push_size _ rfl, rfl, rfl⟩ q)
section
variable {P : Program} {w : World} {K : PySem.W.Frag} {mg : Str → Option Value} {base : Heap}
/-! ### bits_of_block -/
def spBitsOf : Sp := fun vs H Q _ => ∃ (x : Str) (b : Nat), vs = [.str x, .int b] ∧ Fit x ∧ b < (sizesM x).length ∧ firstM x b + (sizesM x).getD b 0 ≤ 1000 ∧ ∀ H' p, Same H H' → H p = none → H' p = some (.lst ((blockBitsM x b).map natV)) → Q (.ref p) H'
theorem sc_bits_of_block : FnScope ["text", "block", "sizes", "first"] ["text", "block"] (defScope sBitsOfBlock) := ⟨rfl, rfl, rfl, by decide +kernel, rfl, by decide +kernel, by decide +kernel⟩
theorem cut_take {xs : List V} {b : Nat} (h : b ≤ xs.length) : cutV xs none (some (b : Int)) = xs.take b := by
  unfold cutV
  rw [HT.sIx_none, HT.sIx_nat, Nat.min_eq_left h, List.drop_zero, Nat.sub_zero]
theorem rgV_bits (f n : Nat) : rgV (f : Int) ((f : Int) + (n : Int)) = ((List.range n).map (f + ·)).map natV := by
  unfold rgV
  rw [show ((f : Int) + (n : Int) - (f : Int)).toNat = n by omega, List.map_map]
  refine List.map_congr_left fun i _ => ?_
  show V.int ((f : Int) + (i : Int)) = V.int (((f + i : Nat) : Int))
  congr 1
theorem ok_bits_of_block (T : Txt K mg) : FnOk P w K mg base CX0 10 (a_bits_of_block K) (fdA K (a_bits_of_block K)) ["text", "block"] spBitsOf := by
  refine FunD.ok T.bits_of_block sc_bits_of_block (fun vs H Q E h => ?_) (fun cdv A outer s H vs Q E hr h => ?_)
  · obtain ⟨x, b, rfl, _⟩ := h
    rfl
  · obtain ⟨x, b, rfl, fx, hb, hlt, k⟩ := h
    have nd := sc_bits_of_block.nd
    have GS := ok_sizes_of (P := P) (w := w) (base := base) T
    refine ⟨_, PSs.nox (pss_cons (ps_set (i := 2) nd rfl (.inl rfl) (pe_call GS (hr.mono (by decide)) (by rfl) T.g_sizes_of T.sizes_of.kp T.n_sizes_of .nil pass0 (pa_cons (pv 0) pa_nil)))
      (pss_cons (ps_set (i := 3) nd rfl (.inl rfl) (pe_callB (cr_sumT rfl) (by rfl) T.b_sum bt_sum (pa_cons (pe_slice sl_tup (pv 2) po_none (po_some (pv 1))) pa_nil)))
      (pss_one (ps_ret (pe_listRg rfl (by rfl) T.b_list (prg_2 (by rfl) T.b_range (pv 3) (pe_op op_add (pv 3) (pe_ix ix_tup (pv 2) (pv 1) (fun _ _ => rfl))))))))), ?_⟩
    refine ⟨_, rfl, x, rfl, fx.len, fx.many, fx.each, fun H1 p s1 hp0 hp => ?_⟩
    have hl : (sizesV x).length = (sizesM x).length := by unfold sizesV; rw [List.length_map]
    refine ⟨_, rfl, _, rfl, _, rfl, p, _, rfl, SqT.of hp, ?_, fun q hq => ?_⟩
    · rintro ⟨_, h2⟩
      rw [HT.sIx_nat, hl] at h2
      omega
    rw [cut_take (by rw [hl]; omega)]
    have e1 : (sizesV x).take b = (((sizesM x).take b).map fun n : Nat => (n : Int)).map V.int := by
      unfold sizesV
      rw [← List.map_take, natV_int]
    rw [e1]
    refine ⟨q, _, rfl, SqT.of upd_same, ?_⟩
    rw [sum_cast]
    have hpq : p ≠ q := ne_of_none hp hq
    have hp2 : upd H1 q (.tup ((((sizesM x).take b).map fun n : Nat => (n : Int)).map V.int)) p = some (.tup (sizesV x)) := by rw [upd_ne hpq]; exact hp
    have hat : atI (sizesV x) (b : Int) = some (natV ((sizesM x).getD b 0)) := by
      refine atI_nat ?_
      unfold sizesV
      rw [List.getElem?_map, List.getElem?_eq_getElem hb, List.getD_eq_getElem?_getD, List.getElem?_eq_getElem hb]
      rfl
    refine ⟨_, rfl, _, rfl, _, rfl, _, rfl, p, _, _, _, rfl, rfl, SqT.of hp2, hat, _, _, rfl, rfl, _, _, rfl, rfl, ?_, fun l hl2 => ?_⟩
    · show RgOk ((firstM x b : Nat) : Int) (((firstM x b : Nat) : Int) + (((sizesM x).getD b 0 : Nat) : Int))
      refine ⟨?_, ?_, ?_, ?_, ?_⟩ <;> omega
    · refine k _ l ((s1.upd hq).upd hl2) ((s1.upd hq).free hl2) ?_
      rw [upd_same]
      show some (HO.lst (rgV ((firstM x b : Nat) : Int) (((firstM x b : Nat) : Int) + (((sizesM x).getD b 0 : Nat) : Int)))) = _
      rw [rgV_bits]
      rfl
/-! ### with_bits -/
def setM (x : Str) (s : Str) (l : List Str) (b : Nat) : List Str := l.set ((placesM x).getD b 0) s
def spWith : Sp := fun vs H Q _ => ∃ (x s : Str) (a : Addr) (bs : List Nat), vs = [.str x, .ref a, .str s] ∧ (H a = some (.tup (bs.map natV)) ∨ H a = some (.lst (bs.map natV))) ∧ sz x ≤ 1000 ∧ (∀ b ∈ bs, b < (placesM x).length) ∧ s.length ≤ 1 ∧ ∀ H', Same H H' → Q (.str (withM x bs s)) H'
theorem sc_with_bits : FnScope ["text", "bits", "sign", "signs", "places", "bit"] ["text", "bits", "sign"] (defScope sWithBits) := ⟨rfl, rfl, rfl, by decide +kernel, rfl, by decide +kernel, by decide +kernel⟩
theorem set_len (x s : Str) : ∀ (bs : List Nat) (l : List Str), (bs.foldl (setM x s) l).length = l.length
  | [], l => rfl
  | b :: bs, l => by
    rw [List.foldl_cons, set_len x s bs]
    unfold setM
    rw [List.length_set]
theorem set_small {x s : Str} (hs : s.length ≤ 1) : ∀ (bs : List Nat) (l : List Str), (∀ y ∈ l, y.length ≤ 1) → ∀ y ∈ bs.foldl (setM x s) l, y.length ≤ 1
  | [], l, h => h
  | b :: bs, l, h => by
    rw [List.foldl_cons]
    refine set_small hs bs _ fun y hy => ?_
    unfold setM at hy
    rcases List.mem_or_eq_of_mem_set hy with q | q
    · exact h y q
    · rw [q]; exact hs
theorem sum_small : ∀ (l : List Str), (∀ y ∈ l, y.length ≤ 1) → (l.map (·.length)).sum ≤ l.length
  | [], _ => Nat.le_refl _
  | y :: l, h => by
    have h1 := h y List.mem_cons_self
    have h2 := sum_small l fun z hz => h z (List.mem_cons_of_mem _ hz)
    rw [List.map_cons, List.sum_cons, List.length_cons]
    omega
theorem signs_V (x : Str) : (List.range x.cps.size).map (sg x) = (signsM x).map V.str := by
  unfold signsM
  rw [sz_eq, List.map_map]
  exact List.map_congr_left fun i _ => sg_eq x i
theorem foldl_take_succ {α β : Type} {f : β → α → β} {xs : List α} {i : Nat} {x : α} (h : xs[i]? = some x) (l : β) : (xs.take (i + 1)).foldl f l = f ((xs.take i).foldl f l) x := by
  rw [List.take_add_one, h, List.foldl_append]
  rfl
theorem get_nat {xs : List Nat} {i : Nat} {y : V} (h : (xs.map natV)[i]? = some y) : ∃ b, xs[i]? = some b ∧ y = natV b := by
  rw [List.getElem?_map] at h
  cases e : xs[i]? with
  | none => rw [e] at h; cases h
  | some b => rw [e] at h; exact ⟨b, rfl, (Option.some.inj h).symm⟩
theorem places_lt {x : Str} {b : Nat} (h : b < (placesM x).length) : (placesM x).getD b 0 < sz x := by
  have hm : (placesM x).getD b 0 ∈ placesM x := by
    rw [List.getD_eq_getElem?_getD, List.getElem?_eq_getElem h]
    exact List.getElem_mem h
  unfold placesM at hm
  exact List.mem_range.mp (List.mem_filter.mp hm).1
/-- behind i of the bits -/
def WInv (x z : Str) (a l pl : Addr) (bs : List Nat) (H : Hp) (i : Nat) : L2.St → Hp → Prop := fun σ H' => ∃ v : Option V, σ = [some (V.str x), some (V.ref a), some (V.str z), some (V.ref l), some (V.ref pl), v] ∧ Same H H' ∧
  H' l = some (.lst (((bs.take i).foldl (setM x z) (signsM x)).map V.str)) ∧ H' pl = some (.lst (placesV x))
theorem WInv.same {x z : Str} {a l pl : Addr} {bs : List Nat} {H H' : Hp} {i : Nat} {σ : L2.St} (h : WInv x z a l pl bs H i σ H') : Same H H' := by
  obtain ⟨_, _, s, _⟩ := h
  exact s
theorem turn_with {x z : Str} {a l pl : Addr} {bs : List Nat} {H H' : Hp} {i : Nat} {σ : L2.St} {y : V} {D : Ends} (hbs : ∀ b ∈ bs, b < (placesM x).length) (hl : H l = none) (hlp : l ≠ pl) (hi : (bs.map natV)[i]? = some y) (h : WInv x z a l pl bs H i σ H')
    (fin : ∀ σ2 H3, WInv x z a l pl bs H (i + 1) σ2 H3 → D.nx σ2 H3) : gName 5 y σ H' fun σ2 H3 => tAsg (tVar 2) (gSub (tVar 3) (tOp (rIxL K) (tVar 4) (tVar 5)) rSetL) D σ2 H3 := by
  obtain ⟨v, rfl, s3, h1, h2⟩ := h
  obtain ⟨b, hb, rfl⟩ := get_nat hi
  have hbl := hbs b (List.mem_of_getElem? hb)
  have hat : atI (placesV x) (b : Int) = some (natV ((placesM x).getD b 0)) := by
    refine atI_nat ?_
    unfold placesV
    rw [List.getElem?_map, List.getElem?_eq_getElem hbl, List.getD_eq_getElem?_getD, List.getElem?_eq_getElem hbl]
    rfl
  have hlen : (((bs.take i).foldl (setM x z) (signsM x)).map V.str).length = sz x := by
    rw [List.length_map, set_len]
    unfold signsM
    rw [List.length_map, List.length_range]
  have hix : ixN (((bs.take i).foldl (setM x z) (signsM x)).map V.str).length (((placesM x).getD b 0 : Nat) : Int) = some ((placesM x).getD b 0) := by
    rw [hlen]
    unfold ixN
    rw [if_pos (by omega), if_pos (by have := places_lt hbl; omega), Int.toNat_natCast]
  refine ⟨_, rfl, _, rfl, _, rfl, _, rfl, pl, _, _, _, rfl, rfl, SqL.of h2, hat, l, _, _, _, rfl, rfl, h1, hix, fin _ _ ⟨_, rfl, s3.updN hl, ?_, ?_⟩⟩
  · rw [upd_same, foldl_take_succ hb]
    show some (HO.lst ((((bs.take i).foldl (setM x z) (signsM x)).map V.str).set ((placesM x).getD b 0) (V.str z))) = _
    unfold setM
    rw [List.map_set]
  · rw [upd_ne (Ne.symm hlp)]
    exact h2
theorem ok_with_bits (T : Txt K mg) : FnOk P w K mg base CX0 8 (a_with_bits K) (fdA K (a_with_bits K)) ["text", "bits", "sign"] spWith := by
  refine FunD.ok T.with_bits sc_with_bits (fun vs H Q E h => ?_) (fun cdv A outer s H vs Q E hr h => ?_)
  · obtain ⟨x, z, a, bs, rfl, _⟩ := h
    rfl
  · obtain ⟨x, z, a, bs, rfl, ha, hx, hbs, hz, k⟩ := h
    have nd := sc_with_bits.nd
    have GP := ok_places_of (P := P) (w := w) (base := base) T
    refine ⟨_, PSs.nox (pss_cons (ps_set (i := 3) nd rfl (.inl rfl) (pe_callTy (call_listS rfl) (by rfl) T.b_list bt_list (pa_cons (pv 0) pa_nil)))
        (pss_cons (ps_set (i := 4) nd rfl (.inl rfl) (pe_call GP (hr.mono (by decide)) (by rfl) T.g_places_of T.places_of.kp T.n_places_of .nil pass0 (pa_cons (pv 0) pa_nil)))
        (pss_cons (ps_for PassesOwn.never rfl (pi_seq (pv 1)) (pg_name (i := 5) nd rfl (.inl rfl)) (pss_one (ps_asg (pv 2) (pg_sub (pv 3) (pe_ix ix_list (pv 4) (pv 5) (fun _ _ => rfl)) set_list))))
        (pss_one (ps_ret (pe_join pe_str (pv 3))))))), ?_⟩
    refine ⟨_, rfl, x, rfl, ?_, fun l hl => ?_⟩
    · rw [sz_eq, sizeLine_eq]
      omega
    have s1 : Same H (upd H l (.lst ((List.range x.cps.size).map (sg x)))) := (Same.refl H).upd hl
    refine ⟨_, rfl, x, rfl, hx, fun H2 pl s2 hpl0 hpl => ?_⟩
    have hlp : l ≠ pl := fun q => by rw [← q, upd_same] at hpl0; cases hpl0
    have hl2 : H2 l = some (.lst ((signsM x).map V.str)) := by rw [← signs_V]; exact s2 _ _ upd_same
    have w0 : WInv x z a l pl bs H 0 [some (.str x), some (.ref a), some (.str z), some (.ref l), some (.ref pl), none] H2 := ⟨none, rfl, s1.trans s2, hl2, hpl⟩
    have fin : ∀ σ H', WInv x z a l pl bs H (bs.map natV).length σ H' → tRet (tM1 (fun x xs H Q => ∃ a p, ∃ ys : List Str, x = .str a ∧ xs = [.ref p] ∧ (SqL K H p (ys.map V.str) ∨ SqT K H p (ys.map V.str)) ∧ (ys.map (·.length)).sum + ys.length * a.length ≤ 16777216 ∧ Q (.str (Txt.join a ys)) H) (tC (.str "")) (tVar 3)) { nx := fun _ H' => Q .non H', rt := Q } σ H' := by
      rintro σ H' ⟨v, rfl, s3, h1, h2⟩
      rw [List.length_map, List.take_length] at h1
      refine ⟨⟨_, rfl⟩, _, rfl, _, l, _, rfl, rfl, .inl (SqL.of h1), ?_, k H' s3⟩
      have e1 := set_len x z bs (signsM x)
      have e2 : (signsM x).length = sz x := by unfold signsM; rw [List.length_map, List.length_range]
      have e3 := sum_small (bs.foldl (setM x z) (signsM x)) (set_small hz bs (signsM x) fun y hy => by
        unfold signsM at hy
        obtain ⟨i, _, rfl⟩ := List.mem_map.mp hy
        exact Nat.le_refl 1)
      show _ + (bs.foldl (setM x z) (signsM x)).length * ("" : Str).length ≤ 16777216
      rw [show ("" : Str).length = 0 from rfl, Nat.mul_zero]
      omega
    rcases ha with ha | ha
    · exact ⟨_, rfl, a, rfl, .inr ⟨_, SqT.of (s2 _ _ (s1 _ _ ha)), for_tup (K := K) (a := a) (xs := bs.map natV) (WInv x z a l pl bs H) w0 (fun i σ H' _ h => SqT.of (h.same _ _ ha)) (fun i y σ H' hi h => by refine turn_with hbs hl hlp hi h ?_; exact fun _ _ q => q) fin⟩⟩
    · exact ⟨_, rfl, a, rfl, .inl ⟨_, SqL.of (s2 _ _ (s1 _ _ ha)), for_list (K := K) (a := a) (xs := bs.map natV) (WInv x z a l pl bs H) w0 (fun i σ H' _ h => SqL.of (h.same _ _ ha)) (fun i y σ H' hi h => by refine turn_with hbs hl hlp hi h ?_; exact fun _ _ q => q) fin⟩⟩
end
end FB

/-! ## FBDef4 -/
set_option Elab.async false
set_option linter.all false
set_option maxRecDepth 100000
set_option maxHeartbeats 4000000
/-! Pattern: sizes, need_like, lies_in, __init__, <=. -/
namespace FB
open PySem PySem.Spec PyProof.Rows L2
section
variable {P : Program} {w : World} {K : PySem.W.Frag} {mg : Str → Option Value} {base : Heap}
/-- at a: a Pattern that has the text x written -/
def PatA (K : PySem.W.Frag) (H : Hp) (a : Addr) (x : Str) : Prop := ∃ dx fs, H a = some (.ins (He.ga K "Pattern") dx fs) ∧ fs.lookup ("written" : Str) = some (V.str x)
theorem PatA.same {H H' : Hp} {a : Addr} {x : Str} (h : PatA K H a x) (s : Same H H') : PatA K H' a x := by
  obtain ⟨dx, fs, h1, h2⟩ := h
  exact ⟨dx, fs, s _ _ h1, h2⟩
/-! ### the property sizes -/
def spPSizes (K : PySem.W.Frag) : Sp := fun vs H Q _ => ∃ (a : Addr) (x : Str), vs = [.ref a] ∧ PatA K H a x ∧ Fit x ∧ ∀ H' p, Same H H' → H p = none → H' p = some (.tup (sizesV x)) → Q (.ref p) H'
theorem sc_p_sizes : FnScope ["self"] ["self"] (defScope sPSizes) := ⟨rfl, rfl, rfl, by decide +kernel, rfl, by decide +kernel, by decide +kernel⟩
theorem ok_p_sizes (T : Txt K mg) : FnOk P w K mg base CX0 6 (a_p_sizes K) (fdA K (a_p_sizes K)) ["self"] (spPSizes K) := by
  refine FunD.ok T.p_sizes sc_p_sizes (fun vs H Q E h => ?_) (fun cdv A outer s H vs Q E hr h => ?_)
  · obtain ⟨a, x, rfl, _⟩ := h
    rfl
  · obtain ⟨a, x, rfl, ⟨dx, fs, ha, hl⟩, fx, k⟩ := h
    refine ⟨_, PSs.nox (pss_one (ps_ret (pe_call (ok_sizes_of T) (hr.mono (by decide)) (by rfl) T.g_sizes_of T.sizes_of.kp T.n_sizes_of .nil pass0 (pa_cons (pe_fld (pv 0) rfl) pa_nil)))), ?_⟩
    exact ⟨_, rfl, a, _, dx, fs, _, rfl, ha, T.cP, He.noat_ok T.f_nPw, hl, x, rfl, fx.len, fx.many, fx.each, k⟩
/-! ### need_like -/
def spTwo (K : PySem.W.Frag) (k : Str → Str → Hp → (Hp → Prop) → VK → Prop) : Sp := fun vs H Q _ => ∃ (a b : Addr) (x y : Str), vs = [.ref a, .ref b] ∧ PatA K H a x ∧ PatA K H b y ∧ Fit x ∧ Fit y ∧ sizesM x = sizesM y ∧ k x y H (fun H' => Same H H') Q
def spNeedLike (K : PySem.W.Frag) : Sp := spTwo K fun _ _ _ S Q => ∀ H', S H' → Q .non H'
theorem sc_need_like : FnScope ["one", "other"] ["one", "other"] (defScope sNeedLike) := ⟨rfl, rfl, rfl, by decide +kernel, rfl, by decide +kernel, by decide +kernel⟩
theorem ok_need_like (T : Txt K mg) : FnOk P w K mg base CX0 8 (a_need_like K) (fdA K (a_need_like K)) ["one", "other"] (spNeedLike K) := by
  refine FunD.ok T.need_like sc_need_like (fun vs H Q E h => ?_) (fun cdv A outer s H vs Q E hr h => ?_)
  · obtain ⟨a, b, x, y, rfl, _⟩ := h
    rfl
  · obtain ⟨a, b, x, y, rfl, pa, pb, fx, fy, e, k⟩ := h
    have GS := ok_p_sizes (P := P) (w := w) (base := base) T
    refine ⟨_, PSs.nox (pss_one (ps_if (pt_cmpR (op_neD hr.units)
      (pe_prop (pv 0) T.cP T.pSizes GS (hr.mono (by decide)) T.n_p_sizes .nil pass0 rfl)
      (pe_prop (pv 1) T.cP T.pSizes GS (hr.mono (by decide)) T.n_p_sizes .nil pass0 rfl) (nomark _)) pss_never pss_nil)), ?_⟩
    obtain ⟨dx, fs, ha, hl⟩ := pa
    refine ⟨_, rfl, a, dx, fs, rfl, ha, a, x, rfl, ⟨dx, fs, ha, hl⟩, fx, fun H1 p s1 hp0 hp => ?_⟩
    obtain ⟨dy, gs, hb, hm⟩ := pb.same s1
    refine ⟨_, rfl, b, dy, gs, rfl, hb, b, y, rfl, ⟨dy, gs, hb, hm⟩, fy, fun H2 q s2 hq0 hq => ?_⟩
    refine ⟨.tuple ((sizesM x).map intD), .tuple ((sizesM y).map intD), .tup (SqT.of (s2 _ _ hp)) (dpAll_ints _), .tup (SqT.of hq) (dpAll_ints _), (shaped_ints _).1, (shaped_ints _).1, _, rfl, ?_⟩
    rw [e, eqv_ints]
    exact iteF (k H2 (s1.trans s2))
/-! ### lies_in -/
def spLiesIn (K : PySem.W.Frag) : Sp := spTwo K fun x y _ S Q => ∀ H', S H' → Q (.bl (liesM x y)) H'
theorem sc_lies_in : FnScope ["one", "other", "a", "b"] ["one", "other"] (defScope sLiesIn) := ⟨rfl, rfl, rfl, by decide +kernel, rfl, by decide +kernel, by decide +kernel⟩
theorem lies_eq (x y : Str) : ((((List.range (min (sz x) (sz y))).filter fun j => cd x j = 49).map fun j => decide (cd y j = 49)).all id) = liesM x y := by
  unfold liesM liesL
  rw [List.all_map, List.all_filter]
  refine congrArg (List.all _) (funext fun j => ?_)
  show (!(decide (cd x j = 49)) || id (decide (cd y j = 49))) = (cd x j != 49 || cd y j == 49)
  by_cases h : cd x j = 49 <;> by_cases h2 : cd y j = 49 <;> simp [h, h2]
theorem min_sz (x y : Str) : min x.cps.size y.cps.size = min (sz x) (sz y) := by rw [sz_eq, sz_eq]
theorem ok_lies_in (T : Txt K mg) : FnOk P w K mg base CX0 10 (a_lies_in K) (fdA K (a_lies_in K)) ["one", "other"] (spLiesIn K) := by
  refine FunD.ok T.lies_in sc_lies_in (fun vs H Q E h => ?_) (fun cdv A outer s H vs Q E hr h => ?_)
  · obtain ⟨a, b, x, y, rfl, _⟩ := h
    rfl
  · obtain ⟨a, b, x, y, rfl, pa, pb, fx, fy, e, k⟩ := h
    have nd := sc_lies_in.nd
    have GL := ok_need_like (P := P) (w := w) (base := base) T
    refine ⟨_, PSs.nox (pss_cons (ps_expr (pe_call GL (hr.mono (by decide)) (by rfl) T.g_need_like T.need_like.kp T.n_need_like .nil pass0 (pa_cons (pv 0) (pa_cons (pv 1) pa_nil))))
      (pss_one (ps_ret (pe_callB (cr_all rfl) (by rfl) T.b_all bt_all (pa_cons
        (pe_lc (own := [("a", 2), ("b", 3)]) (g := gTup K 2 (gCons (gName 2) (gCons (gName 3) gNil))) rfl nd (pi_zipS (by rfl) T.b_zip (pa_cons (pe_fld (pv 0) rfl) (pa_cons (pe_fld (pv 1) rfl) pa_nil))) (blkOk_by (N := ["one", "other", "a", "b"]) (sc := defScope sLiesIn) (by decide +kernel))
          (fun _ _ _ _ _ => pg_tupK (K := K) rfl rfl (pgs_cons (pg_name (i := 2) nd rfl (Or.inl rfl)) (pgs_cons (pg_name (i := 3) nd rfl (Or.inl rfl)) pgs_nil))) (fun _ _ _ _ _ => pts_one (pt_cmpR op_eq (pv 2) pe_str (nomark _))) (fun _ _ _ _ _ => pe_cmpR op_eq (pv 3) pe_str (nomark _))) pa_nil))))), ?_⟩
    refine ⟨_, rfl, _, rfl, a, b, x, y, rfl, pa, pb, fx, fy, e, fun H1 s1 => ?_⟩
    obtain ⟨dx, fs, ha, hl⟩ := pa.same s1
    obtain ⟨dy, gs, hb, hm⟩ := pb.same s1
    refine ⟨_, rfl, a, _, dx, fs, _, rfl, ha, T.cP, He.noat_ok T.f_nPw, hl, _, rfl, b, _, dy, gs, _, rfl, hb, T.cP, He.noat_ok T.f_nPw, hm, x, y, rfl, fun D hD => ?_⟩
    rw [min_sz]
    refine lc_it walk_v (fun i H' => Same H1 H' ∧ H' D = some (.lst ((((List.range i).filter fun j => cd x j = 49).map fun j => decide (cd y j = 49)).map V.bl))) ⟨(Same.refl H1).upd hD, upd_same⟩ (fun _ _ _ _ => trivial) ?_ ?_
    · rintro i z H2 H3 hi ⟨s2, h1⟩ ⟨Tp, rfl, hT, rfl⟩
      have hTD : D ≠ Tp := ne_of_none h1 hT
      have s3 : Same H1 (upd H2 Tp (.tup (zpS x y i))) := s2.upd hT
      refine ⟨Tp, _, rfl, SqT.of upd_same, rfl, _, _, rfl, _, _, rfl, rfl, rfl, _, rfl, (by rw [sg_eq]; rfl), _, rfl, ?_⟩
      by_cases c : cd x i = 49
      · rw [show decide (sg x i = V.str "1") = true from decide_eq_true (by rw [s_1]; exact sg_is.mpr c)]
        refine iteT ⟨_, rfl, (by rw [sg_eq]; rfl), _, by rw [upd_ne hTD]; exact h1, ?_, s3.updN hD, ?_⟩
        · rw [List.length_map, List.length_map]
          have := List.length_filter_le (fun j => decide (cd x j = 49)) (List.range i)
          rw [List.length_range] at this
          have := fx.len
          exact small1000 (by omega)
        · rw [upd_same, filter_succ, if_pos (by simpa using c), List.map_append, List.map_append, show decide (sg y i = V.str "1") = decide (cd y i = 49) from decide_eq_decide.mpr (by rw [s_1]; exact sg_is)]
          rfl
      · rw [show decide (sg x i = V.str "1") = false from decide_eq_false (by rw [s_1]; exact fun q => c (sg_is.mp q))]
        refine iteF ⟨s3, ?_⟩
        rw [upd_ne hTD, h1, filter_succ, if_neg (by simpa using c), List.append_nil]
    · rintro H2 ⟨s2, h1⟩
      refine ⟨D, _, rfl, SqL.of h1, ?_⟩
      rw [lies_eq]
      exact k H2 (s1.trans s2)
/-! ### __init__ -/
/-- all but a stands -/
def SameBut (H H' : Hp) (a : Addr) : Prop := ∀ b o, b ≠ a → H b = some o → H' b = some o
def spPInit (K : PySem.W.Frag) : Sp := fun vs H Q _ => ∃ (a dx : Addr) (x : Str), vs = [.ref a, .str x] ∧ H a = some (.ins (He.ga K "Pattern") dx []) ∧ Fit x ∧ ∀ H', SameBut H H' a → PatA K H' a x → Q .non H'
theorem ps_fldT {X : Cx} {o value : Expr} {f : Str} {pos pos' : Pos} {ta tv : TE} (ha : PE X o ta) (hv : PET X value tv) (hs : swapsWith value (some (.Attribute o f pos')) pos.line X.env = pure false) : PST X (.Assign [.Attribute o f pos'] value pos) (sFld X.K ta tv f) := by
  intro pins s σ H D h0 I h
  refine plainObj_wpAny_Assign_Attribute (thn (hv pins s σ H _ h0 I h) fun u s1 ⟨y, H1, I1, ry, q⟩ => thn (ha.run pins s1 σ H1 _ I1 q) fun ov s2 ⟨x, H2, I2, rx, a, C, dx, fs, ex, ea, c, n, l, q2⟩ => ?_) hs
  subst ex
  obtain rfl : ov = Value.ref a := rx
  exact setattr_ok I2 ea c n l ry fun s3 I3 => ⟨σ, _, I3, q2⟩
theorem sc_p_init : FnScope ["self", "text"] ["self", "text"] (defScope sPInit) := ⟨rfl, rfl, rfl, by decide +kernel, rfl, by decide +kernel, by decide +kernel⟩
theorem ok_p_init (T : Txt K mg) : FnOk P w K mg base CX0 8 (a_p_init K) (fdA K (a_p_init K)) ["self", "text"] (spPInit K) := by
  obtain ⟨oc, od, dV, kV, doc, pm, an, cdv, ct, osl, e, lk, hcd, _, _⟩ := T.p_init.ex
  rw [e] at lk ⊢
  refine fn_ofT lk hcd sc_p_init (by decide +kernel) (by decide) (fun vs H Q E h => ?_) (fun A outer s H vs Q E hr h => ?_)
  · obtain ⟨a, dx, x, rfl, _⟩ := h
    rfl
  · obtain ⟨a, dx, x, rfl, ha, fx, k⟩ := h
    have GP := ok_need_pattern (P := P) (w := w) (base := base) T
    refine ⟨_, psst_cons (PST.of (ps_expr (pe_call GP (hr.mono (by decide)) (by rfl) T.g_need_pattern T.need_pattern.kp T.n_need_pattern .nil pass0 (pa_cons (pv 1) pa_nil))))
      (psst_cons (PST.of (ps_fld (pv 0) (pv 1) rfl)) (CwR.psst_one (ps_fldT (pv 0) (CwR.pet_replC (pv 1)) rfl))), ?_⟩
    refine ⟨_, rfl, x, rfl, fx.ok, fun H1 s1 => ?_⟩
    refine ⟨_, rfl, _, rfl, a, _, dx, _, rfl, s1 _ _ ha, T.cP, He.noat_ok T.f_nPw, by decide, ?_⟩
    refine ⟨_, rfl, x, rfl, ?_, _, rfl, a, _, dx, _, rfl, upd_same, T.cP, He.noat_ok T.f_nPs, Nat.lt_of_le_of_lt (length_putF _ _ _) (by decide), ?_⟩
    · have := fx.len
      have e : x.length = sz x := sz_eq x
      rw [show ("" : Str).length = 0 from rfl, Nat.mul_zero]
      omega
    · refine k _ (fun b o hb ho => ?_) ⟨dx, _, upd_same, ?_⟩
      · rw [upd_ne hb, upd_ne hb]
        exact s1 _ _ ho
      · rw [lookup_putF, if_neg (by decide), lookup_putF, if_pos rfl]
end
end FB

/-! ## FBDef5 -/
set_option Elab.async false
set_option linter.all false
set_option maxRecDepth 100000
set_option maxHeartbeats 4000000
/-! Pattern.__le__; changed, in_box. -/
namespace FB
open PySem PySem.Spec PyProof.Rows L2
theorem pi_listK {X : Cx} {K : PySem.W.Frag} {tg l : Expr} {tl : TE} (e : X.K = K) (h : PE X l tl) : PI X tg l (iList K tl) := by
  subst e
  exact pi_list h
section
variable {P : Program} {w : World} {K : PySem.W.Frag} {mg : Str → Option Value} {base : Heap}
theorem Txt.m_mc (T : Txt K mg) : ∃ t, mg "MOST_CHANGED" = some (.int 10 t) := by
  obtain ⟨h, X, G⟩ := T.here
  exact He.int_ok X G T.f_mc
theorem Txt.m_ms (T : Txt K mg) : ∃ t, mg "MOST_STANDING" = some (.int 10 t) := by
  obtain ⟨h, X, G⟩ := T.here
  exact He.int_ok X G T.f_ms
/-! ### Pattern.__le__ -/
theorem sc_p_le : FnScope ["self", "other"] ["self", "other"] (defScope sPLe) := ⟨rfl, rfl, rfl, by decide +kernel, rfl, by decide +kernel, by decide +kernel⟩
theorem ok_p_le (T : Txt K mg) : FnOk P w K mg base CX0 11 (a_p_le K) (fdA K (a_p_le K)) ["self", "other"] (spLiesIn K) := by
  refine FunD.ok T.p_le sc_p_le (fun vs H Q E h => ?_) (fun cdv A outer s H vs Q E hr h => ?_)
  · obtain ⟨a, b, x, y, rfl, _⟩ := h
    rfl
  · obtain ⟨a, b, x, y, rfl, k⟩ := h
    refine ⟨_, PSs.nox (pss_one (ps_ret (pe_call (ok_lies_in T) (hr.mono (by decide)) (by rfl) T.g_lies_in T.lies_in.kp T.n_lies_in .nil pass0 (pa_cons (pv 0) (pa_cons (pv 1) pa_nil))))), ?_⟩
    exact ⟨_, rfl, _, rfl, a, b, x, y, rfl, k⟩
/-! ### need_patterns, as its callers see it -/
def spNPs (K : PySem.W.Frag) : Sp := fun vs H Q E => ∃ ws rest, vs = ws ++ rest ∧ ws.length = ([] : List Str).length ∧ rest.length ≤ sizeLine ∧ ∀ p, H p = Option.none → spNP K (ws ++ [V.ref p]) (upd H p (.tup rest)) Q E
theorem rd_np {H : Hp} {xs : List Str} {Q : VK} {E : XK} (x0 : Str) (r : List Str) (hx : xs = x0 :: r) (hr : r ≠ []) (hl : xs.length ≤ 10) (hf : ∀ x ∈ xs, Fit x ∧ sizesM x = sizesM x0) (k : ∀ H', Same H H' → Q .non H') : spNPs K (xs.map V.str) H Q E :=
  ⟨[], xs.map V.str, rfl, rfl, by rw [List.length_map, sizeLine_eq]; omega, fun p hp => ⟨p, xs, x0, r, rfl, hx, hr, upd_same, hf, fun H' s => k H' (((Same.refl H).upd hp).trans s)⟩⟩
theorem two_fit {x y : Str} (fx : Fit x) (fy : Fit y) (e : sizesM x = sizesM y) : ∀ z ∈ [x, y], Fit z ∧ sizesM z = sizesM x := by
  intro z hz
  rcases List.mem_cons.mp hz with rfl | hz
  · exact ⟨fx, rfl⟩
  · rcases List.mem_cons.mp hz with rfl | hz
    · exact ⟨fy, e.symm⟩
    · cases hz
/-! ### changed -/
def spChanged : Sp := fun vs H Q _ => ∃ x y : Str, vs = [.str x, .str y] ∧ sz x ≤ 1000 ∧ ∀ H', Same H H' → Q (.int (changedM x y)) H'
theorem sc_changed : FnScope ["one", "other", "a", "b"] ["one", "other"] (defScope sChanged) := ⟨rfl, rfl, rfl, by decide +kernel, rfl, by decide +kernel, by decide +kernel⟩
theorem sg_eq_sg {x y : Str} {i : Nat} : (sg x i = sg y i) ↔ cd x i = cd y i := by
  rw [sg_eq y i]
  unfold sg1
  exact sg_is
theorem ok_changed (T : Txt K mg) : FnOk P w K mg base CX0 5 (a_changed K) (fdA K (a_changed K)) ["one", "other"] spChanged := by
  refine FunD.ok T.changed sc_changed (fun vs H Q E h => ?_) (fun cdv A outer s H vs Q E hr h => ?_)
  · obtain ⟨x, y, rfl, _⟩ := h
    rfl
  · obtain ⟨x, y, rfl, hx, k⟩ := h
    have nd := sc_changed.nd
    refine ⟨_, PSs.nox (pss_one (ps_ret (pe_callB call_len (by rfl) T.b_len bt_len (pa_cons
        (pe_lc (own := [("a", 2), ("b", 3)]) (g := gTup K 2 (gCons (gName 2) (gCons (gName 3) gNil))) rfl nd (pi_zipS (by rfl) T.b_zip (pa_cons (pv 0) (pa_cons (pv 1) pa_nil))) (blkOk_by (N := ["one", "other", "a", "b"]) (sc := defScope sChanged) (by decide +kernel))
          (fun _ _ _ _ _ => pg_tupK (K := K) rfl rfl (pgs_cons (pg_name (i := 2) nd rfl (Or.inl rfl)) (pgs_cons (pg_name (i := 3) nd rfl (Or.inl rfl)) pgs_nil))) (fun _ _ _ _ _ => pts_one (pt_cmpR op_ne (pv 2) (pv 3) (nomark _))) (fun _ _ _ _ _ => pv 2)) pa_nil)))), ?_⟩
    refine ⟨_, rfl, _, rfl, x, y, rfl, fun D hD => ?_⟩
    rw [min_sz]
    refine lc_it walk_v (fun i H' => Same H H' ∧ H' D = some (.lst (((List.range i).filter fun j => cd x j ≠ cd y j).map (sg x)))) ⟨(Same.refl H).upd hD, upd_same⟩ (fun _ _ _ _ => trivial) ?_ ?_
    · rintro i z H2 H3 hi ⟨s2, h1⟩ ⟨Tp, rfl, hT, rfl⟩
      have hTD : D ≠ Tp := ne_of_none h1 hT
      have s3 : Same H (upd H2 Tp (.tup (zpS x y i))) := s2.upd hT
      refine ⟨Tp, _, rfl, SqT.of upd_same, rfl, _, _, rfl, _, _, rfl, rfl, rfl, _, rfl, _, rfl, (by rw [sg_eq]; rfl), _, rfl, ?_⟩
      by_cases c : cd x i = cd y i
      · rw [show (!decide (sg x i = sg y i)) = false from by rw [decide_eq_true (sg_eq_sg.mpr c)]; rfl]
        refine iteF ⟨s3, ?_⟩
        rw [upd_ne hTD, h1, filter_succ, if_neg (by simpa using c), List.append_nil]
      · rw [show (!decide (sg x i = sg y i)) = true from by rw [decide_eq_false fun q => c (sg_eq_sg.mp q)]; rfl]
        refine iteT ⟨_, rfl, _, by rw [upd_ne hTD]; exact h1, ?_, s3.updN hD, ?_⟩
        · rw [List.length_map]
          have := List.length_filter_le (fun j => decide (cd x j ≠ cd y j)) (List.range i)
          rw [List.length_range] at this
          exact small1000 (by omega)
        · rw [upd_same, filter_succ, if_pos (by simpa using c), List.map_append]
          rfl
    · rintro H2 ⟨s2, h1⟩
      have e : (((List.range (min (sz x) (sz y))).filter fun j => cd x j ≠ cd y j).map (sg x)).length = changedM x y := by
        rw [List.length_map]
        rfl
      refine ⟨_, changedM x y, rfl, .inl ⟨_, SqL.of h1, e.symm⟩, k H2 s2⟩
/-! ### in_box -/
def spInBox : Sp := fun vs H Q _ => ∃ z x y : Str, vs = [.str z, .str x, .str y] ∧ Fit z ∧ Fit x ∧ Fit y ∧ sizesM x = sizesM z ∧ sizesM y = sizesM z ∧ ∀ H', Same H H' → Q (.bl (inBoxM z x y)) H'
theorem sc_in_box : FnScope ["z", "one", "other", "c", "a", "b"] ["z", "one", "other"] (defScope sInBox) := ⟨rfl, rfl, rfl, by decide +kernel, rfl, by decide +kernel, by decide +kernel⟩
theorem in_ab {z x y : Str} {i : Nat} : inV (sg z i) [sg x i, sg y i] = (cd z i == cd x i || cd z i == cd y i) := by
  rw [sg_eq z, sg_eq x, sg_eq y]
  show ((sg1 x i == sg1 z i) || ((sg1 y i == sg1 z i) || false)) = _
  unfold sg1
  rw [beq_one, beq_one, Bool.or_false]
  congr 1
  · exact (decide_eq_decide.mpr ⟨Eq.symm, Eq.symm⟩).trans (by rw [Bool.beq_eq_decide_eq])
  · exact (decide_eq_decide.mpr ⟨Eq.symm, Eq.symm⟩).trans (by rw [Bool.beq_eq_decide_eq])
theorem ok_in_box (T : Txt K mg) : FnOk P w K mg base CX0 12 (a_in_box K) (fdA K (a_in_box K)) ["z", "one", "other"] spInBox := by
  refine FunD.ok T.in_box sc_in_box (fun vs H Q E h => ?_) (fun cdv A outer s H vs Q E hr h => ?_)
  · obtain ⟨z, x, y, rfl, _⟩ := h
    rfl
  · obtain ⟨z, x, y, rfl, fz, fx, fy, ex, ey, k⟩ := h
    have nd := sc_in_box.nd
    have GN := ok_need_patterns (P := P) (w := w) (base := base) T
    refine ⟨_, PSs.nox (pss_cons (ps_expr (pe_callR (sp := spNPs K) GN (hr.mono (by decide)) (by rfl) T.g_need_patterns T.need_patterns.kp pass0 (pa_cons (pv 0) (pa_cons (pv 1) (pa_cons (pv 2) pa_nil)))))
      (pss_one (ps_ret (pe_callB (cr_all rfl) (by rfl) T.b_all bt_all (pa_cons
        (pe_lc (own := [("c", 3), ("a", 4), ("b", 5)]) (g := gTup K 3 (gCons (gName 3) (gCons (gName 4) (gCons (gName 5) gNil)))) rfl nd (pi_zip3S (by rfl) T.b_zip (pa_cons (pv 0) (pa_cons (pv 1) (pa_cons (pv 2) pa_nil)))) (blkOk_by (N := ["z", "one", "other", "c", "a", "b"]) (sc := defScope sInBox) (by decide +kernel))
          (fun _ _ _ _ _ => pg_tupK (K := K) rfl rfl (pgs_cons (pg_name (i := 3) nd rfl (Or.inl rfl)) (pgs_cons (pg_name (i := 4) nd rfl (Or.inl rfl)) (pgs_cons (pg_name (i := 5) nd rfl (Or.inl rfl)) pgs_nil)))) (fun _ _ _ _ _ => pts_nil) (fun _ _ _ _ _ => pe_cmpR (op_in_seqK (K := K) rfl) (pv 3) (pe_tup (pa_cons (pv 4) (pa_cons (pv 5) pa_nil))) (by rfl))) pa_nil))))), ?_⟩
    refine ⟨_, rfl, _, rfl, _, rfl, rd_np (xs := [z, x, y]) z [x, y] rfl (by simp) (by simp) (fun u hu => ?_) fun H1 s1 => ?_⟩
    · rcases List.mem_cons.mp hu with rfl | hu
      · exact ⟨fz, rfl⟩
      · rcases List.mem_cons.mp hu with rfl | hu
        · exact ⟨fx, ex⟩
        · rcases List.mem_cons.mp hu with rfl | hu
          · exact ⟨fy, ey⟩
          · cases hu
    refine ⟨_, rfl, _, rfl, _, rfl, z, x, y, rfl, fun D hD => ?_⟩
    rw [show min (min z.cps.size x.cps.size) y.cps.size = min (min (sz z) (sz x)) (sz y) from by rw [sz_eq, sz_eq, sz_eq]]
    refine lc_it walk_v (fun i H' => Same H1 H' ∧ H' D = some (.lst (((List.range i).map fun j => (cd z j == cd x j || cd z j == cd y j)).map V.bl))) ⟨(Same.refl H1).upd hD, upd_same⟩ (fun _ _ _ _ => trivial) ?_ ?_
    · rintro i u H2 H3 hi ⟨s2, h1⟩ ⟨Tp, rfl, hT, rfl⟩
      have hTD : D ≠ Tp := ne_of_none h1 hT
      have s3 : Same H1 (upd H2 Tp (.tup (zp3S z x y i))) := s2.upd hT
      refine ⟨Tp, _, rfl, SqT.of upd_same, rfl, _, _, rfl, _, _, rfl, _, _, rfl, rfl, rfl, ?_⟩
      refine ⟨_, rfl, _, rfl, _, rfl, (by show 2 ≤ sizeLine; decide), fun p hp => ⟨p, _, rfl, .inr (SqT.of upd_same), (by rw [sg_eq]; rfl), (by rw [sg_eq, sg_eq]; rfl), ((List.range i).map fun j => (cd z j == cd x j || cd z j == cd y j)).map V.bl, ?_, ?_, ?_⟩⟩
      · rw [upd_ne (ne_of_none (by rw [upd_ne hTD]; exact h1) hp), upd_ne hTD]; exact h1
      · rw [List.length_map, List.length_map, List.length_range]
        have := fz.len
        exact small1000 (by omega)
      · refine ⟨(s3.upd hp).updN hD, ?_⟩
        rw [upd_same, if_neg Bool.false_ne_true, in_ab, List.range_succ, List.map_append, List.map_append]
        rfl
    · rintro H2 ⟨s2, h1⟩
      refine ⟨D, _, rfl, SqL.of h1, ?_⟩
      have e : (((List.range (min (min (sz z) (sz x)) (sz y))).map fun j => (cd z j == cd x j || cd z j == cd y j)).all id) = inBoxM z x y := by
        rw [List.all_map]
        rfl
      rw [e]
      exact k H2 (s1.trans s2)
end
end FB

/-! ## FBDef6 -/
set_option Elab.async false
set_option linter.all false
set_option maxRecDepth 100000
set_option maxHeartbeats 4000000
/-! box. -/
namespace FB
open PySem PySem.Spec PyProof.Rows L2
/-- a comprehension of two walks over lists -/
theorem lc2_out {K : PySem.W.Frag} {a : Addr} {xs : List V} {g : TG} {vs : List Nat} {σ : L2.St} {H1 : Hp} {D : Addr} {Qd : Hp → Prop} {B : L2.St → Hp → (Hp → Prop) → Prop} (Pv : Nat → Hp → Prop) (h0 : Pv 0 (upd H1 D (.lst []))) (hl : ∀ i H, i ≤ xs.length → Pv i H → SqL K H a xs)
    (hs : ∀ i x H, xs[i]? = some x → Pv i H → g x (wipe σ vs) H fun σ2 H2 => wipe σ2 vs = wipe σ vs ∧ B σ2 H2 (Pv (i + 1))) (hd : ∀ H, Pv xs.length H → Qd H) :
    ∃ W : Nat → Nat → Hp → Prop, (∃ m, W 0 m (upd H1 D (.lst []))) ∧ ∀ i m H, W i m H →
      ((Itl K a).stop i H ∧ Qd H) ∨ ((Itl K a).go i H ∧ ∃ Nx : Hp → Prop, (∀ H', Nx H' → ∃ m', m' < m ∧ W (i + 1) m' H') ∧ ∀ x H', (Itl K a).yld i H x H' → g x (wipe σ vs) H' fun σ2 H2 => wipe σ2 vs = wipe σ vs ∧ B σ2 H2 Nx) := by
  refine ⟨fun i m H => m = xs.length - i ∧ i ≤ xs.length ∧ Pv i H, ⟨xs.length, by simp, Nat.zero_le _, h0⟩, ?_⟩
  rintro i m H ⟨rfl, hi, p⟩
  have q := hl i H hi p
  by_cases hlt : i < xs.length
  · refine .inr ⟨⟨xs, xs[i], q, by simp [hlt]⟩, Pv (i + 1), fun H' p' => ⟨xs.length - (i + 1), by omega, rfl, hlt, p'⟩, fun x H' y => ?_⟩
    obtain ⟨e, y⟩ := y
    subst e
    exact hs i x _ (y xs q) p
  · have e : i = xs.length := by omega
    subst e
    exact .inl ⟨⟨xs, q, by simp⟩, hd H p⟩
theorem lc2_in {K : PySem.W.Frag} {a : Addr} {xs : List V} {H1 : Hp} {Qd : Hp → Prop} {Go : V → Hp → (Hp → Prop) → Prop} (Pv : Nat → Hp → Prop) (h0 : Pv 0 H1) (hl : ∀ i H, i ≤ xs.length → Pv i H → SqL K H a xs)
    (hs : ∀ i x H, xs[i]? = some x → Pv i H → Go x H (Pv (i + 1))) (hd : ∀ H, Pv xs.length H → Qd H) :
    ∃ W : Nat → Nat → Hp → Prop, (∃ m, W 0 m H1) ∧ ∀ i m H, W i m H →
      ((Itl K a).stop i H ∧ Qd H) ∨ ((Itl K a).go i H ∧ ∃ Nx : Hp → Prop, (∀ H', Nx H' → ∃ m', m' < m ∧ W (i + 1) m' H') ∧ ∀ x H', (Itl K a).yld i H x H' → Go x H' Nx) := by
  refine ⟨fun i m H => m = xs.length - i ∧ i ≤ xs.length ∧ Pv i H, ⟨xs.length, by simp, Nat.zero_le _, h0⟩, ?_⟩
  rintro i m H ⟨rfl, hi, p⟩
  have q := hl i H hi p
  by_cases hlt : i < xs.length
  · refine .inr ⟨⟨xs, xs[i], q, by simp [hlt]⟩, Pv (i + 1), fun H' p' => ⟨xs.length - (i + 1), by omega, rfl, hlt, p'⟩, fun x H' y => ?_⟩
    obtain ⟨e, y⟩ := y
    subst e
    exact hs i x _ (y xs q) p
  · have e : i = xs.length := by omega
    subst e
    exact .inl ⟨⟨xs, q, by simp⟩, hd H p⟩
/-! ### the lists of texts -/
def boxAt (a b : List Nat) (i : Nat) : List (List Nat) := (List.range i).foldl (boxStepL a b) [[]]
def sgnsL (a b : List Nat) (j : Nat) : List Nat := if cdL a j == cdL b j then [cdL a j] else [48, 49]
theorem boxAt_succ (a b : List Nat) (i : Nat) : boxAt a b (i + 1) = boxStepL a b (boxAt a b i) i := by
  unfold boxAt
  rw [List.range_succ, List.foldl_append]
  rfl
theorem boxStep_eq (a b : List Nat) (f : List (List Nat)) (j : Nat) : boxStepL a b f j = f.flatMap fun t => (sgnsL a b j).map fun c => t ++ [c] := rfl
theorem sgns_len (a b : List Nat) (j : Nat) : (sgnsL a b j).length ≤ 2 := by
  unfold sgnsL
  split <;> simp
theorem flat_len {α β : Type} (f : α → List β) (k : Nat) : ∀ (xs : List α), (∀ x ∈ xs, (f x).length ≤ k) → (xs.flatMap f).length ≤ xs.length * k
  | [], _ => by simp
  | x :: xs, h => by
    rw [List.flatMap_cons, List.length_append, List.length_cons]
    have h1 := h x List.mem_cons_self
    have h2 := flat_len f k xs fun z hz => h z (List.mem_cons_of_mem _ hz)
    rw [Nat.add_mul, Nat.one_mul]
    omega
theorem boxAt_len (a b : List Nat) : ∀ i, (boxAt a b i).length ≤ 2 ^ i
  | 0 => by simp [boxAt]
  | i + 1 => by
    rw [boxAt_succ, boxStep_eq]
    have h1 := flat_len (fun t : List Nat => (sgnsL a b i).map fun c => t ++ [c]) 2 (boxAt a b i) fun t _ => by rw [List.length_map]; exact sgns_len a b i
    have h2 := boxAt_len a b i
    rw [Nat.pow_succ]
    omega
theorem boxAt_each (a b : List Nat) : ∀ i, ∀ t ∈ boxAt a b i, t.length = i
  | 0, t, h => by
    have : t = [] := by simpa [boxAt] using h
    rw [this]
    rfl
  | i + 1, t, h => by
    rw [boxAt_succ, boxStep_eq] at h
    obtain ⟨u, hu, ht⟩ := List.mem_flatMap.mp h
    obtain ⟨c, _, rfl⟩ := List.mem_map.mp ht
    rw [List.length_append, boxAt_each a b i u hu]
    rfl
theorem mk_add (t : List Nat) (c : Nat) : mk t ++ (⟨#[c]⟩ : Str) = mk (t ++ [c]) := by
  show Str.mk (t.toArray ++ #[c]) = Str.mk (t ++ [c]).toArray
  congr 1
  simp
theorem mk_len (t : List Nat) : (mk t).length = t.length := by
  show t.toArray.size = _
  simp
section
variable {P : Program} {w : World} {K : PySem.W.Frag} {mg : Str → Option Value} {base : Heap}
def strsV (l : List (List Nat)) : List V := l.map fun t => V.str (mk t)
def spBox : Sp := fun vs H Q _ => ∃ x y : Str, vs = [.str x, .str y] ∧ Fit x ∧ Fit y ∧ sizesM x = sizesM y ∧ sz x ≤ 10 ∧ changedM x y ≤ 10 ∧ ∀ H' p, Same H H' → H p = none → H' p = some (.lst ((boxM x y).map V.str)) → Q (.ref p) H'
abbrev nBox : List Str := ["one", "other", "found", "a", "b", "signs", "text", "sign"]
theorem sc_box : FnScope nBox ["one", "other"] (defScope sBox) := ⟨rfl, rfl, rfl, by decide +kernel, rfl, by decide +kernel, by decide +kernel⟩
/-- behind i signs -/
def BInv (x y : Str) (H : Hp) (i : Nat) : L2.St → Hp → Prop := fun σ H' => ∃ (f : Addr) (v3 v4 v5 v6 v7 : Option V), σ = [some (.str x), some (.str y), some (.ref f), v3, v4, v5, v6, v7] ∧ Same H H' ∧ H f = none ∧ H' f = some (.lst (strsV (boxAt (codes x) (codes y) i)))
def rAddStr : R2 := fun x y H Q => ∃ i j, x = .str i ∧ y = .str j ∧ i.length + j.length ≤ sizeLine ∧ Q (.str (i ++ j)) H
def sgV (x y : Str) (i : Nat) : List V := (sgnsL (codes x) (codes y) i).map fun c => V.str ⟨#[c]⟩
theorem turn_box {x y : Str} {i : Nat} {H H5 : Hp} {f sgn : Addr} {v3 v4 v6 v7 : Option V} {D : Ends} (h10 : sz x ≤ 10) (hi : i < sz x) (s5 : Same H H5) (hsn : H sgn = none) (hfn : H f = none) (hsg : H5 sgn = some (.lst (sgV x y i))) (hf : H5 f = some (.lst (strsV (boxAt (codes x) (codes y) i))))
    (fin : ∀ σ H', BInv x y H (i + 1) σ H' → D.nx σ H') :
    tAsg (tLc2 (iList K (tVar 2)) (gName 6) tYes (iList K (tVar 5)) (gName 7) tYes (tOp rAddStr (tVar 6) (tVar 7)) [6, 7] [7]) (gName 2) D [some (V.str x), some (V.str y), some (V.ref f), v3, v4, some (V.ref sgn), v6, v7] H5 := by
  refine ⟨_, rfl, f, rfl, ⟨_, SqL.of hf⟩, fun L hL => ?_⟩
  have hLf : L ≠ f := fun q => by rw [q, hf] at hL; cases hL
  have hLs : L ≠ sgn := fun q => by rw [q, hsg] at hL; cases hL
  have hL0 : H L = none := s5.free hL
  have hpow : 2 ^ i ≤ 2 ^ 10 := Nat.pow_le_pow_right (by decide) (by omega)
  refine lc2_out (K := K) (a := f) (xs := strsV (boxAt (codes x) (codes y) i)) (fun k H' => Same H H' ∧ H' f = some (.lst (strsV (boxAt (codes x) (codes y) i))) ∧ H' sgn = some (.lst (sgV x y i)) ∧
      H' L = some (.lst (strsV (((boxAt (codes x) (codes y) i).take k).flatMap fun t => (sgnsL (codes x) (codes y) i).map fun c => t ++ [c]))))
    ⟨s5.upd hL, by rw [upd_ne (Ne.symm hLf)]; exact hf, by rw [upd_ne (Ne.symm hLs)]; exact hsg, upd_same⟩ (fun _ _ _ h => SqL.of h.2.1) ?_ ?_
  · rintro k z H1 hz ⟨s1, h1, h2, h3⟩
    obtain ⟨t, ht, rfl⟩ : ∃ t, (boxAt (codes x) (codes y) i)[k]? = some t ∧ z = V.str (mk t) := by
      unfold strsV at hz
      rw [List.getElem?_map] at hz
      cases e : (boxAt (codes x) (codes y) i)[k]? with
      | none => rw [e] at hz; cases hz
      | some b => rw [e] at hz; exact ⟨b, rfl, (Option.some.inj hz).symm⟩
    have htl := boxAt_each _ _ _ t (List.mem_of_getElem? ht)
    have hk : k < (boxAt (codes x) (codes y) i).length := (List.getElem?_eq_some_iff.mp ht).1
    have hbl := boxAt_len (codes x) (codes y) i
    have pre : (((boxAt (codes x) (codes y) i).take k).flatMap fun t => (sgnsL (codes x) (codes y) i).map fun c => t ++ [c]).length ≤ k * 2 := by
      have q := flat_len (fun t : List Nat => (sgnsL (codes x) (codes y) i).map fun c => t ++ [c]) 2 ((boxAt (codes x) (codes y) i).take k) fun t _ => by rw [List.length_map]; exact sgns_len _ _ i
      rw [List.length_take] at q
      exact Nat.le_trans q (Nat.mul_le_mul_right 2 (Nat.min_le_left _ _))
    refine ⟨rfl, ?_⟩
    refine ⟨_, rfl, sgn, rfl, ⟨_, SqL.of h2⟩, ?_⟩
    refine lc2_in (K := K) (a := sgn) (xs := sgV x y i) (fun j H' => Same H H' ∧ H' f = some (.lst (strsV (boxAt (codes x) (codes y) i))) ∧ H' sgn = some (.lst (sgV x y i)) ∧
      H' L = some (.lst (strsV ((((boxAt (codes x) (codes y) i).take k).flatMap fun t => (sgnsL (codes x) (codes y) i).map fun c => t ++ [c]) ++ ((sgnsL (codes x) (codes y) i).take j).map fun c => t ++ [c]))))
      ⟨s1, h1, h2, by rw [h3, List.take_zero, List.map_nil, List.append_nil]⟩ (fun _ _ _ h => SqL.of h.2.2.1) ?_ ?_
    · rintro j u H2 hu ⟨g1, g2, g3, g4⟩
      obtain ⟨c, hc, rfl⟩ : ∃ c, (sgnsL (codes x) (codes y) i)[j]? = some c ∧ u = V.str ⟨#[c]⟩ := by
        unfold sgV at hu
        rw [List.getElem?_map] at hu
        cases e : (sgnsL (codes x) (codes y) i)[j]? with
        | none => rw [e] at hu; cases hu
        | some b => rw [e] at hu; exact ⟨b, rfl, (Option.some.inj hu).symm⟩
      have hj : j < (sgnsL (codes x) (codes y) i).length := (List.getElem?_eq_some_iff.mp hc).1
      have hj2 := sgns_len (codes x) (codes y) i
      refine ⟨rfl, ?_⟩
      refine ⟨_, rfl, _, rfl, mk t, ⟨#[c]⟩, rfl, rfl, ?_, _, g4, ?_, g1.updN hL0, ?_, ?_, ?_⟩
      · rw [mk_len, htl, sizeLine_eq]
        show i + 1 ≤ _
        omega
      · unfold strsV
        rw [List.length_map, List.length_append, List.length_map, List.length_take, sizeLine_eq]
        omega
      · rw [upd_ne (Ne.symm hLf)]; exact g2
      · rw [upd_ne (Ne.symm hLs)]; exact g3
      · rw [upd_same, mk_add, take_succ_map _ hc, ← List.append_assoc]
        unfold strsV
        rw [List.map_append (l₂ := [t ++ [c]])]
        rfl
    · rintro H2 ⟨g1, g2, g3, g4⟩
      refine ⟨g1, g2, g3, ?_⟩
      have e : (sgV x y i).length = (sgnsL (codes x) (codes y) i).length := by unfold sgV; rw [List.length_map]
      rw [e, List.take_length] at g4
      rw [g4, List.take_add_one, ht, List.flatMap_append]
      show _ = some (HO.lst (strsV (_ ++ ([t].flatMap _))))
      rw [List.flatMap_cons, List.flatMap_nil, List.append_nil]
  · rintro H1 ⟨s1, h1, h2, h3⟩
    have e : (strsV (boxAt (codes x) (codes y) i)).length = (boxAt (codes x) (codes y) i).length := by unfold strsV; rw [List.length_map]
    rw [e, List.take_length, ← boxStep_eq, ← boxAt_succ] at h3
    exact fin _ _ ⟨L, _, _, _, _, _, rfl, s1, hL0, h3⟩
theorem ok_box (T : Txt K mg) : FnOk P w K mg base CX0 12 (a_box K) (fdA K (a_box K)) ["one", "other"] spBox := by
  refine FunD.ok T.box sc_box (fun vs H Q E h => ?_) (fun cdv A outer s H vs Q E hr h => ?_)
  · obtain ⟨x, y, rfl, _⟩ := h
    rfl
  · obtain ⟨x, y, rfl, fx, fy, ex, h10, hc, k⟩ := h
    have nd := sc_box.nd
    obtain ⟨tm, hm⟩ := T.m_mc
    have GN := ok_need_patterns (P := P) (w := w) (base := base) T
    have GC := ok_changed (P := P) (w := w) (base := base) T
    refine ⟨_, PSs.nox (pss_cons (ps_expr (pe_callR (sp := spNPs K) GN (hr.mono (by decide)) (by rfl) T.g_need_patterns T.need_patterns.kp pass0 (pa_cons (pv 0) (pa_cons (pv 1) pa_nil))))
      (pss_cons (ps_if (pt_cmpR op_gt (pe_call GC (hr.mono (by decide)) (by rfl) T.g_changed T.changed.kp T.n_changed .nil pass0 (pa_cons (pv 0) (pa_cons (pv 1) pa_nil))) (pe_glob (v := .int 10) (by rfl) hm ⟨_, rfl⟩) (nomark _)) pss_never pss_nil)
      (pss_cons (ps_set (i := 2) nd rfl (.inl rfl) (pe_lst (pa_cons pe_str pa_nil)))
      (pss_cons (ps_for PassesOwn.never rfl (pi_zipS (by rfl) T.b_zip (pa_cons (pv 0) (pa_cons (pv 1) pa_nil))) (pg_tup rfl (pgs_cons (pg_name (i := 3) nd rfl (.inl rfl)) (pgs_cons (pg_name (i := 4) nd rfl (.inl rfl)) pgs_nil)))
        (pss_cons (ps_set (i := 5) nd rfl (.inr rfl) (pe_ifExp (pt_cmpR op_eq (pv 3) (pv 4) (nomark _)) (pe_lst (pa_cons (pv 3) pa_nil)) (pe_lst (pa_cons pe_str (pa_cons pe_str pa_nil)))))
        (pss_one (ps_setLc2 (i := 2) (own := [("text", 6), ("sign", 7)]) (vs1 := [7]) (g := gName 6) (g1 := gName 7) rfl nd rfl rfl (sw_true rfl rfl rfl rfl) (pi_list (pv 2)) (blkOk_by (N := nBox) (sc := defScope sBox) (by decide +kernel)) (by decide)
          (fun _ _ _ _ _ => pg_name (i := 6) nd rfl (Or.inl rfl)) (fun _ _ _ _ _ => pts_nil) (fun _ _ _ _ _ => pi_listK (K := K) rfl (pv 5)) (fun _ _ _ _ _ => pg_name (i := 7) nd rfl (Or.inl rfl)) (fun _ _ _ _ _ => pts_nil)
          (fun _ _ _ _ _ => pe_op op_add_str (pv 6) (pv 7))))))
      (pss_one (ps_ret (pv 2))))))), ?_⟩
    refine ⟨_, rfl, _, rfl, rd_np (xs := [x, y]) x [y] rfl (by simp) (by simp) (two_fit fx fy ex) fun H1 s1 => ?_⟩
    refine ⟨_, rfl, _, rfl, x, y, rfl, fx.len, fun H2 s2 => ⟨_, _, rfl, rfl, _, rfl, ?_⟩⟩
    rw [show decide ((10 : Int) < (changedM x y : Int)) = false from decide_eq_false (by omega)]
    refine iteF ⟨by decide, fun f hf => ?_⟩
    have s12 : Same H H2 := s1.trans s2
    refine ⟨_, rfl, _, rfl, x, y, rfl, ?_⟩
    rw [min_sz]
    refine for_it walk_v (BInv x y H) ⟨f, _, _, _, _, _, rfl, s12.upd hf, s12.free hf, upd_same⟩ (fun _ _ _ _ _ => trivial) ?_ ?_
    · rintro i z σ H3 H4 hi ⟨f, v3, v4, v5, v6, v7, rfl, s3, hf0, h3⟩ ⟨Tp, rfl, hT, rfl⟩
      have hTf : f ≠ Tp := ne_of_none h3 hT
      have s4 : Same H (upd H3 Tp (.tup (zpS x y i))) := s3.upd hT
      refine ⟨Tp, _, rfl, SqT.of upd_same, rfl, _, _, rfl, _, _, rfl, rfl, ?_⟩
      by_cases c : cd x i = cd y i
      · refine ⟨_, rfl, _, rfl, (by rw [sg_eq]; rfl), _, rfl, ?_⟩
        rw [show decide (sg x i = sg y i) = true from decide_eq_true (sg_eq_sg.mpr c)]
        refine iteT ⟨_, rfl, (by show 1 ≤ sizeLine; decide), fun p hp => ?_⟩
        refine turn_box h10 (by omega) (s4.upd hp) (s4.free hp) hf0 ?_ ?_ fun σ H' q => q
        · rw [upd_same, sg_eq]
          unfold sgV sgnsL
          rw [if_pos (show (cdL (codes x) i == cdL (codes y) i) = true from beq_iff_eq.mpr c)]
          rfl
        · rw [upd_ne (ne_of_none (by rw [upd_ne hTf]; exact h3) hp), upd_ne hTf]
          exact h3
      · refine ⟨_, rfl, _, rfl, (by rw [sg_eq]; rfl), _, rfl, ?_⟩
        rw [show decide (sg x i = sg y i) = false from decide_eq_false fun q => c (sg_eq_sg.mp q)]
        refine iteF ⟨(by decide), fun p hp => ?_⟩
        refine turn_box h10 (by omega) (s4.upd hp) (s4.free hp) hf0 ?_ ?_ fun σ H' q => q
        · rw [upd_same]
          unfold sgV sgnsL
          rw [if_neg (show ¬ (cdL (codes x) i == cdL (codes y) i) = true from fun q => c (beq_iff_eq.mp q)), s_0, s_1]
          rfl
        · rw [upd_ne (ne_of_none (by rw [upd_ne hTf]; exact h3) hp), upd_ne hTf]
          exact h3
    · rintro σ H3 ⟨f, v3, v4, v5, v6, v7, rfl, s3, hf0, h3⟩
      refine ⟨_, rfl, k H3 f s3 hf0 ?_⟩
      rw [h3]
      unfold boxM boxL boxAt strsV
      rw [List.map_map]
      rfl
end
end FB

/-! ## FBDef7 -/
set_option Elab.async false
set_option linter.all false
set_option maxRecDepth 100000
set_option maxHeartbeats 4000000
/-! standing_bits, fallen_blocks. -/
namespace FB
open PySem PySem.Spec PyProof.Rows L2
section
variable {P : Program} {w : World} {K : PySem.W.Frag} {mg : Str → Option Value} {base : Heap}
theorem get_natV {xs : List Nat} {i : Nat} (h : i < xs.length) : (xs.map natV)[i]? = some (natV (xs.getD i 0)) := by
  rw [List.getElem?_map, List.getElem?_eq_getElem h, List.getD_eq_getElem?_getD, List.getElem?_eq_getElem h]
  rfl
/-! ### standing_bits -/
def spStanding : Sp := fun vs H Q _ => ∃ x : Str, vs = [.str x] ∧ sz x ≤ 1000 ∧ ∀ H' p, Same H H' → H p = none → H' p = some (.lst ((standingM x).map natV)) → Q (.ref p) H'
theorem sc_standing : FnScope ["x", "bit", "place"] ["x"] (defScope sStanding) := ⟨rfl, rfl, rfl, by decide +kernel, rfl, by decide +kernel, by decide +kernel⟩
theorem placesM_len (x : Str) : (placesM x).length ≤ sz x := by
  unfold placesM
  have := List.length_filter_le (fun j => decide (cd x j ≠ 46)) (List.range (sz x))
  rw [List.length_range] at this
  exact this
theorem ok_standing (T : Txt K mg) : FnOk P w K mg base CX0 7 (a_standing_bits K) (fdA K (a_standing_bits K)) ["x"] spStanding := by
  refine FunD.ok T.standing_bits sc_standing (fun vs H Q E h => ?_) (fun cdv A outer s H vs Q E hr h => ?_)
  · obtain ⟨x, rfl, _⟩ := h
    rfl
  · obtain ⟨x, rfl, hx, k⟩ := h
    have nd := sc_standing.nd
    have GP := ok_places_of (P := P) (w := w) (base := base) T
    refine ⟨_, PSs.nox (pss_one (ps_ret (pe_lc (own := [("bit", 1), ("place", 2)]) (g := gTup K 2 (gCons (gName 1) (gCons (gName 2) gNil))) rfl nd
      (pi_enum (by rfl) T.b_enumerate (pa_cons (pe_call GP (hr.mono (by decide)) (by rfl) T.g_places_of T.places_of.kp T.n_places_of .nil pass0 (pa_cons (pv 0) pa_nil)) pa_nil)) (blkOk_by (N := ["x", "bit", "place"]) (sc := defScope sStanding) (by decide +kernel))
      (fun _ _ _ _ _ => pg_tupK (K := K) rfl rfl (pgs_cons (pg_name (i := 1) nd rfl (Or.inl rfl)) (pgs_cons (pg_name (i := 2) nd rfl (Or.inl rfl)) pgs_nil))) (fun _ _ _ _ _ => pts_one (pt_cmpR op_eq (pe_ix ix_str (pv 0) (pv 2) (fun _ _ => rfl)) pe_str (nomark _))) (fun _ _ _ _ _ => pv 1)))), ?_⟩
    refine ⟨_, rfl, x, rfl, hx, fun H1 p s1 hp0 hp => ⟨p, _, rfl, SqL.of hp, fun D hD => ?_⟩⟩
    have hpl := placesM_len x
    have hDp : D ≠ p := fun q => by rw [q, hp] at hD; cases hD
    refine lc_it (walk_enum (K := K) (a := p) (xs := placesV x)) (fun i H' => Same H1 H' ∧ H' D = some (.lst (((List.range i).filter fun j => cd x ((placesM x).getD j 0) = 49).map natV))) ⟨(Same.refl H1).upd hD, upd_same⟩ (fun i H' _ h => SqL.of (h.1 _ _ hp)) ?_ ?_
    · rintro i z H2 H3 hi ⟨s2, h1⟩ ⟨Tp, x1, y1, rfl, hT, rfl, e1, e2⟩
      have hil : i < (placesM x).length := by
        unfold placesV at hi
        rw [List.length_map] at hi
        exact hi
      have ey : y1 = natV ((placesM x).getD i 0) := by
        have q := get_natV hil
        have e2' : ((placesM x).map natV)[i]? = some y1 := e2
        rw [e2'] at q
        exact Option.some.inj q
      have ex : x1 = natV i := (Option.some.inj e1).symm
      subst ey ex
      have hTD : D ≠ Tp := ne_of_none h1 hT
      have s3 : Same H1 (upd H2 Tp (.tup [natV i, natV ((placesM x).getD i 0)])) := s2.upd hT
      have hcx : x.cps.toList[(placesM x).getD i 0]? = some (cd x ((placesM x).getD i 0)) := by
        have hlt := places_lt hil
        unfold cd cdL
        rw [List.getD_eq_getElem?_getD (l := codes x), List.getElem?_eq_getElem hlt]
        rfl
      refine ⟨Tp, _, rfl, SqT.of upd_same, rfl, _, _, rfl, _, _, rfl, rfl, rfl, ?_⟩
      refine ⟨_, rfl, _, rfl, x, _, cd x ((placesM x).getD i 0), rfl, rfl, ?_, atI_nat hcx, rfl, _, rfl, ?_⟩
      · have : x.length = sz x := sz_eq x
        rw [sizeLine_eq]
        omega
      by_cases c : cd x ((placesM x).getD i 0) = 49
      · rw [show decide (V.str ⟨#[cd x ((placesM x).getD i 0)]⟩ = V.str "1") = true from decide_eq_true (by rw [s_1, c])]
        refine iteT ⟨_, rfl, _, by rw [upd_ne hTD]; exact h1, ?_, s3.updN hD, ?_⟩
        · rw [List.length_map]
          have := List.length_filter_le (fun j => decide (cd x ((placesM x).getD j 0) = 49)) (List.range i)
          rw [List.length_range] at this
          exact small1000 (by omega)
        · rw [upd_same, filter_succ, if_pos (by simpa using c), List.map_append]
          rfl
      · rw [show decide (V.str ⟨#[cd x ((placesM x).getD i 0)]⟩ = V.str "1") = false from decide_eq_false (by
          rw [s_1]
          intro q
          injection q with q
          exact c (one_inj.mp q))]
        refine iteF ⟨s3, ?_⟩
        rw [upd_ne hTD, h1, filter_succ, if_neg (by simpa using c), List.append_nil]
    · rintro H2 ⟨s2, h1⟩
      unfold placesV at h1
      rw [List.length_map] at h1
      refine k H2 D (s1.trans s2) (s1.free hD) ?_
      rw [h1]
      rfl
/-! ### fallen_blocks -/
def spFallen : Sp := fun vs H Q _ => ∃ x : Str, vs = [.str x] ∧ sz x ≤ 1000 ∧ (blocksOf x).length ≤ 1000 ∧ ∀ H' p, Same H H' → H p = none → H' p = some (.lst ((fallenM x).map natV)) → Q (.ref p) H'
theorem sc_fallen : FnScope ["x", "at", "block"] ["x"] (defScope sFallen) := ⟨rfl, rfl, rfl, by decide +kernel, rfl, by decide +kernel, by decide +kernel⟩
theorem ok_fallen (T : Txt K mg) : FnOk P w K mg base CX0 5 (a_fallen_blocks K) (fdA K (a_fallen_blocks K)) ["x"] spFallen := by
  refine FunD.ok T.fallen_blocks sc_fallen (fun vs H Q E h => ?_) (fun cdv A outer s H vs Q E hr h => ?_)
  · obtain ⟨x, rfl, _⟩ := h
    rfl
  · obtain ⟨x, rfl, hx, hb, k⟩ := h
    have nd := sc_fallen.nd
    refine ⟨_, PSs.nox (pss_one (ps_ret (pe_lc (own := [("at", 1), ("block", 2)]) (g := gTup K 2 (gCons (gName 1) (gCons (gName 2) gNil))) rfl nd
      (pi_enum (by rfl) T.b_enumerate (pa_cons (pe_split (pv 0) pe_str) pa_nil)) (blkOk_by (N := ["x", "at", "block"]) (sc := defScope sFallen) (by decide +kernel))
      (fun _ _ _ _ _ => pg_tupK (K := K) rfl rfl (pgs_cons (pg_name (i := 1) nd rfl (Or.inl rfl)) (pgs_cons (pg_name (i := 2) nd rfl (Or.inl rfl)) pgs_nil))) (fun _ _ _ _ _ => pts_one (pt_cmpR op_in_sign pe_str (pv 2) (by rfl))) (fun _ _ _ _ _ => pv 1)))), ?_⟩
    refine ⟨_, rfl, ⟨_, rfl⟩, x, "." , rfl, rfl, by decide +kernel, ?_, fun p hp => ?_⟩
    · show x.length + 2 ≤ sizeLine
      rw [sizeLine_eq]
      have : x.length = sz x := sz_eq x
      omega
    have s1 : Same H (upd H p (.lst ((blocksOf x).map V.str))) := (Same.refl H).upd hp
    refine ⟨p, _, rfl, SqL.of upd_same, fun D hD => ?_⟩
    have hD0 : H D = none := s1.free hD
    refine lc_it (walk_enum (K := K) (a := p) (xs := (blocksOf x).map V.str)) (fun i H' => Same (upd H p (.lst ((blocksOf x).map V.str))) H' ∧ H' D = some (.lst (((List.range i).filter fun b => 48 ∈ codes ((blocksOf x).getD b "")).map natV)))
      ⟨(Same.refl _).upd hD, upd_same⟩ (fun i H' _ h => SqL.of (h.1 _ _ upd_same)) ?_ ?_
    · rintro i z H2 H3 hi ⟨s2, h1⟩ ⟨Tp, x1, y1, rfl, hT, rfl, e1, e2⟩
      rw [List.length_map] at hi
      have ey : y1 = V.str ((blocksOf x).getD i "") := by
        have e2' : ((blocksOf x).map V.str)[i]? = some y1 := e2
        rw [List.getElem?_map, List.getElem?_eq_getElem hi] at e2'
        rw [List.getD_eq_getElem?_getD, List.getElem?_eq_getElem hi]
        exact (Option.some.inj e2').symm
      have ex : x1 = natV i := (Option.some.inj e1).symm
      subst ey ex
      have hTD : D ≠ Tp := ne_of_none h1 hT
      have s3 := s2.upd (o := .tup [natV i, V.str ((blocksOf x).getD i "")]) hT
      refine ⟨Tp, _, rfl, SqT.of upd_same, rfl, _, _, rfl, _, _, rfl, rfl, rfl, ?_⟩
      refine ⟨_, rfl, 48, _, by rw [s_0], rfl, _, rfl, ?_⟩
      by_cases c : 48 ∈ codes ((blocksOf x).getD i "")
      · rw [decide_eq_true c]
        refine iteT ⟨_, rfl, _, by rw [upd_ne hTD]; exact h1, ?_, s3.updN hD, ?_⟩
        · rw [List.length_map]
          have := List.length_filter_le (fun b => decide (48 ∈ codes ((blocksOf x).getD b ""))) (List.range i)
          rw [List.length_range] at this
          exact small1000 (by omega)
        · rw [upd_same, filter_succ, if_pos (by simpa using c), List.map_append]
          rfl
      · rw [decide_eq_false c]
        refine iteF ⟨s3, ?_⟩
        rw [upd_ne hTD, h1, filter_succ, if_neg (by simpa using c), List.append_nil]
    · rintro H2 ⟨s2, h1⟩
      rw [List.length_map] at h1
      refine k H2 D (s1.trans s2) hD0 ?_
      rw [h1]
      rfl
end
end FB

/-! ## FBGen1 -/
set_option Elab.async false
set_option linter.all false
set_option maxRecDepth 100000
set_option maxHeartbeats 4000000
/-! Generators that are walked by a for: what a live generator promises, state by state. -/
namespace FB
open PySem PySem.Spec PyProof.Rows L2 GenW
/-- a tuple -/
def TupO (o : Obj) : Prop := o.cls = .type "tuple" ∧ ∃ its n, o.data = .seq its n
/-- a generator (made where the heap had B things, the table g entries) ran from s₀ to s₁ -/
structure Evo (fr : List Addr) (B g : Nat) (pr : List Addr) (s₀ s₁ : Shared) : Prop where
  heap : ∀ b o, s₀.heap.get? b = some o → (b < B ∨ b ∈ pr ∨ TupO o) → b ∉ fr → s₁.heap.get? b = some o
  slot : ∀ b o, s₀.heap.get? b = some o → b ∈ fr → ∃ sl, s₁.heap.get? b = some { o with slots := sl }
  gens : ∀ i, i < g → s₁.gens[i]? = s₀.gens[i]?
  gsz : s₀.gens.size ≤ s₁.gens.size
  os : s₁.os = s₀.os
  bare : AllBare s₀.gens → AllBare s₁.gens
theorem Evo.refl {fr : List Addr} {B g : Nat} {pr : List Addr} {s : Shared} : Evo fr B g pr s s := ⟨fun _ _ e _ _ => e, fun _ o e _ => ⟨o.slots, e⟩, fun _ _ => rfl, Nat.le_refl _, rfl, fun h => h⟩
theorem Evo.trans {fr : List Addr} {B g : Nat} {pr : List Addr} {a b c : Shared} (x : Evo fr B g pr a b) (y : Evo fr B g pr b c) : Evo fr B g pr a c :=
  ⟨fun b o e h n => y.heap b o (x.heap b o e h n) h n, fun b o e h => let ⟨s1, e1⟩ := x.slot b o e h; let ⟨s2, e2⟩ := y.slot b _ e1 h; ⟨s2, e2⟩, fun i h => (y.gens i h).trans (x.gens i h), Nat.le_trans x.gsz y.gsz, y.os.trans x.os, fun h => y.bare (x.bare h)⟩
/-- exactly as it was -/
theorem Evo.exact {fr : List Addr} {B g : Nat} {pr : List Addr} {s s' : Shared} (hk : ∀ b o, s.heap.get? b = some o → (b < B ∨ b ∈ pr ∨ TupO o ∨ b ∈ fr) → s'.heap.get? b = some o) (hg : ∀ i, i < g → s'.gens[i]? = s.gens[i]?) (hz : s.gens.size ≤ s'.gens.size) (ho : s'.os = s.os) (hb : AllBare s.gens → AllBare s'.gens) : Evo fr B g pr s s' :=
  ⟨fun b o e h _ => hk b o e (h.imp id fun h => h.imp id .inl), fun b o e h => ⟨o.slots, hk b o e (.inr (.inr (.inr h)))⟩, hg, hz, ho, hb⟩
/-- something that only lays new things -/
theorem Evo.laid {fr : List Addr} {B g : Nat} {pr : List Addr} {s : Shared} {h' : Heap} {t : Nat} (hk : ∀ b o, s.heap.get? b = some o → h'.get? b = some o) : Evo fr B g pr s { s with heap := h', toks := t } :=
  .exact (fun b o e _ => hk b o e) (fun _ _ => rfl) (Nat.le_refl _) rfl fun h => h
/-- something that writes to things of its own -/
theorem Evo.wrote {fr : List Addr} {B g : Nat} {pr wr : List Addr} {s : Shared} {h' : Heap} {t : Nat} (hk : ∀ b o, b ∉ wr → s.heap.get? b = some o → h'.get? b = some o)
    (hw : ∀ b ∈ wr, B ≤ b ∧ b ∉ pr ∧ b ∉ fr ∧ ∃ o, s.heap.get? b = some o ∧ ¬ TupO o) : Evo fr B g pr s { s with heap := h', toks := t } := by
  refine .exact (fun b o e h => hk b o (fun hb => ?_) e) (fun _ _ => rfl) (Nat.le_refl _) rfl fun h => h
  obtain ⟨h1, h2, h5, o', h3, h4⟩ := hw b hb
  rcases h with h | h | h | h
  · exact absurd (Nat.lt_of_lt_of_le h h1) (Nat.lt_irrefl _)
  · exact h2 h
  · rw [e] at h3
    cases h3
    exact h4 h
  · exact h5 h
/-- its consumer went on from s₁ to s' -/
structure Slp (base : Heap) (B g : Nat) (pr rd : List Addr) (s₁ s' : Shared) : Prop where
  own : ∀ b o, s₁.heap.get? b = some o → ((B ≤ b ∧ b ∉ pr) ∨ b ∈ rd) → s'.heap.get? b = some o
  base : ∀ b o, base.get? b = some o → s'.heap.get? b = some o
  gens : ∀ i, g < i → i < s₁.gens.size → s'.gens[i]? = s₁.gens[i]?
  gsz : s₁.gens.size ≤ s'.gens.size
  os : s'.os = s₁.os
  bare : AllBare s'.gens
  prx : ∀ b ∈ pr, ∃ o, s'.heap.get? b = some o
  nrec : ∀ b o, s₁.heap.get? b = some o → (∀ vs, o.data ≠ .fields vs) → ∃ o', s'.heap.get? b = some o' ∧ ∀ vs, o'.data ≠ .fields vs
theorem Slp.trans {base : Heap} {B g : Nat} {pr rd : List Addr} {a b c : Shared} (x : Slp base B g pr rd a b) (y : Slp base B g pr rd b c) : Slp base B g pr rd a c :=
  ⟨fun i o e h => y.own i o (x.own i o e h) h, y.base, fun i h1 h2 => (y.gens i h1 (Nat.lt_of_lt_of_le h2 x.gsz)).trans (x.gens i h1 h2), Nat.le_trans x.gsz y.gsz, y.os.trans x.os, y.bare, y.prx, fun b o e h => let ⟨o1, e1, h1⟩ := x.nrec b o e h; y.nrec b o1 e1 h1⟩
/-- what is wanted of an item -/
abbrev ISp := Value → Heap → Prop
def RL (fr : List Addr) (B ge : Nat) (pr : List Addr) : GenEnd := fun n s₀ r s₁ => ((r = .ok (.ret .none) ∨ r = .ok .next) ∧ (n = 0 ∧ Evo fr B ge pr s₀ s₁)) ∨ ∃ e, r = .error e ∧ False
def YL (fr : List Addr) (base : Heap) (B ge g a : Nat) (pr rd : List Addr) (tot : List ISp) : Protocol := fun n s₀ v s₁ kap =>
  ∃ sp, tot[tot.length - 1 - n]? = some sp ∧ sp v s₁.heap ∧ Evo fr B ge pr s₀ s₁ ∧ s₁.heap.IsGen a g ∧ g < s₁.gens.size ∧ ∀ s', Slp base B g pr rd s₁ s' → s'.heap.IsGen a g → kap (.send .none) s'
/-- a generator that has n of the items of tot to come -/
structure Live (fr : List Addr) (P : Program) (w : World) (base : Heap) (A : Around) (B ge : Nat) (pr rd : List Addr) (a g : Nat) (tot : List ISp) (n : Nat) (s : Shared) : Prop where
  old : B ≤ a
  apr : a ∉ pr
  bsz : base.objs.size ≤ B
  gle : ge ≤ g
  frb : ∀ b ∈ fr, base.get? b = none
  isg : s.heap.IsGen a g
  ex : ∃ gs, s.gens[g]? = some gs ∧ ∀ s', Slp base B g pr rd s s' → s'.heap.IsGen a g → gs.Goes (model P w) A.in1 (RL fr B ge pr) (YL fr base B ge g a pr rd tot) n (.send .none) (s'.setGen g .running)
theorem setGen_ne {s : Shared} {g i : Nat} {x : GenState} (h : i ≠ g) : (s.setGen g x).gens[i]? = s.gens[i]? := by
  show (s.gens.setIfInBounds g x)[i]? = _
  exact Array.getElem?_setIfInBounds_ne (Ne.symm h)
theorem isGen_at {h h' : Heap} {a g : Nat} (x : h.IsGen a g) (e : ∀ o, h.get? a = some o → h'.get? a = some o) : h'.IsGen a g :=
  let ⟨o, nm, qn, ho, r⟩ := x; ⟨o, nm, qn, e _ ho, r⟩
theorem Slp.isGen {base : Heap} {B g a : Nat} {pr rd : List Addr} {s s' : Shared} (x : Slp base B g pr rd s s') (h : s.heap.IsGen a g) (h1 : B ≤ a) (h2 : a ∉ pr) : s'.heap.IsGen a g :=
  isGen_at h fun o e => x.own a o e (.inl ⟨h1, h2⟩)
/-- it stays as it is while its consumer goes on -/
theorem Live.slp {fr : List Addr} {P : Program} {w : World} {base : Heap} {A : Around} {B ge : Nat} {pr rd : List Addr} {a g : Nat} {tot : List ISp} {n : Nat} {s s' : Shared} (L : Live fr P w base A B ge pr rd a g tot n s) (x : Slp base B g pr rd s s') (hg : s'.gens[g]? = s.gens[g]?) : Live fr P w base A B ge pr rd a g tot n s' := by
  obtain ⟨gs, h1, h2⟩ := L.ex
  exact ⟨L.old, L.apr, L.bsz, L.gle, L.frb, x.isGen L.isg L.old L.apr, gs, hg.trans h1, fun s'' y z => h2 s'' (x.trans y) z⟩
theorem Slp.refl {base : Heap} {B g : Nat} {pr rd : List Addr} {s : Shared} (hb : ∀ b o, base.get? b = some o → s.heap.get? b = some o) (ha : AllBare s.gens) (hp : ∀ b ∈ pr, ∃ o, s.heap.get? b = some o) : Slp base B g pr rd s s :=
  ⟨fun _ _ e _ => e, hb, fun _ _ _ => rfl, Nat.le_refl _, rfl, ha, hp, fun _ o e h => ⟨o, e, h⟩⟩
theorem Live.lt {fr : List Addr} {P : Program} {w : World} {base : Heap} {A : Around} {B ge : Nat} {pr rd : List Addr} {a g : Nat} {tot : List ISp} {n : Nat} {s : Shared} (L : Live fr P w base A B ge pr rd a g tot n s) : g < s.gens.size := by
  obtain ⟨gs, h1, _⟩ := L.ex
  exact (Array.getElem?_eq_some_iff.mp h1).1
/-- next: an item -/
theorem next_live {fr : List Addr} {P : Program} {w : World} {base : Heap} {A : Around} {B ge : Nat} {pr rd : List Addr} {a g : Nat} {tot : List ISp} {m : Nat} {s : Shared} {E : Value → Shared → Prop} {Q : Option Value → Shared → Prop} (L : Live fr P w base A B ge pr rd a g tot (m + 1) s)
    (hh : A.handled = none) (hroom : A.depth < recursionLimit) (hl : base.NoLimit) (hb : ∀ b o, base.get? b = some o → s.heap.get? b = some o) (ha : AllBare s.gens) (hp : ∀ b ∈ pr, ∃ o, s.heap.get? b = some o)
    (h : ∀ v s₂ sp, tot[tot.length - 1 - m]? = some sp → sp v s₂.heap → Evo fr B ge pr s s₂ → Live fr P w base A B ge pr rd a g tot m s₂ → Q (some v) s₂) : wpAny (model P w) A (pyNext (.ref a)) Q E s := by
  obtain ⟨gs, h1, h2⟩ := L.ex
  have hgl := L.lt
  refine next_genG (n := m + 1) (F := fun n s₀ s₁ => n = 0 ∧ Evo fr B ge pr s₀ s₁) (Er := fun _ _ => False) (Y := YL fr base B ge g a pr rd tot) hh (hl.keeps hb) hroom L.isg h1 (h2 s (Slp.refl hb ha hp) L.isg) (fun v s₁ gs' hbare hv => ?_) (fun s₁ hf => absurd hf.1 (Nat.succ_ne_zero m)) fun e s₁ hf => hf.elim
  obtain ⟨sp, e1, e2, ev, ig, gl, kap⟩ := hv
  have ev2 : Evo fr B ge pr s (s₁.setGen g gs') := by
    refine ⟨fun b o q hq hn => ev.heap b o q hq hn, fun b o q hq => ev.slot b o q hq, fun i hi => ?_, ?_, ev.os, fun hq => allBare_setGen (ev.bare (allBare_setGen hq rfl)) hbare⟩
    · rw [setGen_ne (Nat.ne_of_lt (Nat.lt_of_lt_of_le hi L.gle)), ev.gens i hi, setGen_ne (Nat.ne_of_lt (Nat.lt_of_lt_of_le hi L.gle))]
    · have := ev.gsz
      rw [setGen_size] at this ⊢
      exact this
  refine h v (s₁.setGen g gs') sp e1 e2 ev2 ⟨L.old, L.apr, L.bsz, L.gle, L.frb, ig, gs', setGen_at gl, fun s' y z => kap _ ⟨y.own, y.base, fun i hi hl2 => ?_, ?_, y.os, allBare_setGen y.bare rfl, y.prx, y.nrec⟩ z⟩
  · rw [setGen_ne (Nat.ne_of_gt hi), y.gens i hi (by rw [setGen_size]; exact hl2), setGen_ne (Nat.ne_of_gt hi)]
  · have := y.gsz
    rw [setGen_size] at this ⊢
    exact this
/-- next: no more -/
theorem stop_live {fr : List Addr} {P : Program} {w : World} {base : Heap} {A : Around} {B ge : Nat} {pr rd : List Addr} {a g : Nat} {tot : List ISp} {s : Shared} {E : Value → Shared → Prop} {Q : Option Value → Shared → Prop} (L : Live fr P w base A B ge pr rd a g tot 0 s)
    (hh : A.handled = none) (hroom : A.depth < recursionLimit) (hl : base.NoLimit) (hb : ∀ b o, base.get? b = some o → s.heap.get? b = some o) (ha : AllBare s.gens) (hp : ∀ b ∈ pr, ∃ o, s.heap.get? b = some o)
    (h : ∀ s₂, Evo fr B ge pr s s₂ → Q none s₂) : wpAny (model P w) A (pyNext (.ref a)) Q E s := by
  obtain ⟨gs, h1, h2⟩ := L.ex
  refine next_genG (n := 0) (F := fun n s₀ s₁ => n = 0 ∧ Evo fr B ge pr s₀ s₁) (Er := fun _ _ => False) (Y := YL fr base B ge g a pr rd tot) hh (hl.keeps hb) hroom L.isg h1 (h2 s (Slp.refl hb ha hp) L.isg) (fun v s₁ gs' hbare hv => ?_) (fun s₁ hf h' hk => ?_) fun e s₁ hf => hf.elim
  · obtain ⟨sp, e1, e2, ev, ig, gl, kap⟩ := hv
    exact (kap s₁ (Slp.refl (fun b o q => ev.heap b o (hb b o q) (.inl (Nat.lt_of_lt_of_le (Heap.lt_size q) L.bsz)) fun hm => by rw [L.frb b hm] at q; cases q) (ev.bare (allBare_setGen ha rfl)) fun b hb2 => by
    obtain ⟨o, q⟩ := hp b hb2
    by_cases hf : b ∈ fr
    · obtain ⟨sl, q2⟩ := ev.slot b o q hf
      exact ⟨_, q2⟩
    · exact ⟨o, ev.heap b o q (.inr (.inl hb2)) hf⟩) ig).elim
  · obtain ⟨_, ev⟩ := hf
    refine h _ ⟨fun b o q hq hn => hk b o (ev.heap b o q hq hn), fun b o q hq => let ⟨sl, q2⟩ := ev.slot b o q hq; ⟨sl, hk b _ q2⟩, fun i hi => ?_, ?_, ev.os, fun hq => allBare_setGen (ev.bare (allBare_setGen hq rfl)) rfl⟩
    · rw [show ({ s₁.setGen g .finished with heap := h' } : Shared).gens = (s₁.setGen g .finished).gens from rfl, setGen_ne (Nat.ne_of_lt (Nat.lt_of_lt_of_le hi L.gle)), ev.gens i hi, setGen_ne (Nat.ne_of_lt (Nat.lt_of_lt_of_le hi L.gle))]
    · have := ev.gsz
      rw [setGen_size] at this
      show _ ≤ (s₁.setGen g .finished).gens.size
      rw [setGen_size]
      exact this
end FB

/-! ## FBGen2 -/
set_option Elab.async false
set_option linter.all false
set_option maxRecDepth 100000
set_option maxHeartbeats 4000000
/-! A for within a generator. -/
namespace FB
open PySem PySem.Spec PyProof.Rows L2 GenW
section
variable {P : Program} {w : World} {A : Around} {R : GenEnd} {Y : Protocol} {n : Nat} {s₀ : Shared} {fs : List Frame} {s : Shared} {env : Env}
/-- what a turn's suite ends with -/
def turnK (target : Expr) (it : Value) (body : List Stmt) (env : Env) : Flow → Sem PySem.Fin := fun f => match f with
  | .next | .cont => .pure (.again (.forLoop target it body [] env))
  | .brk => .pure (.done .next)
  | .ret v => .pure (.done (.ret v))
def turnJ (env : Env) : Value → Sem PySem.Fin := fun e => (do noteFrame e env; theTreesLotGoes e : Sem Unit).wrap (fun _ => .raise e) .raise id id
theorem seg_forLoop {target : Expr} {it : Value} {body : List Stmt}
    (h : wpAny (model P w) (A.over (.forLoop target it body [] env) fs) (pyNext it) (fun r s' => match r with
        | none => Seg (model P w) A R Y n s₀ (.forLoop target it body [] env) (.pure (.again (.block [] env))) fs s'
        | some v => wpAny (model P w) (A.over (.forLoop target it body [] env) fs) (letOwnedTupleGo target it v) (fun _ s1 => wpAny (model P w) (A.over (.forLoop target it body [] env) fs) (assign target env v) (fun _ s2 =>
            Seg (model P w) A R Y n s₀ (.forLoop target it body [] env) ((execs body env).wrap (turnK target it body env) (turnJ env) id id) fs s2) (fun _ _ => False) s1) (fun _ _ => False) s') (fun _ _ => False) s) :
    Seg (model P w) A R Y n s₀ (.forLoop target it body [] env) ((model P w).den (.forLoop target it body [] env)) fs s := by
  show Seg _ A R Y n s₀ _ ((forTurn target it body [] env).onRaise (fun x => do noteFrame x env; theTreesLotGoes x)) fs s
  unfold forTurn
  rw [Sem.onRaise_eq_wrap]
  refine seg_bind_wrap (wpAny_standAt ?_)
  refine seg_bind_wrap (wpAny_onRaise (wpAny_mono h (fun r s' hr => ?_) fun _ _ z => False.elim z))
  cases r with
  | none => exact hr
  | some v =>
    refine seg_bind_wrap (wpAny_mono hr (fun _ s1 h1 => ?_) fun _ _ z => False.elim z)
    refine seg_bind_wrap (wpAny_mono h1 (fun _ s2 h2 => ?_) fun _ _ z => False.elim z)
    rw [Sem.bind_eq_wrap', Sem.wrap_wrap]
    rw [Sem.wrap_congr (execs body env) _ _ (K' := turnK target it body env) (H' := turnJ env)
      (fun f => by cases f <;> rfl)
      (fun e => by first | exact Sem.bind_eq_wrap _ _ | (show (do noteFrame e env; theTreesLotGoes e : Sem Unit).bind (fun _ => .raise e) = _; rw [Sem.bind_eq_wrap]; rfl))]
    exact h2
/-- behind the last turn -/
theorem seg_noMore {c : Code} (h : Seg (model P w) A R Y n s₀ (.block [] env) (.pure (.done .next)) fs s) : Seg (model P w) A R Y n s₀ c (.pure (.again (.block [] env))) fs s := by
  refine seg_again rfl ?_
  exact h
/-- for target in iter: body -/
theorem seg_For {c : Code} {K : Flow → Sem PySem.Fin} {J : Value → Sem PySem.Fin} {gd : Bool → Bool} {lv : List Value → List Value} {target iter : Expr} {body : List Stmt} {pos : Pos}
    (h : wpAny (model P w) (A.over c fs) (eval iter env) (fun x s1 => wpAny (model P w) (A.over c fs) (pyIter x) (fun it s2 =>
      ∀ p l kp, Seg (model P w) A R Y n s₀ (.forLoop target it body [] env) ((model P w).den (.forLoop target it body [] env))
        (.ret (fun r => ((match r with | .ok f => (.pure f : Sem Flow) | .error e => .raise e).onRaise (cameBack env)).wrap K J gd lv) none (gd false) l c p kp :: fs) s2) (fun _ _ => False) s1) (fun _ _ => False) s)
    (hs : ∀ x, foldedSetIterable iter env x = pure x := by intro _; rfl) :
    Seg (model P w) A R Y n s₀ c ((exec (.For target iter body [] pos) env).wrap K J gd lv) fs s := by
  rw [exec_For]
  refine seg_bind_wrap (wpAny_standAt ?_)
  refine seg_bind_wrap (wpAny_mono h (fun x s1 h1 => ?_) fun _ _ z => False.elim z)
  refine seg_bind_wrap (wpAny_of_eq (hs x) ?_)
  refine seg_bind_wrap (wpAny_standAt ?_)
  refine seg_bind_wrap (wpAny_holding (wpAny_mono h1 (fun it s2 h2 => ?_) fun _ _ z => False.elim z))
  exact seg_call fun p => h2 p _ _
end
end FB

/-! ## FBGen11 -/
set_option Elab.async false
set_option linter.all false
set_option maxRecDepth 100000
set_option maxHeartbeats 4000000
/-! An address that was handed out and holds nothing stays so. -/
namespace FB
open PySem PySem.Spec PyProof.Rows L2 GenW
open Sem (wp)
structure Nx (s s' : Shared) : Prop where
  sz : s.heap.objs.size ≤ s'.heap.objs.size
  none : ∀ b, b < s.heap.objs.size → s.heap.get? b = .none → s'.heap.get? b = .none
theorem Nx.refl {s : Shared} : Nx s s := ⟨Nat.le_refl _, fun _ _ h => h⟩
theorem Nx.trans {a b c : Shared} (x : Nx a b) (y : Nx b c) : Nx a c := ⟨Nat.le_trans x.sz y.sz, fun i h1 h2 => y.none i (Nat.lt_of_lt_of_le h1 x.sz) (x.none i h1 h2)⟩
theorem Nx.of_heap {s s' : Shared} (h : s'.heap = s.heap) : Nx s s' := ⟨by rw [h]; exact Nat.le_refl _, fun _ _ h2 => by rw [h]; exact h2⟩
theorem Nx.pre {s s2 s' : Shared} (x : Nx s2 s') (h : s2.heap = s.heap) : Nx s s' := (Nx.of_heap h).trans x
theorem Nx.post {s s2 s' : Shared} (x : Nx s s2) (h : s'.heap = s2.heap) : Nx s s' := x.trans (Nx.of_heap h)
theorem Nx.update {s : Shared} {a : Addr} {f : Obj → Obj} (ha : (s.heap.get? a).isSome) : Nx s { s with heap := s.heap.update a f } := by
  refine ⟨?_, fun b h1 h2 => ?_⟩
  · show _ ≤ (s.heap.update a f).objs.size
    rw [Heap.size_after_update]
    exact Nat.le_refl _
  · have hne : a ≠ b := fun e => by
      rw [e, h2] at ha
      cases ha
    exact (Heap.get?_update_other _ _ hne).trans h2
theorem Nx.push {s : Shared} {o : Obj} : Nx s { s with heap := s.heap.push o } := by
  refine ⟨?_, fun b h1 h2 => ?_⟩
  · show _ ≤ (s.heap.push o).objs.size
    rw [Heap.size_push]
    exact Nat.le_succ _
  · cases e : (s.heap.push o).get? b with
    | none => rfl
    | some o' =>
      rcases Heap.get?_push_cases e with ⟨h3, _⟩ | h3
      · rw [h3] at h1
        exact absurd h1 (Nat.lt_irrefl _)
      · rw [h2] at h3
        cases h3
theorem runs_nx {M : Model} {Γ : PySem.Ctx} {p : Pos} {t : Sem PySem.Fin} {fs : List Frame} {s s' : Shared} {e : End} (h : Runs M Γ p t fs s e s') : Nx s s' := by
  induction h with
  | update ha _ ih => exact (Nx.update ha).trans ih
  | alloc _ ih => exact Nx.push.trans ih
  | fresh _ ih => exact ih.pre rfl
  | choose _ _ ih => exact ih.pre rfl
  | os _ ih => exact ih.pre rfl
  | newGen _ ih => exact ih.pre rfl
  | call _ _ ih1 ih2 => exact ih1.trans ih2
  | callSusp _ ih => exact ih
  | resumeFresh _ _ _ _ ih1 ih2 => exact Nx.pre (ih1.trans (ih2.pre rfl)) rfl
  | resumeSuspended _ _ _ _ ih1 ih2 => exact Nx.pre (ih1.trans (ih2.pre rfl)) rfl
  | resumeThrowFresh _ _ ih => exact ih.pre rfl
  | segRet _ _ ih1 ih2 => exact ih1.trans ih2
  | segGen _ _ ih1 ih2 => exact ih1.trans (ih2.pre rfl)
  | segSuspOut _ _ ih => exact ih
  | segSuspGen _ _ _ _ ih1 ih2 => exact ih1.trans (ih2.pre rfl)
  | _ => first | exact Nx.refl | assumption
theorem returns_nx {M : Model} {Γ : PySem.Ctx} {p : Pos} {s s' : Shared} {r : Result} (h : Returns M Γ p s r s') : Nx s s' := runs_nx h
theorem wakes_nx {M : Model} {Γ : PySem.Ctx} {p : Pos} {g : Nat} {r : Resume} {s s' : Shared} {res : GenResult} (h : Wakes M Γ p g r s res s') : Nx s s' := by
  unfold Wakes at h
  split at h
  · exact h.elim
  · split at h
    · obtain ⟨e₁, s₁, hr, _, _, rfl⟩ := h
      exact Nx.pre (Nx.post (runs_nx hr) rfl) rfl
    · rw [h.2]; exact Nx.refl
    · rw [h.2]; exact Nx.of_heap rfl
  · obtain ⟨e₁, s₁, hr, _, _, rfl⟩ := h
    exact Nx.pre (Nx.post (runs_nx hr) rfl) rfl
  · rw [h.2]; exact Nx.refl
  · rw [h.2]; exact Nx.refl
theorem wp_nx {α : Type} (M : Model) (Γ : PySem.Ctx) (s0 : Shared) (t : Sem α) : ∀ (Q : α → Pos → Shared → Prop) (E : Value → Pos → Shared → Prop) (p : Pos) (s : Shared), Nx s0 s → wp M Γ t Q E p s →
    wp M Γ t (fun a p' s' => Nx s0 s' ∧ Q a p' s') (fun e p' s' => Nx s0 s' ∧ E e p' s') p s := by
  induction t with
  | pure a => intro Q E p s hn h; exact ⟨hn, h⟩
  | raise e => intro Q E p s hn h; exact ⟨hn, h⟩
  | unsupported _ => intro Q E p s _ h; exact h
  | finish _ => intro Q E p s _ h; exact h
  | rule _ k ih => intro Q E p s hn h; exact ih () Q E p s hn h
  | «at» p' k ih => intro Q E p s hn h; exact ih () Q E p' s hn h
  | load a _ k ih => intro Q E p s hn h; obtain ⟨o, ho, h⟩ := h; exact ⟨o, ho, ih o Q E p s hn h⟩
  | update a _ f k ih => intro Q E p s hn h; exact ⟨h.1, ih () Q E p _ (hn.trans (Nx.update h.1)) h.2⟩
  | loadIfAlive a k ih => intro Q E p s hn h; exact ih _ Q E p s hn h
  | point _ k ih => intro Q E p s hn h; exact ih () Q E p s hn h
  | register _ _ => intro Q E p s _ h; exact h
  | alloc o k ih => intro Q E p s hn h; exact ih _ Q E p _ (hn.trans Nx.push) h
  | fresh k ih => intro Q E p s hn h; exact ih _ Q E p _ (hn.trans (Nx.of_heap rfl)) h
  | ask k ih => intro Q E p s hn h; exact ih _ Q E p s hn h
  | choose src m k ih => intro Q E p s hn h; exact ⟨h.1, ih _ Q E p _ (hn.trans (Nx.of_heap rfl)) h.2⟩
  | os q _ k ih => intro Q E p s hn h; exact ih _ Q E p _ (hn.trans (Nx.of_heap rfl)) h
  | call c hd _ _ k ih => intro Q E p s hn h; obtain ⟨r, s', hr, h⟩ := h; exact ⟨r, s', hr, ih r Q E p s' (hn.trans (returns_nx hr)) h⟩
  | handled own k ih => intro Q E p s hn h; exact ih _ Q E p s hn h
  | genState g k ih => intro Q E p s hn h; obtain ⟨st, hs, h⟩ := h; exact ⟨st, hs, ih _ Q E p s hn h⟩
  | newGen c k ih => intro Q E p s hn h; exact ih _ Q E p _ (hn.trans (Nx.of_heap rfl)) h
  | resume g r _ k ih => intro Q E p s hn h; obtain ⟨res, s', hw, h⟩ := h; exact ⟨res, s', hw, ih res Q E p s' (hn.trans (wakes_nx hw)) h⟩
  | yield _ _ _ _ => intro Q E p s _ h; exact h
  | stack k ih => intro Q E p s hn h; exact ih _ Q E p s hn h
  | fork _ _ => intro Q E p s _ h; exact h
  | thread k ih => intro Q E p s hn h; exact ih _ Q E p s hn h
  | await _ _ _ _ _ => intro Q E p s _ h; exact h
theorem wpAny_nx {α : Type} {M : Model} {A : Around} {s : Shared} {t : Sem α} {Q : α → Shared → Prop} {E : Value → Shared → Prop} (h : wpAny M A t (fun a s' => Nx s s' → Q a s') (fun e s' => Nx s s' → E e s') s) : wpAny M A t Q E s :=
  wpAny_mono (fun Γ p hΓ => wp_nx M Γ s t _ _ p s Nx.refl (h Γ p hΓ) : wpAny M A t (fun a s' => Nx s s' ∧ (Nx s s' → Q a s')) (fun e s' => Nx s s' ∧ (Nx s s' → E e s')) s)
    (fun _ _ x => x.2 x.1) fun _ _ x => x.2 x.1
/-- what a call has tracked anew is new in the heap -/
theorem Nx.fresh {s s' : Shared} (x : Nx s s') {b : Addr} (h1 : s.heap.get? b = .none) (h2 : ∃ o, s'.heap.get? b = some o) : s.heap.objs.size ≤ b := by
  by_cases c : b < s.heap.objs.size
  · obtain ⟨o, e⟩ := h2
    rw [x.none b c h1] at e
    cases e
  · exact Nat.le_of_not_lt c
end FB

/-! ## FBGen3 -/
set_option Elab.async false
set_option linter.all false
set_option maxRecDepth 100000
set_option maxHeartbeats 4000000
/-! What the generators' expressions do, state by state. -/
namespace FB
open PySem PySem.Spec PyProof.Rows L2 GenW
/-- a def's frame: the names that it looks up outside -/
structure Fr (env : Env) : Prop where
  kind : env.scope.kind = .function
  glob : env.globals = mainGlobals
  blt : env.builtins = builtinsNs
section
variable {P : Program} {w : World} {K : PySem.W.Frag} {mg : Str → Option Value} {base : Heap} {A : Around} {E : Value → Shared → Prop} {s : Shared} {env : Env} {m : Str → Option Value} {Q : Value → Shared → Prop}
theorem r_loc {M : Model} {x : Str} {v : Value} {pos : Pos} (f : Fr env) (hl : env.kindOf x = some .local) (hn : s.heap.Ns env.locals m) (hv : m x = some v) (h : Q v s) (hd : (x == ("__debug__" : Str)) = false := by decide) : wpAny M A (eval (.Name x pos) env) Q E s :=
  wpAny_Name (wpAny_loadName_local f.kind hl hn hv h) hd
theorem r_glob {M : Model} {x : Str} {v : Value} {pos : Pos} (md : Mod K mg base) (hb : ∀ b o, base.get? b = some o → s.heap.get? b = some o) (f : Fr env) (hg : env.kindOf x = some .globalImplicit) (hm : mg x = some v) (h : Q v s) (hd : (x == ("__debug__" : Str)) = false := by decide) : wpAny M A (eval (.Name x pos) env) Q E s :=
  Calls.Name_function_global f.kind hg (Calls.loadGlobal_global (by rw [f.glob]; exact md.glob.keeps hb) hm h) hd
theorem r_blt {M : Model} {x : Str} {v : Value} {pos : Pos} (md : Mod K mg base) (hb : ∀ b o, base.get? b = some o → s.heap.get? b = some o) (f : Fr env) (hg : env.kindOf x = some .globalImplicit) (hm : mg x = none) (hv : bootBuiltins x = some v) (h : Q v s) (hnn : x ≠ "__name__" := by decide) (hd : (x == ("__debug__" : Str)) = false := by decide) :
    wpAny M A (eval (.Name x pos) env) Q E s := by
  obtain ⟨mb, h1, h2⟩ := md.blt
  exact Calls.Name_function_global f.kind hg (Calls.loadGlobal_builtin (by rw [f.glob]; exact md.glob.keeps hb) hm (by rw [f.blt]; exact h1.keeps hb) ((h2 x hnn).trans hv) h) hd
/-- enumerate(x), x a list -/
theorem r_enum {x : Str} {p p2 pos : Pos} {l : Addr} {items : Array Value} (md : Mod K mg base) (hb : ∀ b o, base.get? b = some o → s.heap.get? b = some o) (f : Fr env) (hg : env.kindOf "enumerate" = some .globalImplicit) (hm : mg "enumerate" = none)
    (hl : env.kindOf x = some .local) (hn : s.heap.Ns env.locals m) (hv : m x = some (.ref l)) (hL : s.heap.IsList l items) (hd : (x == ("__debug__" : Str)) = false := by decide)
    (h : ∀ h', IsEnum h' (s.heap.objs.size + 1) s.heap.objs.size 0 .none → h'.IsListIter s.heap.objs.size l 0 → h'.objs.size = s.heap.objs.size + 2 →
      (∀ b o, s.heap.get? b = some o → h'.get? b = some o) → Q (.ref (s.heap.objs.size + 1)) { s with heap := h' }) :
    wpAny (model P w) A (eval (.Call (.Name "enumerate" p) [.Name x p2] [] pos) env) Q E s := by
  refine Call_ (r_blt md hb f hg hm boot_enumerate (PyProof.Rows.callWith_type1 (args_cons (r_loc f hl hn hv (args_nil ?_) hd)) rfl rfl))
  exact call_enumerate_list hL h
/-- (x,) -/
theorem r_tup1 {x : Str} {v : Value} {k : Nat} {p pos : Pos} (f : Fr env) (hl : env.kindOf x = some .local) (hn : s.heap.Ns env.locals m) (hv : m x = some v) (hd : (x == ("__debug__" : Str)) = false := by decide)
    (h : Q (.ref s.heap.objs.size) { s with heap := s.heap.push { cls := .type "tuple", data := .seq #[v] } }) : wpAny (model P w) A (eval (.Tuple [.Name x p] k pos) env) Q E s := by
  refine wpAny_Tuple_spliced (args_cons (r_loc f hl hn hv (args_nil ⟨by show 1 ≤ sizeLine; decide, h⟩) hd))
/-- ('..', x) -/
theorem r_tup2 {x c : Str} {v : Value} {j k : Nat} {p pc pos : Pos} (f : Fr env) (hl : env.kindOf x = some .local) (hn : s.heap.Ns env.locals m) (hv : m x = some v) (hd : (x == ("__debug__" : Str)) = false := by decide)
    (h : Q (.ref s.heap.objs.size) { s with toks := s.toks + 1, heap := s.heap.push { cls := .type "tuple", data := .seq #[.str c s.toks, v] } }) : wpAny (model P w) A (eval (.Tuple [.Constant (.str c) j pc, .Name x p] k pos) env) Q E s := by
  refine wpAny_Tuple_spliced (args_cons (Calls.Constant_str (args_cons (r_loc (s := { s with toks := s.toks + 1 }) f hl hn hv (args_nil ⟨by show 2 ≤ sizeLine; decide, h⟩) hd))))
/-- (x, *y), y a tuple -/
theorem r_tupS {x y : Str} {v : Value} {T : Addr} {items : Array Value} {k : Nat} {p p2 p3 pos : Pos} (f : Fr env) (hl : env.kindOf x = some .local) (hl2 : env.kindOf y = some .local) (hn : s.heap.Ns env.locals m) (hv : m x = some v) (hy : m y = some (.ref T)) (hT : s.heap.IsTuple T items) (hz : items.size < 1000)
    (hd : (x == ("__debug__" : Str)) = false := by decide) (hd2 : (y == ("__debug__" : Str)) = false := by decide)
    (h : ∀ (T2 : Nat) h', (∀ b o, s.heap.get? b = some o → h'.get? b = some o) → s.heap.objs.size ≤ T2 → h'.IsTuple T2 (v :: items.toList).toArray → Q (.ref T2) { s with heap := h' }) : wpAny (model P w) A (eval (.Tuple [.Name x p, .Starred (.Name y p2) p3] k pos) env) Q E s := by
  refine wpAny_Tuple_spliced (args_cons (r_loc f hl hn hv ?_ hd))
  refine PySem.W.items_star (r_loc f hl2 hn hy ?_ hd2)
  obtain ⟨o, ho, hc, n, hdt⟩ := hT
  have hTy : s.TypeIs (.ref T) "tuple" := ⟨o, ho, hc⟩
  have z : wpAny (model P w) A (collect (.ref T)) (fun here s₂ => Nx s s₂ → wpAny (model P w) A (spliced (backTo pos (starEach [] env))) (fun vs s₃ => (v :: (here ++ vs)).length ≤ sizeLine ∧ Q (.ref s₃.heap.objs.size) { s₃ with heap := s₃.heap.push { cls := .type "tuple", data := .seq (v :: (here ++ vs)).toArray } }) E s₂) (fun e s₂ => Nx s s₂ → E e s₂) s := by
    refine wpAny_collect_seq T (.inr rfl) ho hc hdt (fun h' hk nx => args_nil ⟨?_, ?_⟩) (by rw [sizeLine_eq]; omega)
    · rw [List.append_nil, List.length_cons, Array.length_toList, sizeLine_eq]
      omega
    · refine h h'.objs.size _ (fun b o e => Heap.get?_push_of_some _ (hk b o e)) nx.sz ?_
      refine ⟨_, Heap.get?_push_size _ rfl, rfl, 0, ?_⟩
      simp
  unfold PySem.W.StarOf notIterableAtAll
  exact wpAny_bind (wpAny_specialOf hTy PySem.F.slot_tuple_iter.lookup (wpAny_pure ⟨rfl, wpAny_nx z⟩))
/-- x[y + 1:] -/
theorem r_slice {x y : Str} {l : Addr} {i : Nat} {t : Tok} {items : Array Value} {j : Nat} {p1 p2 pb pc ps pos : Pos} (f : Fr env) (hl : env.kindOf x = some .local) (hl2 : env.kindOf y = some .local) (hn : s.heap.Ns env.locals m) (hv : m x = some (.ref l)) (hy : m y = some (.int (i : Int) t)) (hL : s.heap.IsList l items) (hz : items.size ≤ 1000)
    (hd : (x == ("__debug__" : Str)) = false := by decide) (hd2 : (y == ("__debug__" : Str)) = false := by decide)
    (h : ∀ L2 h' tk, (∀ b o, s.heap.get? b = some o → h'.get? b = some o) → s.heap.objs.size ≤ L2 → h'.IsList L2 (items.toList.drop (i + 1)).toArray → Q (.ref L2) { s with heap := h', toks := tk }) :
    wpAny (model P w) A (eval (.Subscript (.Name x p1) (.Slice (some (.BinOp (.Name y p2) .Add (.Constant (.int 1) j pc) pb)) none none ps) pos) env) Q E s := by
  refine Subscript_ (r_loc f hl hn hv ?_ hd)
  refine wpAny_Slice ?_
  rw [evalPart_some]
  refine wpAny_BinOp (r_loc f hl2 hn hy ?_ hd2)
  refine wpAny_Constant_int (add_int ?_)
  rw [evalPart_none]
  refine wpAny_pure (wpAny_pure ?_)
  have hk : ∀ (o' : Obj) b o, s.heap.get? b = some o → (s.heap.push o').get? b = some o := fun o' b o e => Heap.get?_push_of_some _ e
  have hL1 : ∀ o', (s.heap.push o').IsList l items := fun o' => hL.at fun o e => hk o' l o e
  refine tail_any (T := "list") (ops := [.ref s.heap.objs.size, .ref l]) (hL1 _).typeIs slot_list_getitem.lookup ?_ (by with_unfolding_all rfl)
  refine wpAny_getItem_list_slice (hL1 _) (Heap.IsSliceOf.new ..) (.int _ _) .none .none (by simp) ?_ (by rw [sizeLine_eq]; omega)
  obtain ⟨its⟩ := items
  rw [slicePick_cut]
  have e : (its.drop (HT.sIx its.length 0 (some ((i : Int) + 1)))).take (HT.sIx its.length its.length none - HT.sIx its.length 0 (some ((i : Int) + 1))) = its.drop (i + 1) := by
    rw [HT.sIx_none, show ((i : Int) + 1) = ((i + 1 : Nat) : Int) from rfl, HT.sIx_nat]
    by_cases c : i + 1 ≤ its.length
    · rw [Nat.min_eq_left c, List.take_of_length_le (by rw [List.length_drop]; omega)]
    · rw [Nat.min_eq_right (by omega), List.drop_of_length_le (by omega : its.length ≤ its.length), List.drop_of_length_le (by omega : its.length ≤ i + 1)]
      exact List.take_nil
  rw [e]
  refine h _ _ _ (fun b o q => Heap.get?_push_of_some _ (hk _ b o q)) ?_ ?_
  · show s.heap.objs.size ≤ (s.heap.push _).objs.size
    rw [Heap.size_push]
    exact Nat.le_succ _
  · exact ⟨_, Heap.get?_push_size _ rfl, rfl, 0, rfl⟩
end
end FB

/-! ## FBGen4 -/
set_option Elab.async false
set_option linter.all false
set_option maxRecDepth 100000
set_option maxHeartbeats 4000000
/-! choices. -/
namespace FB
open PySem PySem.Spec PyProof.Rows L2 GenW
structure CPos where
  k1 : Nat
  k2 : Nat
  k3 : Nat
  j : Nat
  p : Nat → Pos
def CPos.tgt1 (c : CPos) : Expr := .Tuple [.Name "at" (c.p 1), .Name "bit" (c.p 2)] c.k1 (c.p 3)
def CPos.iter1 (c : CPos) : Expr := .Call (.Name "enumerate" (c.p 4)) [.Name "bits" (c.p 5)] [] (c.p 6)
def CPos.y1 (c : CPos) : Stmt := .Expr (.Yield (some (.Tuple [.Name "bit" (c.p 7)] c.k2 (c.p 8))) (c.p 9)) (c.p 10)
def CPos.tgt2 (c : CPos) : Expr := .Name "rest" (c.p 11)
def CPos.iter2 (c : CPos) : Expr := .Call (.Name "choices" (c.p 12)) [.Subscript (.Name "bits" (c.p 13)) (.Slice (some (.BinOp (.Name "at" (c.p 14)) .Add (.Constant (.int 1) c.j (c.p 15)) (c.p 16))) none none (c.p 17)) (c.p 18)] [] (c.p 19)
def CPos.y2 (c : CPos) : Stmt := .Expr (.Yield (some (.Tuple [.Name "bit" (c.p 20), .Starred (.Name "rest" (c.p 21)) (c.p 22)] c.k3 (c.p 23))) (c.p 24)) (c.p 25)
def CPos.body (c : CPos) : List Stmt := [.For c.tgt1 c.iter1 [c.y1, .For c.tgt2 c.iter2 [c.y2] [] (c.p 26)] [] (c.p 27)]
theorem ch_body : ∃ (k1 k2 k3 j : Nat) (p1 p2 p3 p4 p5 p6 p7 p8 p9 p10 p11 p12 p13 p14 p15 p16 p17 p18 p19 p20 p21 p22 p23 p24 p25 p26 p27 : Pos), defBody sChoices =
  [.For (.Tuple [.Name "at" p1, .Name "bit" p2] k1 p3) (.Call (.Name "enumerate" p4) [.Name "bits" p5] [] p6) [.Expr (.Yield (some (.Tuple [.Name "bit" p7] k2 p8)) p9) p10,
    .For (.Name "rest" p11) (.Call (.Name "choices" p12) [.Subscript (.Name "bits" p13) (.Slice (some (.BinOp (.Name "at" p14) .Add (.Constant (.int 1) j p15) p16)) none none p17) p18] [] p19)
      [.Expr (.Yield (some (.Tuple [.Name "bit" p20, .Starred (.Name "rest" p21) p22] k3 p23)) p24) p25] [] p26] [] p27] := ⟨_, _, _, _, _, _, _, _, _, _, _, _, _, _, _, _, _, _, _, _, _, _, _, _, _, _, _, _, _, _, _, rfl⟩
theorem ch_cpos : ∃ c : CPos, defBody sChoices = c.body := by
  obtain ⟨k1, k2, k3, j, p1, p2, p3, p4, p5, p6, p7, p8, p9, p10, p11, p12, p13, p14, p15, p16, p17, p18, p19, p20, p21, p22, p23, p24, p25, p26, p27, e⟩ := ch_body
  refine ⟨⟨k1, k2, k3, j, fun i => [p1, p1, p2, p3, p4, p5, p6, p7, p8, p9, p10, p11, p12, p13, p14, p15, p16, p17, p18, p19, p20, p21, p22, p23, p24, p25, p26, p27].getD i p1⟩, e⟩
/-! ### its frame -/
abbrev chEnv (l f : Addr) (cdv : Value) : Env := envOfC "choices" (defScope sChoices) l f cdv
theorem ch_fr {l f : Addr} {cdv : Value} : Fr (chEnv l f cdv) := ⟨rfl, rfl, rfl⟩
def ispT (B : Nat) (ys : List Nat) : ISp := fun v h => ∃ (T : Nat) (vals : Array Value), v = .ref T ∧ B ≤ T ∧ h.IsTuple T vals ∧ Vals (ys.map natV) vals.toList
def chTot (B : Nat) (xs : List Nat) : List ISp := (choicesM xs).map (ispT B)
theorem chTot_len (B : Nat) (xs : List Nat) : (chTot B xs).length = (choicesM xs).length := List.length_map _
/-- where its things lie -/
structure CO (base : Heap) (B : Nat) (pr : List Addr) (l e it L a : Nat) : Prop where
  bsz : base.objs.size ≤ B
  hl : l = B
  hL : L < l
  ha : l < a
  hit : a < it
  he : it < e
  pl : l ∉ pr
  pa : a ∉ pr
  pit : it ∉ pr
  pe : e ∉ pr
/-- at the head of a turn -/
structure CF (base : Heap) (g : Nat) (pr : List Addr) (l e it L a : Nat) (items : Array Value) (i : Nat) (q : (Str → Option Value) → Prop) (s : Shared) : Prop where
  ns : ∃ m, s.heap.Ns l m ∧ m "bits" = some (.ref L) ∧ q m
  en : ∃ old, IsEnum s.heap e it ((0 : Int) + (i : Int)) old
  li : s.heap.IsListIter it L i
  ls : s.heap.IsList L items
  isg : s.heap.IsGen a g
  base : ∀ b o, base.get? b = some o → s.heap.get? b = some o
  bare : AllBare s.gens
  prx : ∀ b ∈ pr, ∃ o, s.heap.get? b = some o
  gl : g < s.gens.size
theorem isEnum_at {h h' : Heap} {e it : Addr} {i : Int} {old : Value} (x : IsEnum h e it i old) (k : ∀ o, h.get? e = some o → h'.get? e = some o) : IsEnum h' e it i old := by
  first
    | exact k _ x
    | (obtain ⟨o, ho, r⟩ := x; exact ⟨o, k _ ho, r⟩)
theorem Evo.heap0 {B g : Nat} {pr : List Addr} {s s' : Shared} (x : Evo [] B g pr s s') (b : Addr) (o : Obj) (z : s.heap.get? b = some o) (h : b < B ∨ b ∈ pr ∨ TupO o) : s'.heap.get? b = some o := x.heap b o z h (by simp)
section
variable {base : Heap} {B g : Nat} {pr : List Addr} {l e it L a : Nat} {items : Array Value} {i : Nat} {q : (Str → Option Value) → Prop} {s s' : Shared}
theorem CF.keep (c : CF base g pr l e it L a items i q s) (k : ∀ b, b = l ∨ b = e ∨ b = it ∨ b = L ∨ b = a → ∀ o, s.heap.get? b = some o → s'.heap.get? b = some o)
    (hb : ∀ b o, base.get? b = some o → s'.heap.get? b = some o) (ha : AllBare s'.gens) (hp : ∀ b ∈ pr, ∃ o, s'.heap.get? b = some o) (hg : g < s'.gens.size) : CF base g pr l e it L a items i q s' := by
  obtain ⟨m, hn, h1, h2⟩ := c.ns
  obtain ⟨old, he⟩ := c.en
  exact ⟨⟨m, hn.at' fun o z => k l (.inl rfl) o z, h1, h2⟩, ⟨old, isEnum_at he (k e (.inr (.inl rfl)))⟩, c.li.at (k it (.inr (.inr (.inl rfl)))), c.ls.at (k L (.inr (.inr (.inr (.inl rfl))))), isGen_at c.isg (k a (.inr (.inr (.inr (.inr rfl))))), hb, ha, hp, hg⟩
/-- its consumer went on -/
theorem CF.slp (co : CO base B pr l e it L a) (c : CF base g pr l e it L a items i q s) (x : Slp base B g pr [L] s s') : CF base g pr l e it L a items i q s' := by
  obtain ⟨c1, c2, c3, c4, c5, c6, c7, c8, c9, c10⟩ := co
  refine c.keep (fun b hb o z => x.own b o z ?_) x.base x.bare x.prx (Nat.lt_of_lt_of_le c.gl x.gsz)
  rcases hb with rfl | rfl | rfl | rfl | rfl
  · exact .inl ⟨by omega, c7⟩
  · exact .inl ⟨by omega, c10⟩
  · exact .inl ⟨by omega, c9⟩
  · exact .inr (by simp)
  · exact .inl ⟨by omega, c8⟩
/-- a generator that it has made ran -/
theorem CF.evo {B2 g2 : Nat} (co : CO base B pr l e it L a) (c : CF base g pr l e it L a items i q s) (x : Evo [] B2 g2 pr s s') (hB : e < B2) : CF base g pr l e it L a items i q s' := by
  obtain ⟨c1, c2, c3, c4, c5, c6, c7, c8, c9, c10⟩ := co
  have hk : ∀ b : Nat, b < base.objs.size → b < B2 := fun b h => by omega
  have hk2 : ∀ b : Nat, b = l ∨ b = e ∨ b = it ∨ b = L ∨ b = a → b < B2 := fun b h => by omega
  refine c.keep (fun b hb o z => x.heap0 b o z (.inl (hk2 b hb))) (fun b o z => x.heap0 b o (c.base b o z) (.inl (hk b (Heap.lt_size z)))) (x.bare c.bare) (fun b hb => let ⟨o, z⟩ := c.prx b hb; ⟨o, x.heap0 b o z (.inr (.inl hb))⟩) (Nat.lt_of_lt_of_le c.gl x.gsz)
theorem Evo.weaken {B2 g2 : Nat} (x : Evo [] B2 g2 pr s s') (h1 : B ≤ B2) (h2 : g ≤ g2) : Evo [] B g pr s s' :=
  ⟨fun b o z h _ => x.heap0 b o z (h.elim (fun h => .inl (Nat.lt_of_lt_of_le h h1)) .inr), fun _ _ _ h => by simp at h, fun i hi => x.gens i (by omega), x.gsz, x.os, x.bare⟩
/-- a name of its own is stored -/
theorem CF.store {x : Str} {v : Value} {h' : Heap} {tk : Nat} {m : Str → Option Value} {q' : (Str → Option Value) → Prop} (co : CO base B pr l e it L a) (c : CF base g pr l e it L a items i q s) (hb : m "bits" = some (.ref L)) (hn : h'.Ns l (fun y => if y = x then some v else m y)) (hs : Heap.SameBut l s.heap h') (hx : x ≠ "bits")
    (hq : q' (fun y => if y = x then some v else m y)) : CF base g pr l e it L a items i q' { s with heap := h', toks := tk } := by
  obtain ⟨c1, c2, c3, c4, c5, c6, c7, c8, c9, c10⟩ := co
  have k : ∀ b o, b ≠ l → s.heap.get? b = some o → h'.get? b = some o := fun b o hb z => hs.extBut b o hb z
  obtain ⟨old, he⟩ := c.en
  refine ⟨⟨_, hn, ?_, hq⟩, ⟨old, isEnum_at he fun o z => k e o (by omega) z⟩, c.li.at fun o z => k it o (by omega) z, c.ls.at fun o z => k L o (by omega) z, isGen_at c.isg fun o z => k a o (by omega) z, fun b o z => ?_, c.bare, fun b hb => ?_, c.gl⟩
  · rw [if_neg (fun h => hx h.symm)]
    exact hb
  · have hk : ∀ b : Nat, b < base.objs.size → b ≠ l := fun b h => by omega
    exact k b o (hk b (Heap.lt_size z)) (c.base b o z)
  · obtain ⟨o, z⟩ := c.prx b hb
    exact ⟨o, k b o (fun h => c7 (h ▸ hb)) z⟩
theorem Evo.store {h' : Heap} {tk : Nat} (co : CO base B pr l e it L a) (c : CF base g pr l e it L a items i q s) (hs : Heap.SameBut l s.heap h') : Evo [] B g pr s { s with heap := h', toks := tk } := by
  obtain ⟨m, hn, _⟩ := c.ns
  obtain ⟨ol, hol, hd⟩ : ∃ o, s.heap.get? l = some o ∧ ¬ TupO o := by
    obtain ⟨o, es, ep, ho, hdt, _⟩ := hn
    exact ⟨o, ho, fun ⟨_, its, n, z⟩ => by rw [hdt] at z; cases z⟩
  refine ⟨fun b o z h _ => hs.extBut b o (fun h2 => ?_) z, fun _ _ _ h => by simp at h, fun _ _ => rfl, Nat.le_refl _, rfl, fun h => h⟩
  subst h2
  rcases h with h | h | h
  · exact absurd (co.hl ▸ h) (Nat.lt_irrefl _)
  · exact co.pl h
  · rw [hol] at z
    cases z
    exact hd h
end
end FB

/-! ## FBGen5 -/
set_option Elab.async false
set_option linter.all false
set_option maxRecDepth 100000
set_option maxHeartbeats 4000000
/-! choices: its loops. -/
namespace FB
open PySem PySem.Spec PyProof.Rows L2 GenW
def bitQ (x : Nat) : (Str → Option Value) → Prop := fun m => ∃ t, m "bit" = some (.int (x : Int) t)
theorem idx_at {α : Type} {l a b : List α} {y : α} (h : l = a ++ y :: b) : l[l.length - 1 - b.length]? = some y := by
  subst h
  rw [List.length_append, List.length_cons, show a.length + (b.length + 1) - 1 - b.length = a.length by omega, List.getElem?_append_right (Nat.le_refl _), Nat.sub_self]
  rfl
theorem isTuple_ne {h h' : Heap} {l T : Addr} {m : Str → Option Value} {vals : Array Value} (hn : h.Ns l m) (hT : h.IsTuple T vals) (hs : Heap.SameBut l h h') : h'.IsTuple T vals := by
  obtain ⟨o, ho, hc, n, hd⟩ := hT
  refine ⟨o, hs.extBut T o (fun e => ?_) ho, hc, n, hd⟩
  subst e
  obtain ⟨o2, es, ep, ho2, hd2, _⟩ := hn
  rw [ho] at ho2
  cases ho2
  rw [hd] at hd2
  cases hd2
/-- a namespace stays one -/
theorem nrec_store {h h' : Heap} {l : Addr} {m m' : Str → Option Value} (hn : h.Ns l m) (hn' : h'.Ns l m') (hs : Heap.SameBut l h h') : ∀ b o, h.get? b = some o → (∀ vs, o.data ≠ .fields vs) → ∃ o', h'.get? b = some o' ∧ ∀ vs, o'.data ≠ .fields vs := by
  intro b o e hz
  by_cases hb : b = l
  · subst hb
    obtain ⟨o2, es, ep, ho2, hd2, _⟩ := hn'
    exact ⟨o2, ho2, fun vs q => by rw [hd2] at q; cases q⟩
  · exact ⟨o, hs.extBut b o hb e, hz⟩
theorem isTuple_at {h h' : Heap} {T : Addr} {vals : Array Value} (hT : h.IsTuple T vals) (k : ∀ o, h.get? T = some o → h'.get? T = some o) : h'.IsTuple T vals :=
  let ⟨o, ho, r⟩ := hT; ⟨o, k _ ho, r⟩
section
variable {P : Program} {w : World} {K : PySem.W.Frag} {mg : Str → Option Value} {base : Heap}
theorem ch_in (c : CPos) {A1 A2 : Around} {B g : Nat} {pr : List Addr} {l e it L a L2 a2 : Nat} {f : Addr} {cdv : Value} {items : Array Value} {i k : Nat} {B2 g2 : Nat} {fs2 : List Frame} {x : Nat} {ys : List Nat} {tail tot pre : List (List Nat)}
    (co : CO base B pr l e it L a) (hov : A1.over (.forLoop c.tgt2 (.ref a2) [c.y2] [] (chEnv l f cdv)) fs2 = A2) (hsp : splitAtGen fs2 = none) (hgu : fs2.any Frame.guarded = false) (hA : Room k A2) (nl : base.NoLimit)
    (hB2 : e < B2) (hg2 : g < g2) (hL2 : B ≤ L2) (hL2l : L2 ≠ l) (hL2p : L2 ∉ pr) (htot : tot = pre ++ (choicesM ys).map (x :: ·) ++ tail) (hlen : ∀ z ∈ choicesM ys, z.length ≤ 900)
    (hend : ∀ (s₀ s : Shared), Evo [] B g pr s₀ s → CF base g pr l e it L a items (i + 1) (bitQ x) s → Seg (model P w) A1 (RL [] B g pr) (YL [] base B g g a pr [L] (tot.map (ispT B))) tail.length s₀ (.forLoop c.tgt2 (.ref a2) [c.y2] [] (chEnv l f cdv)) (.pure (.again (.block [] (chEnv l f cdv)))) fs2 s) :
    ∀ (rest done : List (List Nat)) (s₀ s : Shared), choicesM ys = done ++ rest → Evo [] B g pr s₀ s → CF base g pr l e it L a items (i + 1) (bitQ x) s → Live [] P w base A2 B2 g2 pr [L2] a2 g2 (chTot B2 ys) rest.length s →
      Seg (model P w) A1 (RL [] B g pr) (YL [] base B g g a pr [L] (tot.map (ispT B))) (rest.length + tail.length) s₀ (.forLoop c.tgt2 (.ref a2) [c.y2] [] (chEnv l f cdv)) ((model P w).den (.forLoop c.tgt2 (.ref a2) [c.y2] [] (chEnv l f cdv))) fs2 s := by
  intro rest
  induction rest with
  | nil =>
    intro done s₀ s hd ev cf lv
    refine seg_forLoop ?_
    rw [hov]
    refine stop_live lv hA.hd hA.depth nl cf.base cf.bare cf.prx fun s2 ev2 => ?_
    have q := hend s₀ s2 (ev.trans (ev2.weaken (Nat.le_of_lt (Nat.lt_of_le_of_lt (by have := co.hl; have := co.ha; have := co.hit; have := co.he; omega) hB2)) (Nat.le_of_lt hg2))) (cf.evo co ev2 hB2)
    rw [List.length_nil, Nat.zero_add]
    exact q
  | cons y rest ih =>
    intro done s₀ s hd ev cf lv
    have hBB : B ≤ B2 := by have := co.hl; have := co.ha; have := co.hit; have := co.he; omega
    have en : (y :: rest).length + tail.length = (rest.length + tail.length) + 1 := by rw [List.length_cons]; omega
    rw [en]
    refine seg_forLoop ?_
    rw [hov]
    refine next_live lv hA.hd hA.depth nl cf.base cf.bare cf.prx fun v s2 sp h1 h2 ev2 lv2 => ?_
    have esp : sp = ispT B2 y := by
      have q := idx_at (l := chTot B2 ys) (a := done.map (ispT B2)) (y := ispT B2 y) (b := rest.map (ispT B2)) (by unfold chTot; rw [hd, List.map_append, List.map_cons])
      rw [List.length_map] at q
      rw [h1] at q
      exact Option.some.inj q
    subst esp
    obtain ⟨Tt, vals, rfl, _, hT, hv⟩ := h2
    have cf2 := cf.evo co ev2 hB2
    have evc := ev.trans (ev2.weaken hBB (Nat.le_of_lt hg2))
    obtain ⟨m, hn, hb, t, hbit⟩ := cf2.ns
    show wpAny (model P w) A2 (letOwnedTupleGo c.tgt2 (.ref a2) (.ref Tt)) _ _ s2
    refine wpAny_of_eq (a := ()) rfl ?_
    refine wpAny_assign_Name (wpAny_storeName_local rfl hn fun h3 hn3 hs3 => ?_)
    have evs : Evo [] B g pr s2 { s2 with heap := h3, toks := s2.toks + 1 } := Evo.store co cf2 hs3
    have cf3 : CF base g pr l e it L a items (i + 1) (bitQ x) { s2 with heap := h3, toks := s2.toks + 1 } := cf2.store co hb hn3 hs3 (by decide) ⟨t, (if_neg (by decide)).trans hbit⟩
    have hT3 : h3.IsTuple Tt vals := isTuple_ne hn hT hs3
    have hyl : y.length ≤ 900 := hlen y (by rw [hd]; simp)
    have hvl : vals.size < 1000 := by
      have q : y.length = vals.size := by simpa using hv.length
      omega
    have hBh : B ≤ h3.objs.size := by
      have q := hn3.lt
      have key : ∀ n : Nat, l < n → B ≤ n := fun n h => by have := co.hl; omega
      exact key _ q
    refine seg_execs_cons ?_
    refine seg_Expr_Yield hsp rfl hgu ?_
    rw [hov]
    refine r_tupS (T := Tt) (items := vals) (v := .int (x : Int) t) ch_fr rfl rfl hn3 ((if_neg (by decide)).trans hbit) (if_pos rfl) hT3 hvl (h := fun T2 h4 hk4 hT2z hT2 => ?_)
    intro kap hkap
    have cf4 : CF base g pr l e it L a items (i + 1) (bitQ x) { s2 with heap := h4, toks := s2.toks + 1 } := cf3.keep (fun b _ o z => hk4 b o z) (fun b o z => hk4 b o (cf3.base b o z)) cf3.bare (fun b hb => let ⟨o, z⟩ := cf3.prx b hb; ⟨o, hk4 b o z⟩) cf3.gl
    have ev4 : Evo [] B g pr s₀ { s2 with heap := h4, toks := s2.toks + 1 } := (evc.trans evs).trans (.exact (fun b o z _ => hk4 b o z) (fun _ _ => rfl) (Nat.le_refl _) rfl fun h => h)
    refine ⟨ispT B (x :: y), ?_, ⟨T2, _, rfl, Nat.le_trans hBh hT2z, hT2, ?_⟩, ev4, cf4.isg, cf4.gl, fun s' sl ig => hkap .none s' ?_⟩
    · have eq : tot.map (ispT B) = (pre ++ done.map (x :: ·)).map (ispT B) ++ ispT B (x :: y) :: (rest.map (x :: ·) ++ tail).map (ispT B) := by simp [htot, hd]
      have q := idx_at eq
      rw [show ((rest.map (x :: ·) ++ tail).map (ispT B)).length = rest.length + tail.length by simp] at q
      exact q
    · show Vals (natV x :: y.map natV) (Value.int (x : Int) t :: vals.toList)
      exact .cons ⟨t, rfl⟩ hv
    · refine seg_execs_nil ?_
      refine seg_again rfl ?_
      have hk24 : ∀ b o, b ≠ l → s2.heap.get? b = some o → h4.get? b = some o := fun b o hbl z => hk4 b o (hs3.extBut b o hbl z)
      refine ih (done ++ [y]) s' s' (by rw [hd]; simp) Evo.refl (cf4.slp co sl) (lv2.slp ⟨fun b o z h => ?_, sl.base, fun j h1 h2 => sl.gens j (by omega) h2, sl.gsz, sl.os, sl.bare, sl.prx, fun b o z hz => ?_⟩ (sl.gens g2 hg2 lv2.lt))
      rotate_left
      · obtain ⟨o1, e1, hz1⟩ := nrec_store hn hn3 hs3 b o z hz
        exact sl.nrec b o1 (hk4 b o1 e1) hz1
      rcases h with ⟨h5, h6⟩ | h5
      · refine sl.own b o (hk24 b o (fun hbl => ?_) z) (.inl ⟨Nat.le_trans hBB h5, h6⟩)
        rw [hbl] at h5
        have := co.ha; have := co.hit; have := co.he
        exact absurd (Nat.le_trans h5 (Nat.le_refl l)) (by omega)
      · have hbL : b = L2 := by simpa using h5
        subst hbL
        exact sl.own _ o (hk24 _ o hL2l z) (.inl ⟨hL2, hL2p⟩)
end
end FB

/-! ## FBGen6 -/
set_option Elab.async false
set_option linter.all false
set_option maxRecDepth 100000
set_option maxHeartbeats 4000000
/-! choices: a call's promise. -/
namespace FB
open PySem PySem.Spec PyProof.Rows L2 GenW
theorem choices_cons (x : Nat) (r : List Nat) : choicesM (x :: r) = [x] :: ((choicesM r).map (x :: ·) ++ choicesM r) := rfl
theorem choices_len : ∀ (xs : List Nat), ∀ z ∈ choicesM xs, z.length ≤ xs.length
  | [], z, h => by cases h
  | x :: r, z, h => by
    rw [choices_cons] at h
    rcases List.mem_cons.mp h with rfl | h
    · simp
    · rcases List.mem_append.mp h with h | h
      · obtain ⟨y, hy, rfl⟩ := List.mem_map.mp h
        have := choices_len r y hy
        simp only [List.length_cons]
        omega
      · have := choices_len r z h
        simp only [List.length_cons]
        omega
section
variable {P : Program} {w : World} {K : PySem.W.Frag} {mg : Str → Option Value} {base : Heap}
/-- what a call of choices gives -/
def MadeC (P : Program) (w : World) (base : Heap) (ys : List Nat) (L : Addr) (s : Shared) (u : Value) (s' : Shared) : Prop :=
  ∃ (a : Nat) (x : GenState) (h' : Heap) (tk : Nat), u = .ref a ∧ s' = { s with heap := h', gens := s.gens.push x, toks := tk } ∧ (∀ b o, s.heap.get? b = some o → h'.get? b = some o) ∧ s.heap.objs.size < a ∧ a < h'.objs.size ∧ x.bare = true ∧ h'.IsGen a s.gens.size ∧
    ∀ (A' : Around) (pr : List Addr), Room (2 * ys.length + 4) A' → (∀ b ∈ pr, b < s.heap.objs.size ∨ h'.objs.size ≤ b) → Live [] P w base A' s.heap.objs.size s.gens.size pr [L] a s.gens.size (chTot s.heap.objs.size ys) (choicesM ys).length s'
def ChOk (P : Program) (w : World) (K : PySem.W.Frag) (base : Heap) (n : Nat) : Prop :=
  ∀ (ys : List Nat), ys.length < n → ∀ (A : Around) (s : Shared) (L : Addr) (items : Array Value), Room (2 * ys.length + 4) A → (∀ b o, base.get? b = some o → s.heap.get? b = some o) → base.objs.size ≤ s.heap.objs.size → s.heap.IsList L items → Vals (ys.map natV) items.toList →
    codeAny (model P w) A (.call (.ref (a_choices K)) ⟨[.ref L], []⟩) (fun r s' => match r with | .ok (.ret u) => MadeC P w base ys L s u s' | _ => False) s
theorem ch_out (T : Txt K mg) (md : Mod K mg base) (c : CPos) {A1 A2 : Around} {B g : Nat} {pr : List Addr} {l e it L a : Nat} {f : Addr} {cdv : Value} {items : Array Value} {fs1 : List Frame} {xs : List Nat} {body : List Stmt} (hbody : body = [c.y1, .For c.tgt2 c.iter2 [c.y2] [] (c.p 26)])
    (co : CO base B pr l e it L a) (hov : A1.over (.forLoop c.tgt1 (.ref e) body [] (chEnv l f cdv)) fs1 = A2) (hsp : splitAtGen fs1 = none) (hgu : fs1.any Frame.guarded = false) (hA : Room (2 * xs.length + 2) A2)
    (hxs : xs.length ≤ 900) (hits : Vals (xs.map natV) items.toList) (IH : ChOk P w K base xs.length)
    (hend : ∀ (s₀ s : Shared), Evo [] B g pr s₀ s → Seg (model P w) A1 (RL [] B g pr) (YL [] base B g g a pr [L] (chTot B xs)) 0 s₀ (.forLoop c.tgt1 (.ref e) body [] (chEnv l f cdv)) (.pure (.again (.block [] (chEnv l f cdv)))) fs1 s) :
    ∀ (r i : Nat) (pre : List (List Nat)) (s₀ s : Shared), i + r = xs.length → choicesM xs = pre ++ choicesM (xs.drop i) → Evo [] B g pr s₀ s → CF base g pr l e it L a items i (fun _ => True) s →
      Seg (model P w) A1 (RL [] B g pr) (YL [] base B g g a pr [L] (chTot B xs)) (choicesM (xs.drop i)).length s₀ (.forLoop c.tgt1 (.ref e) body [] (chEnv l f cdv)) ((model P w).den (.forLoop c.tgt1 (.ref e) body [] (chEnv l f cdv))) fs1 s := by
  have hsz : items.size = xs.length := by simpa using hits.length.symm
  obtain ⟨o1, o2, o3, o4, o5, o6, o7, o8, o9, o10⟩ := id co
  have n1 : L ≠ it := by omega
  have n2 : e ≠ it := by omega
  have n3 : e ≠ L := by omega
  have n4 : l ≠ e := by omega
  have n5 : l ≠ it := by omega
  have n6 : a ≠ e := by omega
  have n7 : a ≠ it := by omega
  have n8 : L ≠ e := by omega
  have n9 : B ≤ e ∧ B ≤ it := by omega
  have W := GoesN.enumFrom (elts := [.Name "at" (c.p 1), .Name "bit" (c.p 2)]) (x1 := c.k1) (pos := c.p 3) 0 (Draws.list (prog := P) (w := w) (A := A2.in1) hA.hd it L n1 items) e n2 (fun h => (List.mem_cons.mp h).elim n2 fun h => (List.mem_cons.mp h).elim n3 (fun h => by cases h)) (by simp)
  have wrote : ∀ {i : Nat} {q : (Str → Option Value) → Prop} {s : Shared} {h' : Heap} {tk : Nat}, CF base g pr l e it L a items i q s → (∀ b o, b ∉ [e, it] → s.heap.get? b = some o → h'.get? b = some o) → Evo [] B g pr s { s with heap := h', toks := tk } := fun {i q s h' tk} cf hk => by
    refine Evo.wrote hk fun b hb => ?_
    obtain ⟨old, he⟩ := cf.en
    obtain ⟨o, ho, hc, hd⟩ := cf.li
    rcases List.mem_cons.mp hb with rfl | hb
    · exact ⟨n9.1, o10, by simp, _, he, fun ⟨_, its, n, z⟩ => nomatch z⟩
    · rcases List.mem_cons.mp hb with rfl | hb
      · exact ⟨n9.2, o9, by simp, o, ho, fun ⟨_, its, n, z⟩ => by rw [hd] at z; cases z⟩
      · cases hb
  have nw : ∀ b : Addr, b ≠ e → b ≠ it → b ∉ [e, it] := fun b h1 h2 h => (List.mem_cons.mp h).elim h1 fun h => (List.mem_cons.mp h).elim h2 (fun h => by cases h)
  intro r
  induction r with
  | zero =>
    intro i pre s₀ s hi hpre ev cf
    have hi' : i = items.size := by omega
    have en : (choicesM (xs.drop i)).length = 0 := by
      rw [List.drop_of_length_le (by omega)]
      rfl
    rw [en]
    refine seg_forLoop ?_
    rw [hov]
    have st : (∃ old, IsEnum s.heap e it ((0 : Int) + (items.size : Int)) old) ∧ s.heap.IsListIter it L items.size ∧ s.heap.IsList L items := by
      rw [← hi']
      exact ⟨cf.en, cf.li, cf.ls⟩
    refine wpAny_mono (W.stops s (fun s₁ => Evo [] B g pr s s₁) _ st fun h' tk hk htk => ?_) (fun r s₁ ⟨hr, ev1⟩ => ?_) fun _ _ z => z
    · exact wrote cf hk
    · subst hr
      exact hend s₀ s₁ (ev.trans ev1)
  | succ r ih =>
    intro i pre s₀ s hi hpre ev cf
    have hil : i < xs.length := by omega
    have hdr : xs.drop i = xs[i] :: xs.drop (i + 1) := List.drop_eq_getElem_cons hil
    have en : (choicesM (xs.drop i)).length = ((choicesM (xs.drop (i + 1))).length + (choicesM (xs.drop (i + 1))).length) + 1 := by
      rw [hdr, choices_cons, List.length_cons, List.length_append, List.length_map]
    rw [en]
    refine seg_forLoop ?_
    rw [hov]
    refine wpAny_mono (W.goes i s (fun v s₂ => wpAny (model P w) A2 (assign c.tgt1 (chEnv l f cdv) v) (fun _ s3 => Seg (model P w) A1 (RL [] B g pr) (YL [] base B g g a pr [L] (chTot B xs)) ((choicesM (xs.drop (i + 1))).length + (choicesM (xs.drop (i + 1))).length + 1) s₀ (.forLoop c.tgt1 (.ref e) body [] (chEnv l f cdv)) ((execs body (chEnv l f cdv)).wrap (turnK c.tgt1 (.ref e) body (chEnv l f cdv)) (turnJ (chEnv l f cdv)) id id) fs1 s3) (fun _ _ => False) s₂) _ (by omega) ⟨cf.en, cf.li, cf.ls⟩ fun v h' tk hY st' hk htk => ?_) (fun r s₁ hr => ?_) fun _ _ z => z
    rotate_left
    · obtain ⟨v, hr, hw⟩ := hr
      subst hr
      exact hw
    obtain ⟨Tt, t, xv, rfl, _, hxv, hT⟩ := hY
    obtain ⟨m, hn, hb, _⟩ := cf.ns
    have ev1 := ev.trans (wrote (tk := tk) cf hk)
    have cf1 : CF base g pr l e it L a items (i + 1) (fun _ => True) { s with heap := h', toks := tk } :=
      ⟨⟨m, hn.at' fun o z => hk l o (nw l n4 n5) z, hb, trivial⟩, st'.1, st'.2.1, st'.2.2, isGen_at cf.isg fun o z => hk a o (nw a n6 n7) z, fun b o z => (wrote (tk := tk) cf hk).heap0 b o (cf.base b o z) (.inl (Nat.lt_of_lt_of_le (Heap.lt_size z) o1)),
        cf.bare, fun b hb => let ⟨o, z⟩ := cf.prx b hb; ⟨o, (wrote (tk := tk) cf hk).heap0 b o z (.inr (.inl hb))⟩, cf.gl⟩
    obtain ⟨t', rfl⟩ : ∃ t', xv = .int ((xs[i] : Nat) : Int) t' := by
      have hxi : (xs.map natV)[i]? = some (natV xs[i]) := by rw [List.getElem?_map, List.getElem?_eq_getElem hil]; rfl
      obtain ⟨u, hu, ru⟩ := hits.get hxi
      have : xv = u := by
        have q : items.toList[i]? = some xv := by simpa using hxv
        rw [hu] at q
        exact (Option.some.inj q).symm
      rw [this]
      exact ru
    refine assign_Tuple_tuple hA.hd hT rfl rfl fun h2 hx2 => ?_
    have hk2 : ∀ b o, h'.get? b = some o → h2.get? b = some o := fun b o z => hx2 b o (Nat.ne_of_lt (Heap.lt_size z)) z
    have cf2 : CF base g pr l e it L a items (i + 1) (fun _ => True) { s with heap := h2, toks := tk } := cf1.keep (fun b _ o z => hk2 b o z) (fun b o z => hk2 b o (cf1.base b o z)) cf1.bare (fun b hb => let ⟨o, z⟩ := cf1.prx b hb; ⟨o, hk2 b o z⟩) cf1.gl
    have ev2 : Evo [] B g pr s₀ { s with heap := h2, toks := tk } := ev1.trans (.exact (fun b o z _ => hk2 b o z) (fun _ _ => rfl) (Nat.le_refl _) rfl fun h => h)
    obtain ⟨m2, hn2, hb2, _⟩ := cf2.ns
    show wpAny (model P w) A2 (assignInOrder [assign (.Name "at" (c.p 1)) (chEnv l f cdv), assign (.Name "bit" (c.p 2)) (chEnv l f cdv)] [.int ((0 : Int) + (i : Int)) t, .int ((xs[i] : Nat) : Int) t']) _ _ _
    refine assignInOrder_cons (wpAny_assign_Name (wpAny_storeName_local rfl hn2 fun h3 hn3 hs3 => ?_))
    have ev3 := ev2.trans (Evo.store (s := { s with heap := h2, toks := tk }) (tk := tk + 1) co cf2 hs3)
    have cf3 : CF base g pr l e it L a items (i + 1) (fun m => ∃ t, m "at" = some (.int (i : Int) t)) { s with heap := h3, toks := tk + 1 } := CF.store (s := { s with heap := h2, toks := tk }) co cf2 hb2 hn3 hs3 (by decide) ⟨t, (if_pos rfl).trans (by rw [Int.zero_add])⟩
    obtain ⟨m3, hn3, hb3, t3, hat3⟩ := cf3.ns
    refine assignInOrder_cons (wpAny_assign_Name (wpAny_storeName_local rfl hn3 fun h4 hn4 hs4 => assignInOrder_nil ?_))
    have ev4 := ev3.trans (Evo.store (s := { s with heap := h3, toks := tk + 1 }) (tk := tk + 1 + 1) co cf3 hs4)
    have cf4 : CF base g pr l e it L a items (i + 1) (fun m => (∃ t, m "at" = some (.int (i : Int) t)) ∧ bitQ xs[i] m) { s with heap := h4, toks := tk + 1 + 1 } := CF.store (s := { s with heap := h3, toks := tk + 1 }) co cf3 hb3 hn4 hs4 (by decide) ⟨⟨t3, (if_neg (by decide)).trans hat3⟩, t', if_pos rfl⟩
    subst hbody
    refine seg_execs_cons ?_
    refine seg_Expr_Yield hsp rfl hgu ?_
    rw [hov]
    obtain ⟨m4, hn4, hb4, ⟨t4, hat4⟩, t5, hbit4⟩ := cf4.ns
    have hBh4 : B ≤ h4.objs.size := by
      have q := hn4.lt
      have key : ∀ n : Nat, l < n → B ≤ n := fun n h => by omega
      exact key _ q
    refine r_tup1 ch_fr rfl hn4 hbit4 (h := ?_)
    intro kap hkap
    have hk5 : ∀ b o, h4.get? b = some o → (h4.push ({ cls := .type "tuple", data := .seq #[.int ((xs[i] : Nat) : Int) t5] } : Obj)).get? b = some o := fun b o z => Heap.get?_push_of_some _ z
    have cf5 : CF base g pr l e it L a items (i + 1) (fun m => (∃ t, m "at" = some (.int (i : Int) t)) ∧ bitQ xs[i] m) { s with heap := h4.push ({ cls := .type "tuple", data := .seq #[.int ((xs[i] : Nat) : Int) t5] } : Obj), toks := tk + 1 + 1 } :=
      cf4.keep (fun b _ o z => hk5 b o z) (fun b o z => hk5 b o (cf4.base b o z)) cf4.bare (fun b hb => let ⟨o, z⟩ := cf4.prx b hb; ⟨o, hk5 b o z⟩) cf4.gl
    have ev5 : Evo [] B g pr s₀ { s with heap := h4.push ({ cls := .type "tuple", data := .seq #[.int ((xs[i] : Nat) : Int) t5] } : Obj), toks := tk + 1 + 1 } := ev4.trans (.exact (fun b o z _ => hk5 b o z) (fun _ _ => rfl) (Nat.le_refl _) rfl fun h => h)
    refine ⟨ispT B [xs[i]], ?_, ⟨h4.objs.size, _, rfl, hBh4, ⟨_, Heap.get?_push_size _ rfl, rfl, _, rfl⟩, .cons ⟨t5, rfl⟩ .nil⟩, ev5, cf5.isg, cf5.gl, fun s' sl ig => hkap .none s' ?_⟩
    · have eq : chTot B xs = pre.map (ispT B) ++ ispT B [xs[i]] :: ((choicesM (xs.drop (i + 1))).map (xs[i] :: ·) ++ choicesM (xs.drop (i + 1))).map (ispT B) := by
        unfold chTot
        rw [hpre, hdr, choices_cons, List.map_append, List.map_cons]
      have q := idx_at eq
      rw [show (((choicesM (xs.drop (i + 1))).map (xs[i] :: ·) ++ choicesM (xs.drop (i + 1))).map (ispT B)).length = (choicesM (xs.drop (i + 1))).length + (choicesM (xs.drop (i + 1))).length by simp] at q
      exact q
    have cf6 := cf5.slp co sl
    refine seg_execs_cons ?_
    refine seg_For ?_
    rw [hov]
    obtain ⟨m6, hn6, hb6, ⟨t6, hat6⟩, hbit6⟩ := cf6.ns
    refine wpAny_Call_Name_kw (r_glob md cf6.base ch_fr rfl T.g_choices (PySem.W.callWith_K (h₀ := base) md.kin T.choices.kp (args_cons (r_slice ch_fr rfl rfl hn6 hb6 hat6 cf6.ls (by omega) (h := fun L2 h7 tk7 hk7 hL2 hL7 => args_nil ⟨md.kin.keeps fun b o z => hk7 b o (cf6.base b o z), wpAny_call ?_⟩))) rfl rfl))
    have hdl : (xs.drop (i + 1)).length = xs.length - (i + 1) := List.length_drop
    have cf7 : CF base g pr l e it L a items (i + 1) (fun m => (∃ t, m "at" = some (.int (i : Int) t)) ∧ bitQ xs[i] m) { s' with heap := h7, toks := tk7 } := cf6.keep (fun b _ o z => hk7 b o z) (fun b o z => hk7 b o (cf6.base b o z)) cf6.bare (fun b hb => let ⟨o, z⟩ := cf6.prx b hb; ⟨o, hk7 b o z⟩) cf6.gl
    have hB7 : B ≤ h7.objs.size := by
      obtain ⟨m7, hn7, _⟩ := cf7.ns
      have := hn7.lt
      exact Nat.le_of_lt (by rw [← o2]; exact this)
    have he7 : e < h7.objs.size := by
      obtain ⟨old, he⟩ := cf7.en
      exact Heap.lt_size he
    have hrest : Vals ((xs.drop (i + 1)).map natV) (items.toList.drop (i + 1)).toArray.toList := by
      rw [List.map_drop]
      exact hits.drop (i + 1)
    refine codeAny_mono (IH (xs.drop (i + 1)) (by omega) A2 { s' with heap := h7, toks := tk7 } L2 _ (hA.mono (by omega)) cf7.base (Nat.le_trans o1 hB7) hL7 hrest) fun r8 s8 hr8 => ?_
    obtain ⟨u, rfl, a2, x8, h8, tk8, rfl, rfl, hk8, ha2, ha2', hx8, hig, live⟩ : ∃ u, r8 = .ok (.ret u) ∧ MadeC P w base (xs.drop (i + 1)) L2 { s' with heap := h7, toks := tk7 } u s8 := by
      cases r8 with
      | error e => exact hr8.elim
      | ok fl =>
        cases fl with
        | ret u => exact ⟨u, rfl, hr8⟩
        | next => exact hr8.elim
        | brk => exact hr8.elim
        | cont => exact hr8.elim
    have gi : ∀ j, j < s'.gens.size → (s'.gens.push x8)[j]? = s'.gens[j]? := fun j hj => by
      rw [Array.getElem?_push, if_neg (Nat.ne_of_lt hj)]
    have cf8 : CF base g pr l e it L a items (i + 1) (bitQ xs[i]) { s' with heap := h8, gens := s'.gens.push x8, toks := tk8 } := by
      have q := cf7.keep (s' := { s' with heap := h8, gens := s'.gens.push x8, toks := tk8 }) (fun b _ o z => hk8 b o z) (fun b o z => hk8 b o (cf7.base b o z)) (AllBare.push cf7.bare hx8) (fun b hb => let ⟨o, z⟩ := cf7.prx b hb; ⟨o, hk8 b o z⟩) (by
        show g < (s'.gens.push x8).size
        rw [Array.size_push]
        exact Nat.lt_succ_of_lt cf7.gl)
      obtain ⟨⟨m9, hn9, hb9, _, hq9⟩, q2, q3, q4, q5, q6, q7, q8, q9⟩ := q
      exact ⟨⟨m9, hn9, hb9, hq9⟩, q2, q3, q4, q5, q6, q7, q8, q9⟩
    have ev8 : Evo [] B g pr s' { s' with heap := h8, gens := s'.gens.push x8, toks := tk8 } := .exact (fun b o z _ => hk8 b o (hk7 b o z)) (fun j hj => gi j (Nat.lt_trans hj cf6.gl)) (by
      show s'.gens.size ≤ (s'.gens.push x8).size
      rw [Array.size_push]
      exact Nat.le_succ _) rfl fun h => AllBare.push h hx8
    show wpAny (model P w) A2 (pyIter (.ref a2)) _ _ _
    refine wpAny_pyIter_gen hig fun p8 l8 kp8 => ?_
    have hl2 : L2 ≠ l := fun h => by
      obtain ⟨m6', hn6', _⟩ := cf6.ns
      have q := hn6'.lt
      rw [← h] at q
      exact absurd (Nat.lt_of_lt_of_le q hL2) (Nat.lt_irrefl _)
    have hB6 : B ≤ s'.heap.objs.size := by
      have := hn6.lt
      exact Nat.le_of_lt (by rw [← o2]; exact this)
    refine ch_in (P := P) (w := w) (base := base) c (A1 := A1) (A2 := A2) (L2 := L2) (k := 2 * xs.length + 2) (B2 := h7.objs.size) (g2 := s'.gens.size)
      (x := xs[i]) (ys := xs.drop (i + 1)) (tail := choicesM (xs.drop (i + 1))) (tot := choicesM xs) (pre := pre ++ [[xs[i]]]) co ((over_loop rfl rfl).trans hov) (by
        show (splitAtGen fs1).map _ = none
        rw [hsp]; rfl) (by
        show (false || fs1.any Frame.guarded) = false
        rw [hgu]; rfl) hA md.nolimit he7 cf6.gl (Nat.le_trans hB6 hL2) hl2 (fun h => by
        obtain ⟨o, z⟩ := cf6.prx L2 h
        exact absurd (Nat.lt_of_lt_of_le (Heap.lt_size z) hL2) (Nat.lt_irrefl _)) (by
        rw [hpre, hdr, choices_cons]
        simp) (fun z hz => Nat.le_trans (choices_len _ z hz) (by omega)) (fun s₀9 s9 ev9 cf9 => ?_) (choicesM (xs.drop (i + 1))) [] s' _ rfl ev8 cf8 (live A2 pr (hA.mono (by omega)) fun b hb => .inl (by
        obtain ⟨o, z⟩ := cf7.prx b hb
        exact Heap.lt_size z))
    · refine seg_noMore (seg_leaf (.ok .next) ?_)
      show Seg (model P w) A1 _ _ _ s₀9 _ ((execs [] (chEnv l f cdv)).wrap (turnK c.tgt1 (.ref e) [c.y1, .For c.tgt2 c.iter2 [c.y2] [] (c.p 26)] (chEnv l f cdv)) (turnJ (chEnv l f cdv)) id id) fs1 s9
      refine seg_execs_nil (seg_again rfl ?_)
      obtain ⟨⟨m9, hn9, hb9, _⟩, q2, q3, q4, q5, q6, q7, q8, q9⟩ := cf9
      refine ih (i + 1) (pre ++ [[xs[i]]] ++ (choicesM (xs.drop (i + 1))).map (xs[i] :: ·)) s₀9 s9 (by omega) (by
        rw [hpre, hdr, choices_cons]
        simp) ev9 ⟨⟨m9, hn9, hb9, trivial⟩, q2, q3, q4, q5, q6, q7, q8, q9⟩
end
end FB

/-! ## FBGen7 -/
set_option Elab.async false
set_option linter.all false
set_option maxRecDepth 100000
set_option maxHeartbeats 4000000
/-! choices: the call. -/
namespace FB
open PySem PySem.Spec PyProof.Rows L2 GenW
section
variable {P : Program} {w : World} {K : PySem.W.Frag} {mg : Str → Option Value} {base : Heap}
theorem ch_env (l f : Addr) (cdv : Value) : newEnv (defScope sChoices) l mainGlobals [] ("choices" ++ ".<locals>.") (some f) cdv none builtinsNs = chEnv l f cdv := by
  unfold chEnv envOfC
  rfl
theorem ch_made (T : Txt K mg) (md : Mod K mg base) (ys : List Nat) (hys : ys.length ≤ 900) (IH : ChOk P w K base ys.length) (A : Around) (s : Shared) (L : Addr) (items : Array Value) (hr : Room (2 * ys.length + 4) A) (hb : ∀ b o, base.get? b = some o → s.heap.get? b = some o) (hbz : base.objs.size ≤ s.heap.objs.size)
    (hL : s.heap.IsList L items) (hv : Vals (ys.map natV) items.toList) : codeAny (model P w) A (.call (.ref (a_choices K)) ⟨[.ref L], []⟩) (fun r s' => match r with | .ok (.ret u) => MadeC P w base ys L s u s' | _ => False) s := by
  have hB := T.n_choices
  obtain ⟨oc, od, dV, kV, doc, pm, an, cdv, ct, osl, e, lk, hcd, _, _⟩ := T.choices.ex
  have KX : K.In s.heap := md.kin.keeps hb
  have lim : s.heap.NoLimit := md.nolimit.keeps hb
  have lk2 := lk
  have hbind := hB s [.ref L] KX rfl
  rw [e] at lk2 hbind
  refine codeAny_call_generator hr.depth (KX _ _ lk2) rfl rfl rfl rfl (PySem.W.codeRec_of KX hcd) (hbind _ _ _ _ ?_)
  refine wpAny_newFunctionEnv (show ∀ x ∈ (defScope sChoices).names, x.2 ≠ NameKind.cell by decide +kernel) (fun y hy => ?_) (fun h1 hns hsb => ?_) rfl
  · have : y = (("bits" : Str), Value.ref L) := by simpa using hy
    subst this
    rfl
  have kp1 : ∀ b o, s.heap.get? b = some o → h1.get? b = some o := fun b o z => hsb.extBut b o (Nat.ne_of_lt (Heap.lt_size z)) (Heap.get?_push_of_some _ z)
  have sz1 : h1.objs.size = s.heap.objs.size + 1 := by rw [hsb.1, Heap.size_push]
  refine ⟨lim.keeps kp1, ?_⟩
  show MadeC P w base ys L s (.ref h1.objs.size) _
  have henv := ch_env s.heap.objs.size (a_choices K) cdv
  obtain ⟨c, hc⟩ := ch_cpos
  have hgo : ∀ (o : Obj), o.isFreed = false → (h1.push o).get? h1.objs.size = some o := fun o ho => Heap.get?_push_size _ ho
  refine ⟨h1.objs.size, _, _, _, rfl, rfl, fun b o z => Heap.get?_push_of_some _ (kp1 b o z), by omega, ?_, rfl, ⟨_, _, _, Heap.get?_push_size _ rfl, rfl, rfl, rfl⟩, fun A' pr hA' hpr => ?_⟩
  · rw [Heap.size_push]
    exact Nat.lt_succ_self _
  have hpr2 : ∀ b ∈ pr, b < s.heap.objs.size ∨ s.heap.objs.size + 2 ≤ b := fun b hb => by
    have q := hpr b hb
    rw [Heap.size_push, sz1] at q
    exact q
  have hnp : ∀ b : Nat, s.heap.objs.size ≤ b → b < s.heap.objs.size + 2 → b ∉ pr := fun b h1 h2 hm => by
    rcases hpr2 b hm with q | q
    · exact absurd (Nat.lt_of_lt_of_le q h1) (Nat.lt_irrefl _)
    · exact absurd (Nat.lt_of_lt_of_le h2 q) (Nat.lt_irrefl _)
  have ha1 : s.heap.objs.size ≤ h1.objs.size := by omega
  refine ⟨ha1, hnp _ ha1 (by omega), hbz, Nat.le_refl _, fun b h => by simp at h, ⟨_, _, _, Heap.get?_push_size _ rfl, rfl, rfl, rfl⟩, _, Array.getElem?_push_size .., fun s'' sl ig => ⟨rfl, ?_⟩⟩
  have hL1 := hL.at (h' := h1) fun o z => kp1 L o z
  have hn2 : s''.heap.Ns s.heap.objs.size (fun x => ([(("bits" : Str), Value.ref L)] : List (Str × Value)).reverse.lookup x) := hns.at' fun o z => sl.own _ o (Heap.get?_push_of_some _ z) (.inl ⟨Nat.le_refl _, hnp _ (Nat.le_refl _) (by omega)⟩)
  have hL2 : s''.heap.IsList L items := hL1.at fun o z => sl.own _ o (Heap.get?_push_of_some _ z) (.inr (by simp))
  have hg2 : s.gens.size < s''.gens.size := Nat.lt_of_lt_of_le (by
    show s.gens.size < (s.gens.push _).size
    rw [Array.size_push]
    exact Nat.lt_succ_self _) sl.gsz
  show Seg (model P w) A'.in1 _ _ _ _ (.func (defBody sChoices) (newEnv (defScope sChoices) s.heap.objs.size mainGlobals [] ("choices" ++ ".<locals>.") (some (a_choices K)) cdv none builtinsNs)) ((model P w).den (.func (defBody sChoices) (newEnv (defScope sChoices) s.heap.objs.size mainGlobals [] ("choices" ++ ".<locals>.") (some (a_choices K)) cdv none builtinsNs))) [] _
  rw [henv, hc]
  refine seg_func ?_
  refine seg_execs_cons (seg_For ?_)
  rw [over_func]
  have hA2 : Room (2 * ys.length + 2) (A'.in1.deeper (chEnv s.heap.objs.size (a_choices K) cdv)) := Room.deeper (Room.in1 (k := 2 * ys.length + 3) hA') _
  refine r_enum (s := s''.setGen s.gens.size .running) md sl.base ch_fr rfl T.b_enumerate rfl hn2 rfl hL2 (h := fun h5 he hi hsz hk => ?_)
  refine wpAny_pyIter_enum he fun p8 l8 kp8 => ?_
  have hl5 : s.heap.objs.size < s''.heap.objs.size := hn2.lt
  have ha5 : h1.objs.size < s''.heap.objs.size := by
    obtain ⟨o, nm, qn, ho, _⟩ := ig
    exact Heap.lt_size ho
  have hLl : L < s.heap.objs.size := by
    obtain ⟨o, ho, _⟩ := hL
    exact Heap.lt_size ho
  have hpx : ∀ b : Nat, s''.heap.objs.size ≤ b → b ∉ pr := fun b hb hm => by
    obtain ⟨o, z⟩ := sl.prx b hm
    exact absurd (Nat.lt_of_lt_of_le (Heap.lt_size z) hb) (Nat.lt_irrefl _)
  have co : CO base s.heap.objs.size pr s.heap.objs.size (s''.heap.objs.size + 1) s''.heap.objs.size L h1.objs.size := ⟨hbz, rfl, hLl, by omega, ha5, Nat.lt_succ_self _, hnp _ (Nat.le_refl _) (by omega), hnp _ ha1 (by omega), hpx _ (Nat.le_refl _), hpx _ (Nat.le_succ _)⟩
  have cf : CF base s.gens.size pr s.heap.objs.size (s''.heap.objs.size + 1) s''.heap.objs.size L h1.objs.size items 0 (fun _ => True) { s''.setGen s.gens.size .running with heap := h5 } :=
    ⟨⟨_, hn2.at' fun o z => hk _ o z, rfl, trivial⟩, ⟨.none, he⟩, hi, hL2.at fun o z => hk _ o z, isGen_at ig fun o z => hk _ o z, fun b o z => hk b o (sl.base b o z), allBare_setGen sl.bare rfl, fun b hb => let ⟨o, z⟩ := sl.prx b hb; ⟨o, hk b o z⟩, by
      show s.gens.size < (s''.setGen s.gens.size .running).gens.size
      rw [setGen_size]
      exact hg2⟩
  refine ch_out T md c (A1 := A'.in1) (A2 := A'.in1.deeper (chEnv s.heap.objs.size (a_choices K) cdv)) (xs := ys) rfl co ((over_loop rfl rfl).trans over_func) rfl rfl hA2 hys hv IH (fun s₀9 s9 ev9 => ?_) ys.length 0 [] _ _ (Nat.zero_add _) rfl (.exact (fun b o z _ => hk b o z) (fun _ _ => rfl) (Nat.le_refl _) rfl fun h => h) cf
  refine seg_noMore (seg_leaf (.ok .next) ?_)
  exact seg_execs_nil (env := chEnv s.heap.objs.size (a_choices K) cdv) (seg_end (.ok (.ret .none)) (.inl ⟨.inl rfl, rfl, ev9⟩))
/-- choices(bits): a generator of the choices -/
theorem ch_ok (T : Txt K mg) (md : Mod K mg base) : ∀ n, n ≤ 901 → ChOk P w K base n
  | 0, _ => fun ys h => by omega
  | n + 1, hn => fun ys h A s L items hr hb hbz hL hv => by
    by_cases c : ys.length < n
    · exact ch_ok T md n (by omega) ys c A s L items hr hb hbz hL hv
    · have e : ys.length = n := by omega
      exact ch_made T md ys (by omega) (by rw [e]; exact ch_ok T md n (by omega)) A s L items hr hb hbz hL hv
end
end FB

/-! ## FBGen8 -/
set_option Elab.async false
set_option linter.all false
set_option maxRecDepth 100000
set_option maxHeartbeats 4000000
/-! all_writes: its frame; calls of proved defs, state by state. -/
namespace FB
open PySem PySem.Spec PyProof.Rows L2 GenW
/-- a call of a def behind: all is as it was but for the slots of frames -/
structure Kp (fr : List Addr) (s s' : Shared) : Prop where
  heap : ∀ b o, s.heap.get? b = some o → b ∉ fr → s'.heap.get? b = some o
  slot : ∀ b o, s.heap.get? b = some o → b ∈ fr → ∃ sl, s'.heap.get? b = some { o with slots := sl }
  os : s'.os = s.os
  bare : AllBare s'.gens
  gsz : s.gens.size ≤ s'.gens.size
  nx : Nx s s'
theorem aw_body : ∃ (rb : List Stmt) (j1 j2 k1 k2 : Nat) (p1 p2 p3 p4 p5 p6 p7 p8 p9 p10 p11 p12 p13 p14 p15 p16 p17 p18 p19 p20 p21 p22 p23 p24 p25 p26 p27 p28 p29 p30 p31 p32 p33 p34 p35 p36 p37 : Pos), defBody sAllWrites =
  [.Expr (.Call (.Name "need_pattern" p1) [.Name "x" p2] [] p3) p4,
   .Assign [.Name "standing" p5] (.Call (.Name "standing_bits" p6) [.Name "x" p7] [] p8) p9,
   .If (.Compare (.Call (.Name "len" p10) [.Name "standing" p11] [] p12) [.Gt] [.Name "MOST_STANDING" p13] p14) rb [] p15,
   .For (.Name "bits" p16) (.Call (.Name "choices" p17) [.Name "standing" p18] [] p19) [.Expr (.Yield (some (.Tuple [.Constant (.str "fall") j1 p20, .Name "bits" p21] k1 p22)) p23) p24] [] p25,
   .If (.Name "erases" p26) [.For (.Name "block" p27) (.Call (.Name "fallen_blocks" p28) [.Name "x" p29] [] p30) [.Expr (.Yield (some (.Tuple [.Constant (.str "erase") j2 p31, .Name "block" p32] k2 p33)) p34) p35] [] p36] [] p37] :=
  ⟨_, _, _, _, _, _, _, _, _, _, _, _, _, _, _, _, _, _, _, _, _, _, _, _, _, _, _, _, _, _, _, _, _, _, _, _, _, _, _, _, _, _, rfl⟩
abbrev awEnv (l f : Addr) (cdv : Value) : Env := envOfC "all_writes" (defScope sAllWrites) l f cdv
theorem aw_fr {l f : Addr} {cdv : Value} : Fr (awEnv l f cdv) := ⟨rfl, rfl, rfl⟩
def ispW (B : Nat) : Wr → ISp
  | .fall bs => fun v h => ∃ (T T2 : Nat) (t : Tok) (vals : Array Value), v = .ref T ∧ B ≤ T ∧ B ≤ T2 ∧ h.IsTuple T #[.str "fall" t, .ref T2] ∧ h.IsTuple T2 vals ∧ Vals (bs.map natV) vals.toList
  | .erase b => fun v h => ∃ (T : Nat) (t t' : Tok), v = .ref T ∧ B ≤ T ∧ h.IsTuple T #[.str "erase" t, .int (b : Int) t']
structure AO (base : Heap) (B : Nat) (pr : List Addr) (outer : List Env) (l a : Nat) : Prop where
  bsz : base.objs.size ≤ B
  hl : l = B
  ha : l < a
  pl : l ∉ pr
  pa : a ∉ pr
  fl : l ∉ frs outer
  fa : a ∉ frs outer
  fb : ∀ b ∈ frs outer, b < B
structure AF (base : Heap) (g : Nat) (pr : List Addr) (outer : List Env) (l a : Nat) (x : Str) (q : (Str → Option Value) → Heap → Prop) (s : Shared) : Prop where
  ns : ∃ m, s.heap.Ns l m ∧ (∃ t, m "x" = some (.str x t)) ∧ m "erases" = some (.bool true) ∧ q m s.heap
  isg : s.heap.IsGen a g
  funs : s.heap.FunFrames base outer
  base : ∀ b o, base.get? b = some o → s.heap.get? b = some o
  bare : AllBare s.gens
  prx : ∀ b ∈ pr, ∃ o, s.heap.get? b = some o
  gl : g < s.gens.size
section
variable {P : Program} {w : World} {K : PySem.W.Frag} {mg : Str → Option Value} {base : Heap} {A : Around} {E : Value → Shared → Prop} {s : Shared} {env : Env} {m : Str → Option Value} {Q : Value → Shared → Prop}
/-- f(y), f a proved def -/
theorem r_fn {k : Nat} {f : Addr} {fd : FuncData} {ps : List Str} {sp : Sp} {outer : List Env} {fn y : Str} {p p2 pos : Pos} {u : Value} {v : V} {Qv : VK} (F : FnOk P w K mg base CX0 k f fd ps sp) (hb : Binds K fd ps []) (hps : ps.length = 1) (hr : Room k A) (hfr : A.frames = some (env :: outer)) (md : Mod K mg base) (fe : Fr env)
    (hfs : s.heap.FunFrames base (env :: outer)) (hbs : ∀ b o, base.get? b = some o → s.heap.get? b = some o) (hbz : base.objs.size ≤ s.heap.objs.size) (bare : AllBare s.gens) (hg : env.kindOf fn = some .globalImplicit) (hm : mg fn = some (.ref f)) (kp : PySem.W.keepIn K (.ref f) = true)
    (hl : env.kindOf y = some .local) (hn : s.heap.Ns env.locals m) (hv : m y = some u) (rv : RelV v u) (hsp : sp [v] (fun _ => none) Qv E0) (hd : (y == ("__debug__" : Str)) = false := by decide) (hd2 : (fn == ("__debug__" : Str)) = false := by decide)
    (h : ∀ u' s' v' H', Kp (frs (env :: outer)) s s' → (∀ b o, s.heap.get? b = some o → H' b = none) → RelV v' u' → HOk P w H' s'.heap → Qv v' H' → Q u' s') : wpAny (model P w) A (eval (.Call (.Name fn p) [.Name y p2] [] pos) env) Q E s := by
  refine wpAny_Call_Name_kw (r_glob md hbs fe hg hm (PySem.W.callWith_K (h₀ := base) md.kin kp (args_cons (r_loc fe hl hn hv (args_nil ⟨md.kin.keeps hbs, ?_⟩) hd)) rfl rfl) hd2)
  refine wpAny_nx (wpAny_gsz (Nat.le_refl s.gens.size) (wpAny_call (codeAny_mono (F.run A (env :: outer) s (fun _ => none) ⟨[u], []⟩ [u] [v] Qv E0 hr ⟨hfr, md, fun b o z => ⟨hbs b o z, rfl⟩, hbz, hfs, fun _ _ => rfl, (fun _ _ z => by cases z), bare⟩ (by
    have := hb s [u] (md.kin.keeps hbs) (by simpa using hps.symm)
    simpa using this) (.cons rv .nil) hsp) fun r s' hq => ?_)))
  cases r with
  | error e => exact hq.elim
  | ok fl =>
    cases fl with
    | ret u' =>
      obtain ⟨v', H', os, bare', un, hok, rv', q⟩ := hq
      intro hgz hnx
      exact h u' s' v' H' ⟨fun b o z n => un.keep b o z rfl n (by simp), fun b o z n => un.slot b o z rfl n (by simp), os, bare', hgz, hnx⟩ (fun b o z => un.free b o z rfl (by simp)) rv' hok q
    | next => exact hq.elim
    | brk => exact hq.elim
    | cont => exact hq.elim
end
section
variable {base : Heap} {B g : Nat} {pr : List Addr} {outer : List Env} {l a : Nat} {x : Str} {q : (Str → Option Value) → Heap → Prop} {s s' : Shared}
theorem ns_slot {h h' : Heap} {l : Addr} {m : Str → Option Value} (hn : h.Ns l m) (k : ∀ o, h.get? l = some o → ∃ sl, h'.get? l = some { o with slots := sl }) : h'.Ns l m := by
  obtain ⟨o, es, ep, ho, hd, r⟩ := hn
  obtain ⟨sl, e⟩ := k o ho
  exact ⟨_, es, ep, e, hd, r⟩
theorem frs_at : ∀ {outer : List Env} {h : Heap}, h.FunFrames base outer → ∀ b ∈ frs outer, base.get? b = none ∧ ∃ o, h.get? b = some o ∧ ∀ vs, o.data ≠ .fields vs := fun hf b hb => hf.mem hb
theorem AF.frs (c : AF base g pr outer l a x q s) {f : Addr} {cdv : Value} (ao : AO base B pr outer l a) : s.heap.FunFrames base (awEnv l f cdv :: outer) := by
  obtain ⟨m, hn, _⟩ := c.ns
  obtain ⟨o, es, ep, ho, hd, _⟩ := hn
  refine ⟨(fun h => by cases h), ⟨l, o, rfl, ?_, ho, (fun vs z => by rw [hd] at z; cases z)⟩, c.funs⟩
  cases e : base.get? l with
  | none => rfl
  | some o' =>
    have key : ∀ b : Nat, b < base.objs.size → b = l → False := fun b h1 h2 => by have := ao.bsz; have := ao.hl; omega
    exact (key l (Heap.lt_size e) rfl).elim
/-- behind a call -/
theorem AF.kp {f : Addr} {cdv : Value} (ao : AO base B pr outer l a) (c : AF base g pr outer l a x q s) (k : Kp (L2.frs (awEnv l f cdv :: outer)) s s') {q' : (Str → Option Value) → Heap → Prop} (hq : ∀ m, q m s.heap → q' m s'.heap) : AF base g pr outer l a x q' s' := by
  obtain ⟨m, hn, h1, h2, h3⟩ := c.ns
  have e : L2.frs (awEnv l f cdv :: outer) = l :: L2.frs outer := rfl
  rw [e] at k
  have hal : a ∉ (l :: L2.frs outer) := fun h => by
    rcases List.mem_cons.mp h with h | h
    · have := ao.ha
      rw [h] at this
      exact absurd this (Nat.lt_irrefl _)
    · exact ao.fa h
  have any : ∀ b o, s.heap.get? b = some o → ∃ o', s'.heap.get? b = some o' ∧ o'.data = o.data := fun b o z => by
    by_cases hb : b ∈ (l :: L2.frs outer)
    · obtain ⟨sl, e⟩ := k.slot b o z hb
      exact ⟨_, e, rfl⟩
    · exact ⟨o, k.heap b o z hb, rfl⟩
  refine ⟨⟨m, ns_slot hn fun o z => k.slot l o z List.mem_cons_self, h1, h2, hq m h3⟩, isGen_at c.isg fun o z => k.heap a o z hal, c.funs.of_keeps fun b o z _ => any b o z, fun b o z => k.heap b o (c.base b o z) fun hb => ?_, k.bare, fun b hb => ?_, Nat.lt_of_lt_of_le c.gl k.gsz⟩
  · have key : ∀ b : Nat, b < base.objs.size → b = l → False := fun b h1 h2 => by have := ao.bsz; have := ao.hl; omega
    rcases List.mem_cons.mp hb with hb | hb
    · exact (key b (Heap.lt_size z) hb).elim
    · rw [(frs_at c.funs b hb).1] at z
      cases z
  · obtain ⟨o, z⟩ := c.prx b hb
    obtain ⟨o', e', _⟩ := any b o z
    exact ⟨o', e'⟩
theorem AF.notTup (c : AF base g pr outer l a x q s) : ∀ o, s.heap.get? l = some o → ¬ TupO o := by
  obtain ⟨m, ⟨o, es, ep, ho, hd, _⟩, _⟩ := c.ns
  intro o' ho' ⟨_, its, n, hd'⟩
  rw [ho] at ho'
  cases ho'
  rw [hd] at hd'
  cases hd'
theorem Evo.kp {f : Addr} {cdv : Value} (ao : AO base B pr outer l a) (c : AF base g pr outer l a x q s) (k : Kp (L2.frs (awEnv l f cdv :: outer)) s s') : Evo (L2.frs outer) B 0 pr s s' := by
  have e : L2.frs (awEnv l f cdv :: outer) = l :: L2.frs outer := rfl
  rw [e] at k
  refine ⟨fun b o z h hn => k.heap b o z fun hb => ?_, fun b o z h => k.slot b o z (List.mem_cons_of_mem _ h), fun i hi => by omega, k.gsz, k.os, fun _ => k.bare⟩
  rcases List.mem_cons.mp hb with hb | hb
  · subst hb
    rcases h with h | h | h
    · have key : ∀ b : Nat, b < B → b = B → False := fun b h1 h2 => by omega
      exact (key _ h ao.hl).elim
    · exact ao.pl h
    · exact c.notTup o z h
  · exact hn hb
end
end FB

/-! ## FBGen9 -/
set_option Elab.async false
set_option linter.all false
set_option maxRecDepth 100000
set_option maxHeartbeats 4000000
/-! all_writes: its loops. -/
namespace FB
open PySem PySem.Spec PyProof.Rows L2 GenW
section
variable {base : Heap} {B g : Nat} {pr : List Addr} {outer : List Env} {l a : Nat} {x : Str} {q q' : (Str → Option Value) → Heap → Prop} {s s' : Shared}
theorem AF.keep (c : AF base g pr outer l a x q s) (k : ∀ b, b = l ∨ b = a → ∀ o, s.heap.get? b = some o → s'.heap.get? b = some o) (hf : s'.heap.FunFrames base outer)
    (hb : ∀ b o, base.get? b = some o → s'.heap.get? b = some o) (ha : AllBare s'.gens) (hp : ∀ b ∈ pr, ∃ o, s'.heap.get? b = some o) (hg : g < s'.gens.size) (hq : ∀ m, q m s.heap → q' m s'.heap) : AF base g pr outer l a x q' s' := by
  obtain ⟨m, hn, h1, h2, h3⟩ := c.ns
  exact ⟨⟨m, hn.at' fun o z => k l (.inl rfl) o z, h1, h2, hq m h3⟩, isGen_at c.isg (k a (.inr rfl)), hf, hb, ha, hp, hg⟩
/-- all stands -/
theorem AF.laid {h' : Heap} {tk : Nat} (c : AF base g pr outer l a x q s) (k : ∀ b o, s.heap.get? b = some o → h'.get? b = some o) (hq : ∀ m, q m s.heap → q' m h') : AF base g pr outer l a x q' { s with heap := h', toks := tk } :=
  c.keep (fun b _ o z => k b o z) (c.funs.of_keeps fun b o z _ => ⟨o, k b o z, rfl⟩) (fun b o z => k b o (c.base b o z)) c.bare (fun b hb => let ⟨o, z⟩ := c.prx b hb; ⟨o, k b o z⟩) c.gl hq
theorem funs_nrec {h h' : Heap} : ∀ {outer : List Env}, (∀ b o, h.get? b = some o → (∀ vs, o.data ≠ .fields vs) → ∃ o', h'.get? b = some o' ∧ ∀ vs, o'.data ≠ .fields vs) → h.FunFrames base outer → h'.FunFrames base outer
  | [], _, _ => trivial
  | env :: rest, k, ⟨h1, ⟨L, o, h2, h3, h4, h5⟩, h6⟩ => by
    obtain ⟨o', e, hd⟩ := k L o h4 h5
    exact ⟨h1, ⟨L, o', h2, h3, e, hd⟩, funs_nrec k h6⟩
theorem AF.slp (ao : AO base B pr outer l a) (c : AF base g pr outer l a x q s) (z : Slp base B g pr [] s s') (hq : ∀ m, q m s.heap → q' m s'.heap) : AF base g pr outer l a x q' s' := by
  obtain ⟨o1, o2, o3, o4, o5, o6, o7, o8⟩ := ao
  refine c.keep (fun b hb o e => z.own b o e (.inl ?_)) (funs_nrec z.nrec c.funs) z.base z.bare z.prx (Nat.lt_of_lt_of_le c.gl z.gsz) hq
  rcases hb with rfl | rfl
  · exact ⟨by omega, o4⟩
  · exact ⟨by omega, o5⟩
theorem AF.evo {B2 g2 : Nat} (ao : AO base B pr outer l a) (c : AF base g pr outer l a x q s) (z : Evo [] B2 g2 pr s s') (hB : a < B2) (hq : ∀ m, q m s.heap → q' m s'.heap) : AF base g pr outer l a x q' s' := by
  obtain ⟨o1, o2, o3, o4, o5, o6, o7, o8⟩ := ao
  have hk : ∀ b : Nat, b < base.objs.size → b < B2 := fun b h => by omega
  have hk2 : ∀ b : Nat, b = l ∨ b = a → b < B2 := fun b h => by omega
  have hk3 : ∀ b : Nat, b < B → b < B2 := fun b h => by omega
  have hf : s'.heap.FunFrames base outer := by
    have : ∀ (os : List Env), (∀ b ∈ L2.frs os, b ∈ L2.frs outer) → s.heap.FunFrames base os → s'.heap.FunFrames base os := by
      intro os
      induction os with
      | nil => intro _ _; trivial
      | cons env rest ih =>
        rintro hs ⟨h1, ⟨L, o, h2, h3, h4, h5⟩, h6⟩
        have hm : L ∈ L2.frs (env :: rest) := List.mem_filterMap.mpr ⟨env, List.mem_cons_self, h2⟩
        refine ⟨h1, ⟨L, o, h2, h3, z.heap0 L o h4 (.inl (hk3 L (o8 L (hs L hm)))), h5⟩, ih (fun b hb => hs b ?_) h6⟩
        obtain ⟨e, he, hb⟩ := List.mem_filterMap.mp hb
        exact List.mem_filterMap.mpr ⟨e, List.mem_cons_of_mem _ he, hb⟩
    exact this outer (fun b hb => hb) c.funs
  exact c.keep (fun b hb o e => z.heap0 b o e (.inl (hk2 b hb))) hf (fun b o e => z.heap0 b o (c.base b o e) (.inl (hk b (Heap.lt_size e)))) (z.bare c.bare) (fun b hb => let ⟨o, e⟩ := c.prx b hb; ⟨o, z.heap0 b o e (.inr (.inl hb))⟩) (Nat.lt_of_lt_of_le c.gl z.gsz) hq
theorem Evo.up {B2 g2 : Nat} (ao : AO base B pr outer l a) (z : Evo [] B2 g2 pr s s') (hB : B ≤ B2) : Evo (L2.frs outer) B 0 pr s s' := by
  have hk : ∀ b : Nat, b < B → b < B2 := fun b h => by omega
  exact .exact (fun b o e h => z.heap0 b o e (by
    rcases h with h | h | h | h
    · exact .inl (hk b h)
    · exact .inr (.inl h)
    · exact .inr (.inr h)
    · exact .inl (hk b (ao.fb b h)))) (fun i hi => by omega) z.gsz z.os z.bare
theorem AF.store {y : Str} {v : Value} {h' : Heap} {tk : Nat} {m : Str → Option Value} (ao : AO base B pr outer l a) (c : AF base g pr outer l a x q s) (hx : ∃ t, m "x" = some (.str x t)) (he : m "erases" = some (.bool true)) (hn0 : s.heap.Ns l m)
    (hn : h'.Ns l (fun z => if z = y then some v else m z)) (hs : Heap.SameBut l s.heap h') (hy : y ≠ "x") (hy2 : y ≠ "erases")
    (hq : q' (fun z => if z = y then some v else m z) h') : AF base g pr outer l a x q' { s with heap := h', toks := tk } := by
  obtain ⟨o1, o2, o3, o4, o5, o6, o7, o8⟩ := ao
  have k : ∀ b o, b ≠ l → s.heap.get? b = some o → h'.get? b = some o := fun b o hb z => hs.extBut b o hb z
  refine ⟨⟨_, hn, let ⟨t, e⟩ := hx; ⟨t, (if_neg (fun h => hy h.symm)).trans e⟩, (if_neg (fun h => hy2 h.symm)).trans he, hq⟩, isGen_at c.isg fun o z => k a o (by omega) z, funs_nrec (nrec_store hn0 hn hs) c.funs, fun b o z => ?_, c.bare, fun b hb => ?_, c.gl⟩
  · have hk : ∀ b : Nat, b < base.objs.size → b ≠ l := fun b h => by omega
    exact k b o (hk b (Heap.lt_size z)) (c.base b o z)
  · obtain ⟨o, z⟩ := c.prx b hb
    exact ⟨o, k b o (fun h => o4 (h ▸ hb)) z⟩
theorem Evo.storeA {h' : Heap} {tk : Nat} (ao : AO base B pr outer l a) (c : AF base g pr outer l a x q s) (hs : Heap.SameBut l s.heap h') : Evo (L2.frs outer) B 0 pr s { s with heap := h', toks := tk } := by
  refine .exact (fun b o z h => hs.extBut b o (fun h2 => ?_) z) (fun _ _ => rfl) (Nat.le_refl _) rfl fun h => h
  subst h2
  rcases h with h | h | h | h
  · have key : ∀ b : Nat, b < B → b = B → False := fun b h1 h2 => by omega
    exact key _ h ao.hl
  · exact ao.pl h
  · exact c.notTup o z h
  · exact ao.fl h
end
section
variable {P : Program} {w : World} {K : PySem.W.Frag} {mg : Str → Option Value} {base : Heap}
theorem aw_in1 {A1 A2 : Around} {B g : Nat} {pr : List Addr} {outer : List Env} {l a L2 a2 : Nat} {f : Addr} {cdv : Value} {x : Str} {k j k1 : Nat} {B2 g2 : Nat} {fs2 : List Frame} {ys : List Nat} {tail tot pre : List Wr} {pb p1 p2 p3 p4 p5 : Pos}
    (ao : AO base B pr outer l a) (hov : A1.over (.forLoop (.Name "bits" pb) (.ref a2) [.Expr (.Yield (some (.Tuple [.Constant (.str "fall") j p1, .Name "bits" p2] k1 p3)) p4) p5] [] (awEnv l f cdv)) fs2 = A2) (hsp : splitAtGen fs2 = none) (hgu : fs2.any Frame.guarded = false) (hA : Room k A2) (nl : base.NoLimit)
    (hB2 : a < B2) (hg2 : g < g2) (hL2 : B ≤ L2) (hL2l : L2 ≠ l) (hL2p : L2 ∉ pr) (htot : tot = pre ++ (choicesM ys).map .fall ++ tail)
    (hend : ∀ (s₀ s : Shared), Evo (frs outer) B 0 pr s₀ s → AF base g pr outer l a x (fun _ _ => True) s → Seg (model P w) A1 (RL (frs outer) B 0 pr) (YL (frs outer) base B 0 g a pr [] (tot.map (ispW B))) tail.length s₀ (.forLoop (.Name "bits" pb) (.ref a2) [.Expr (.Yield (some (.Tuple [.Constant (.str "fall") j p1, .Name "bits" p2] k1 p3)) p4) p5] [] (awEnv l f cdv)) (.pure (.again (.block [] (awEnv l f cdv)))) fs2 s) :
    ∀ (rest done : List (List Nat)) (s₀ s : Shared), choicesM ys = done ++ rest → Evo (frs outer) B 0 pr s₀ s → AF base g pr outer l a x (fun _ _ => True) s → Live [] P w base A2 B2 g2 pr [L2] a2 g2 (chTot B2 ys) rest.length s →
      Seg (model P w) A1 (RL (frs outer) B 0 pr) (YL (frs outer) base B 0 g a pr [] (tot.map (ispW B))) (rest.length + tail.length) s₀ (.forLoop (.Name "bits" pb) (.ref a2) [.Expr (.Yield (some (.Tuple [.Constant (.str "fall") j p1, .Name "bits" p2] k1 p3)) p4) p5] [] (awEnv l f cdv)) ((model P w).den (.forLoop (.Name "bits" pb) (.ref a2) [.Expr (.Yield (some (.Tuple [.Constant (.str "fall") j p1, .Name "bits" p2] k1 p3)) p4) p5] [] (awEnv l f cdv))) fs2 s := by
  have hBB : B ≤ B2 := by have := ao.hl; have := ao.ha; omega
  intro rest
  induction rest with
  | nil =>
    intro done s₀ s hd ev af lv
    refine seg_forLoop ?_
    rw [hov]
    refine stop_live lv hA.hd hA.depth nl af.base af.bare af.prx fun s2 ev2 => ?_
    rw [List.length_nil, Nat.zero_add]
    exact hend s₀ s2 (ev.trans (ev2.up ao hBB)) (af.evo ao ev2 hB2 fun _ h => h)
  | cons y rest ih =>
    intro done s₀ s hd ev af lv
    have en : (y :: rest).length + tail.length = (rest.length + tail.length) + 1 := by rw [List.length_cons]; omega
    rw [en]
    refine seg_forLoop ?_
    rw [hov]
    refine next_live lv hA.hd hA.depth nl af.base af.bare af.prx fun v s2 sp h1 h2 ev2 lv2 => ?_
    have esp : sp = ispT B2 y := by
      have q := idx_at (l := chTot B2 ys) (a := done.map (ispT B2)) (y := ispT B2 y) (b := rest.map (ispT B2)) (by unfold chTot; rw [hd, List.map_append, List.map_cons])
      rw [List.length_map] at q
      rw [h1] at q
      exact Option.some.inj q
    subst esp
    obtain ⟨Tt, vals, rfl, hTB, hT, hv⟩ := h2
    have af2 : AF base g pr outer l a x (fun _ _ => True) s2 := af.evo ao ev2 hB2 fun _ h => h
    have evc := ev.trans (ev2.up ao hBB)
    obtain ⟨m, hn, hx, he, _⟩ := af2.ns
    show wpAny (model P w) A2 (letOwnedTupleGo (.Name "bits" pb) (.ref a2) (.ref Tt)) _ _ s2
    refine wpAny_of_eq (a := ()) rfl ?_
    refine wpAny_assign_Name (wpAny_storeName_local rfl hn fun h3 hn3 hs3 => ?_)
    have evs : Evo (frs outer) B 0 pr s2 { s2 with heap := h3, toks := s2.toks + 1 } := Evo.storeA (s := s2) ao af2 hs3
    have af3 : AF base g pr outer l a x (fun _ _ => True) { s2 with heap := h3, toks := s2.toks + 1 } := AF.store (s := s2) ao af2 hx he hn hn3 hs3 (by decide) (by decide) trivial
    have hT3 : h3.IsTuple Tt vals := isTuple_ne hn hT hs3
    refine seg_execs_cons ?_
    refine seg_Expr_Yield hsp rfl hgu ?_
    rw [hov]
    have hBh : B ≤ h3.objs.size := by
      have q := hn3.lt
      have key : ∀ n : Nat, l < n → B ≤ n := fun n h => by have := ao.hl; omega
      exact key _ q
    refine r_tup2 (v := .ref Tt) aw_fr rfl hn3 (if_pos rfl) (h := ?_)
    intro kap hkap
    have hk4 : ∀ (ob : Obj) b o, h3.get? b = some o → (h3.push ob).get? b = some o := fun ob b o z => Heap.get?_push_of_some _ z
    have af4 := AF.laid (tk := s2.toks + 1 + 1) af3 (hk4 ({ cls := .type "tuple", data := .seq #[.str "fall" (s2.toks + 1), .ref Tt] } : Obj)) (q' := fun _ _ => True) fun _ _ => trivial
    have ev4 : Evo (frs outer) B 0 pr s₀ { s2 with heap := h3.push ({ cls := .type "tuple", data := .seq #[.str "fall" (s2.toks + 1), .ref Tt] } : Obj), toks := s2.toks + 1 + 1 } := (evc.trans evs).trans (.exact (fun b o z _ => hk4 _ b o z) (fun _ _ => rfl) (Nat.le_refl _) rfl fun h => h)
    refine ⟨ispW B (.fall y), ?_, ⟨h3.objs.size, Tt, s2.toks + 1, vals, rfl, hBh, Nat.le_trans hBB hTB, ⟨_, Heap.get?_push_size _ rfl, rfl, _, rfl⟩, isTuple_at hT3 fun o z => hk4 _ _ o z, hv⟩, ev4, af4.isg, af4.gl, fun s' sl ig => hkap .none s' ?_⟩
    · have eq : tot.map (ispW B) = (pre ++ done.map Wr.fall).map (ispW B) ++ ispW B (.fall y) :: (rest.map Wr.fall ++ tail).map (ispW B) := by simp [htot, hd]
      have q := idx_at eq
      rw [show ((rest.map Wr.fall ++ tail).map (ispW B)).length = rest.length + tail.length by simp] at q
      exact q
    · refine seg_execs_nil ?_
      refine seg_again rfl ?_
      have hk24 : ∀ b o, b ≠ l → s2.heap.get? b = some o → (h3.push ({ cls := .type "tuple", data := .seq #[.str "fall" (s2.toks + 1), .ref Tt] } : Obj)).get? b = some o := fun b o hbl z => hk4 _ b o (hs3.extBut b o hbl z)
      refine ih (done ++ [y]) s' s' (by rw [hd]; simp) Evo.refl (af4.slp ao sl fun _ h => h) (lv2.slp ⟨fun b o z h => ?_, sl.base, fun j h1 h2 => sl.gens j (by omega) h2, sl.gsz, sl.os, sl.bare, sl.prx, fun b o z hz => ?_⟩ (sl.gens g2 hg2 lv2.lt))
      rotate_left
      · obtain ⟨o1, e1, hz1⟩ := nrec_store hn hn3 hs3 b o z hz
        exact sl.nrec b o1 (hk4 _ b o1 e1) hz1
      rcases h with ⟨h5, h6⟩ | h5
      · refine sl.own b o (hk24 b o (fun hbl => ?_) z) (.inl ⟨Nat.le_trans hBB h5, h6⟩)
        rw [hbl] at h5
        have := ao.ha
        exact absurd (Nat.le_trans h5 (Nat.le_refl l)) (by omega)
      · have hbL : b = L2 := by simpa using h5
        subst hbL
        exact sl.own _ o (hk24 _ o hL2l z) (.inl ⟨hL2, hL2p⟩)
end
end FB

/-! ## FBGen10 -/
set_option Elab.async false
set_option linter.all false
set_option maxRecDepth 100000
set_option maxHeartbeats 4000000
/-! all_writes: the second loop. -/
namespace FB
open PySem PySem.Spec PyProof.Rows L2 GenW
section
variable {P : Program} {w : World} {K : PySem.W.Frag} {mg : Str → Option Value} {base : Heap}
def liQ (it p : Nat) (items : Array Value) (j : Nat) : (Str → Option Value) → Heap → Prop := fun _ h => h.IsListIter it p j ∧ h.IsList p items
theorem aw_in2 {A1 A2 : Around} {B g : Nat} {pr : List Addr} {outer : List Env} {l a it p : Nat} {f : Addr} {cdv : Value} {x : Str} {k j k1 : Nat} {fs2 : List Frame} {bs : List Nat} {items : Array Value} {tot pre : List Wr} {pb p1 p2 p3 p4 p5 : Pos}
    (ao : AO base B pr outer l a) (hov : A1.over (.forLoop (.Name "block" pb) (.ref it) [.Expr (.Yield (some (.Tuple [.Constant (.str "erase") j p1, .Name "block" p2] k1 p3)) p4) p5] [] (awEnv l f cdv)) fs2 = A2) (hsp : splitAtGen fs2 = none) (hgu : fs2.any Frame.guarded = false) (hA : Room k A2)
    (hit : a < it) (hp : B ≤ p) (hpl : p ≠ l) (hip : it ≠ p) (hitp : it ∉ pr) (hpp : p ∉ pr) (hits : Vals (bs.map natV) items.toList) (htot : tot = pre ++ bs.map Wr.erase)
    (hend : ∀ (s₀ s : Shared), Evo (frs outer) B 0 pr s₀ s → Seg (model P w) A1 (RL (frs outer) B 0 pr) (YL (frs outer) base B 0 g a pr [] (tot.map (ispW B))) 0 s₀ (.forLoop (.Name "block" pb) (.ref it) [.Expr (.Yield (some (.Tuple [.Constant (.str "erase") j p1, .Name "block" p2] k1 p3)) p4) p5] [] (awEnv l f cdv)) (.pure (.again (.block [] (awEnv l f cdv)))) fs2 s) :
    ∀ (r i : Nat) (s₀ s : Shared), i + r = bs.length → Evo (frs outer) B 0 pr s₀ s → AF base g pr outer l a x (liQ it p items i) s →
      Seg (model P w) A1 (RL (frs outer) B 0 pr) (YL (frs outer) base B 0 g a pr [] (tot.map (ispW B))) r s₀ (.forLoop (.Name "block" pb) (.ref it) [.Expr (.Yield (some (.Tuple [.Constant (.str "erase") j p1, .Name "block" p2] k1 p3)) p4) p5] [] (awEnv l f cdv)) ((model P w).den (.forLoop (.Name "block" pb) (.ref it) [.Expr (.Yield (some (.Tuple [.Constant (.str "erase") j p1, .Name "block" p2] k1 p3)) p4) p5] [] (awEnv l f cdv))) fs2 s := by
  have hsz : items.size = bs.length := by simpa using hits.length.symm
  have hBl := ao.hl
  have hBa := ao.ha
  have n1 : l ≠ it := by omega
  have n2 : a ≠ it := by omega
  have hitf : it ∉ frs outer := fun h => by
    have key : ∀ b : Nat, b < B → b = it → False := fun b h1 h2 => by omega
    exact key it (ao.fb it h) rfl
  have evw : ∀ {q} {s : Shared} {i : Nat} {h' : Heap}, AF base g pr outer l a x q s → s.heap.IsListIter it p i → (∀ b o, b ≠ it → s.heap.get? b = some o → h'.get? b = some o) → Evo (frs outer) B 0 pr s { s with heap := h' } := fun {q s i h'} af hi hk => by
    refine Evo.wrote (wr := [it]) (fun b o hb z => hk b o (fun h => hb (by rw [h]; exact List.mem_singleton.mpr rfl)) z) fun b hb => ?_
    have hb' : b = it := List.mem_singleton.mp hb
    subst hb'
    obtain ⟨o, ho, hc, hd⟩ := hi
    exact ⟨by omega, hitp, hitf, o, ho, fun ⟨_, its, n, z⟩ => by rw [hd] at z; cases z⟩
  have afw : ∀ {q q' : (Str → Option Value) → Heap → Prop} {s : Shared} {i : Nat} {h' : Heap}, AF base g pr outer l a x q s → s.heap.IsListIter it p i → (∃ i', h'.IsListIter it p i') → (∀ b o, b ≠ it → s.heap.get? b = some o → h'.get? b = some o) → (∀ m, q m s.heap → q' m h') → AF base g pr outer l a x q' { s with heap := h' } := fun {q q' s i h'} af hi hi' hk hq => by
    refine af.keep (fun b hb o z => hk b o (fun h => ?_) z) (funs_nrec (h := s.heap) (fun b o z hz => ?_) af.funs) (fun b o z => hk b o (fun h => ?_) (af.base b o z)) af.bare (fun b hb => ?_) af.gl hq
    · rcases hb with hb | hb
      · exact n1 (hb.symm.trans h)
      · exact n2 (hb.symm.trans h)
    · by_cases hb : b = it
      · obtain ⟨o', ho', _, hd'⟩ := hi
        subst hb
        rw [z] at ho'
        cases ho'
        exact absurd hd' (hz _)
      · exact ⟨o, hk b o hb z, hz⟩
    · have key : ∀ b : Nat, b < base.objs.size → b = it → False := fun b h1 h2 => by have := ao.bsz; omega
      exact key b (Heap.lt_size z) h
    · obtain ⟨o, z⟩ := af.prx b hb
      exact ⟨o, hk b o (fun h => hitp (h ▸ hb)) z⟩
  intro r
  induction r with
  | zero =>
    intro i s₀ s hi ev af
    obtain ⟨m, hn, hx, he, hli, hls⟩ := af.ns
    refine seg_forLoop ?_
    rw [hov]
    refine wpAny_pyNext_list_end hA.hd hli hls (by rw [Array.getElem?_eq_none]; omega) fun h' hx' => ?_
    exact hend s₀ _ (ev.trans (evw af hli fun b o hb z => hx' b o hb z))
  | succ r ih =>
    intro i s₀ s hi ev af
    obtain ⟨m, hn, hx, he, hli, hls⟩ := af.ns
    have hil : i < bs.length := by omega
    obtain ⟨u, hu, t', rfl⟩ := hits.get (show (bs.map natV)[i]? = some (natV bs[i]) by rw [List.getElem?_map, List.getElem?_eq_getElem hil]; rfl)
    refine seg_forLoop ?_
    rw [hov]
    refine wpAny_pyNext_list_item hli hls (x := .int ((bs[i] : Nat) : Int) t') (by simpa using hu) fun h2 hli2 hs2 => ?_
    have hk2 : ∀ b o, b ≠ it → s.heap.get? b = some o → h2.get? b = some o := fun b o hb z => hs2.extBut b o hb z
    have af2 : AF base g pr outer l a x (liQ it p items (i + 1)) { s with heap := h2 } := afw af hli ⟨_, hli2⟩ hk2 fun m hq => ⟨hli2, hq.2.at fun o z => hk2 p o (Ne.symm hip) z⟩
    have evc : Evo (frs outer) B 0 pr s₀ { s with heap := h2 } := ev.trans (evw af hli hk2)
    obtain ⟨m, hn, hx, he, hli2, hls2⟩ := af2.ns
    show wpAny (model P w) A2 (letOwnedTupleGo (.Name "block" pb) (.ref it) (.int ((bs[i] : Nat) : Int) t')) _ _ _
    refine wpAny_of_eq (a := ()) rfl ?_
    refine wpAny_assign_Name (wpAny_storeName_local rfl hn fun h3 hn3 hs3 => ?_)
    have hs3' : Heap.SameBut l h2 h3 := hs3
    have evs : Evo (frs outer) B 0 pr { s with heap := h2 } { s with heap := h3, toks := s.toks + 1 } := Evo.storeA (s := { s with heap := h2 }) ao af2 hs3
    have af3 : AF base g pr outer l a x (liQ it p items (i + 1)) { s with heap := h3, toks := s.toks + 1 } := AF.store (s := { s with heap := h2 }) ao af2 hx he hn hn3 hs3 (by decide) (by decide) ⟨hli2.at fun o z => hs3'.extBut it o (Ne.symm n1) z, hls2.at fun o z => hs3'.extBut p o hpl z⟩
    refine seg_execs_cons ?_
    refine seg_Expr_Yield hsp rfl hgu ?_
    rw [hov]
    have hBh : B ≤ h3.objs.size := by
      have q := hn3.lt
      have key : ∀ n : Nat, l < n → B ≤ n := fun n h => by omega
      exact key _ q
    refine r_tup2 (v := .int ((bs[i] : Nat) : Int) t') aw_fr rfl hn3 (if_pos rfl) (h := ?_)
    intro kap hkap
    have hk4 : ∀ (ob : Obj) b o, h3.get? b = some o → (h3.push ob).get? b = some o := fun ob b o z => Heap.get?_push_of_some _ z
    have af4 := AF.laid (tk := s.toks + 1 + 1) af3 (hk4 ({ cls := .type "tuple", data := .seq #[.str "erase" (s.toks + 1), .int ((bs[i] : Nat) : Int) t'] } : Obj)) (q' := liQ it p items (i + 1)) fun m hq => ⟨hq.1.at fun o z => hk4 _ it o z, hq.2.at fun o z => hk4 _ p o z⟩
    have ev4 : Evo (frs outer) B 0 pr s₀ { s with heap := h3.push ({ cls := .type "tuple", data := .seq #[.str "erase" (s.toks + 1), .int ((bs[i] : Nat) : Int) t'] } : Obj), toks := s.toks + 1 + 1 } := (evc.trans evs).trans (.exact (fun b o z _ => hk4 _ b o z) (fun _ _ => rfl) (Nat.le_refl _) rfl fun h => h)
    refine ⟨ispW B (.erase bs[i]), ?_, ⟨h3.objs.size, s.toks + 1, t', rfl, hBh, ⟨_, Heap.get?_push_size _ rfl, rfl, _, rfl⟩⟩, ev4, af4.isg, af4.gl, fun s' sl ig => hkap .none s' ?_⟩
    · have e0 : bs = bs.take i ++ bs[i] :: bs.drop (i + 1) := by rw [← List.drop_eq_getElem_cons hil, List.take_append_drop]
      have eq : tot.map (ispW B) = (pre ++ (bs.take i).map Wr.erase).map (ispW B) ++ ispW B (.erase bs[i]) :: ((bs.drop (i + 1)).map Wr.erase).map (ispW B) := by
        have e1 : bs.map Wr.erase = (bs.take i).map Wr.erase ++ Wr.erase bs[i] :: (bs.drop (i + 1)).map Wr.erase := by
          rw [← List.map_cons, ← List.map_append, ← e0]
        rw [htot, e1]
        simp
      have q := idx_at eq
      rw [show (((bs.drop (i + 1)).map Wr.erase).map (ispW B)).length = r by simp; omega] at q
      exact q
    · refine seg_execs_nil ?_
      refine seg_again rfl ?_
      refine ih (i + 1) s' s' (by omega) Evo.refl (af4.slp ao sl fun m hq => ⟨hq.1.at fun o z => sl.own it o z (.inl ⟨by omega, hitp⟩), hq.2.at fun o z => sl.own p o z (.inl ⟨hp, hpp⟩)⟩)
end
end FB

/-! ## FBGen12 -/
set_option Elab.async false
set_option linter.all false
set_option maxRecDepth 100000
set_option maxHeartbeats 4000000
/-! all_writes: the call. -/
namespace FB
open PySem PySem.Spec PyProof.Rows L2 GenW
section
variable {P : Program} {w : World} {K : PySem.W.Frag} {mg : Str → Option Value} {base : Heap}
theorem aw_env (l f : Addr) (cdv : Value) : newEnv (defScope sAllWrites) l mainGlobals [] ("all_writes" ++ ".<locals>.") (some f) cdv none builtinsNs = awEnv l f cdv := by
  unfold awEnv envOfC
  rfl
/-- what a call of all_writes gives -/
def MadeW (P : Program) (w : World) (base : Heap) (x : Str) (outer : List Env) (s : Shared) (u : Value) (s' : Shared) : Prop :=
  ∃ (a : Nat) (xg : GenState) (h' : Heap) (tk : Nat), u = .ref a ∧ s' = { s with heap := h', gens := s.gens.push xg, toks := tk } ∧ (∀ b o, s.heap.get? b = some o → h'.get? b = some o) ∧ s.heap.objs.size < a ∧ a < h'.objs.size ∧ xg.bare = true ∧ h'.IsGen a s.gens.size ∧
    ∀ (A' : Around) (pr : List Addr), Room 30 A' → A'.frames = some outer → (∀ b ∈ pr, h'.objs.size ≤ b) → Live (frs outer) P w base A' s.heap.objs.size 0 pr [] a s.gens.size ((allM x).map (ispW s.heap.objs.size)) (allM x).length s'
theorem seg_If {A : Around} {R : GenEnd} {Y : Protocol} {n : Nat} {s₀ : Shared} {fs : List Frame} {s : Shared} {env : Env} {c : Code} {Kf : Flow → Sem PySem.Fin} {J : Value → Sem PySem.Fin} {gd : Bool → Bool} {lv : List Value → List Value} {test : Expr} {body orelse : List Stmt} {pos : Pos}
    (h : wpAny (model P w) (A.over c fs) (isTrue test env (eval test env)) (fun b s1 => Seg (model P w) A R Y n s₀ c ((if b = true then execs body env else execs orelse env).wrap Kf J gd lv) fs s1) (fun _ _ => False) s) :
    Seg (model P w) A R Y n s₀ c ((exec (.If test body orelse pos) env).wrap Kf J gd lv) fs s := by
  rw [exec_If]
  refine seg_bind_wrap (wpAny_standAt ?_)
  exact seg_bind_wrap (wpAny_mono h (fun b s1 h1 => h1) fun _ _ z => False.elim z)
theorem aw_run (T : Txt K mg) (md : Mod K mg base) {x : Str} (fx : Fit x) (h10 : (standingM x).length ≤ 10) {pr : List Addr} {outer : List Env} {A1 : Around} {B g l a : Nat} {f : Addr} {cdv : Value} (hA2 : Room 28 (A1.deeper (awEnv l f cdv))) (hfr2 : (A1.deeper (awEnv l f cdv)).frames = some (awEnv l f cdv :: outer))
    (ao : AO base B pr outer l a) {s3 : Shared} (af : AF base g pr outer l a x (fun _ _ => True) s3) : Seg (model P w) A1 (RL (frs outer) B 0 pr) (YL (frs outer) base B 0 g a pr [] ((allM x).map (ispW B))) (allM x).length s3 (.func (defBody sAllWrites) (awEnv l f cdv))
      ((model P w).den (.func (defBody sAllWrites) (awEnv l f cdv))) [] s3 := by
  obtain ⟨rb, j1, j2, k1, k2, p1, p2, p3, p4, p5, p6, p7, p8, p9, p10, p11, p12, p13, p14, p15, p16, p17, p18, p19, p20, p21, p22, p23, p24, p25, p26, p27, p28, p29, p30, p31, p32, p33, p34, p35, p36, p37, hc⟩ := aw_body
  rw [hc]
  refine seg_func ?_
  have big : ∀ {q} {s : Shared}, AF base g pr outer l a x q s → base.objs.size ≤ s.heap.objs.size := fun {q s} af => by
    obtain ⟨m, hm, _⟩ := af.ns
    have h1 := hm.lt
    have h2 := ao.bsz
    have h3 := ao.hl
    have key : ∀ n : Nat, l < n → base.objs.size ≤ n := fun n h => by omega
    exact key _ h1
  -- need_pattern(x)
  refine seg_execs_cons (seg_wrap ?_)
  rw [over_func]
  obtain ⟨m3, hm3, ⟨t3, hx3⟩, he3, _⟩ := af.ns
  refine wpAny_Expr_any (r_fn (outer := outer) (ok_need_pattern T) T.n_need_pattern rfl (hA2.mono (by decide)) hfr2 md aw_fr (af.frs ao) af.base (big af) af.bare rfl T.g_need_pattern T.need_pattern.kp rfl hm3 hx3 (v := .str x) ⟨t3, rfl⟩ (Qv := fun _ _ => True) ⟨x, rfl, fx.ok, fun _ _ => trivial⟩ (h := fun u4 s4 v4 H4 k4 _ _ _ _ => ?_)) rfl rfl
  have af4 : AF base g pr outer l a x (fun _ _ => True) s4 := af.kp ao k4 fun _ h => h
  have ev4 : Evo (frs outer) B 0 pr s3 s4 := Evo.kp ao af k4
  -- standing = standing_bits(x)
  refine seg_execs_cons (seg_wrap ?_)
  rw [over_func]
  obtain ⟨m4, hm4, ⟨t4, hx4⟩, he4, _⟩ := af4.ns
  refine wpAny_Assign_Name (r_fn (outer := outer) (ok_standing T) T.n_standing_bits rfl (hA2.mono (by decide)) hfr2 md aw_fr (af4.frs ao) af4.base (big af4) af4.bare rfl T.g_standing_bits T.standing_bits.kp rfl hm4 hx4 (v := .str x) ⟨t4, rfl⟩ (Qv := fun v H' => ∃ p, v = .ref p ∧ H' p = some (.lst ((standingM x).map natV)))
    ⟨x, rfl, fx.len, fun H' p _ _ h => ⟨p, rfl, h⟩⟩ (h := fun u5 s5 v5 H5 k5 hf5 rv5 hok5 q5 => ?_)) rfl
  obtain ⟨p, rfl, hp5⟩ := q5
  obtain rfl : u5 = .ref p := rv5
  obtain ⟨hz5, its, c5, vits, hpl⟩ := hok5 p _ hp5
  have hpn : s4.heap.get? p = none := by
    cases e : s4.heap.get? p with
    | none => rfl
    | some o =>
      rw [hf5 p o e] at hp5
      cases hp5
  have hpB : s4.heap.objs.size ≤ p := k5.nx.fresh hpn ⟨_, hpl⟩
  have af5 : AF base g pr outer l a x (fun _ h => h.IsList p its.toArray) s5 := af4.kp ao k5 fun _ _ => ⟨_, hpl, rfl, _, rfl⟩
  have ev5 : Evo (frs outer) B 0 pr s3 s5 := ev4.trans (Evo.kp ao af4 k5)
  obtain ⟨m5, hm5, hx5, he5, hl5⟩ := af5.ns
  have hll : l < s4.heap.objs.size := hm4.lt
  have hpl2 : p ≠ l := fun h => by
    rw [h] at hpB
    exact absurd (Nat.lt_of_lt_of_le hll hpB) (Nat.lt_irrefl _)
  refine wpAny_storeName_local rfl hm5 fun h6 hn6 hs6 => ?_
  have hs6' : Heap.SameBut l s5.heap h6 := hs6
  have af6 : AF base g pr outer l a x (fun m h => m "standing" = some (.ref p) ∧ h.IsList p its.toArray) { s5 with heap := h6, toks := s5.toks + 1 } := AF.store (s := s5) ao af5 hx5 he5 hm5 hn6 hs6 (by decide) (by decide) ⟨if_pos rfl, hl5.at fun o z => hs6'.extBut p o hpl2 z⟩
  have ev6 : Evo (frs outer) B 0 pr s3 { s5 with heap := h6, toks := s5.toks + 1 } := ev5.trans (Evo.storeA (s := s5) ao af5 hs6)
  have hlen : its.toArray.size = (standingM x).length := by
    have := vits.length
    simpa using this.symm
  -- if len(standing) > MOST_STANDING
  refine seg_execs_cons (seg_If ?_)
  rw [over_func]
  obtain ⟨m6, hm6, hx6, he6, hst6, hl6⟩ := af6.ns
  obtain ⟨tm, hms⟩ := T.m_ms
  refine wpAny_isTrue_Compare1 (wpAny_Call_Name_kw (r_blt md af6.base aw_fr rfl T.b_len bt_len (PyProof.Rows.callWith_builtin1 (args_cons (r_loc aw_fr rfl hm6 hst6 (args_nil (len_list hl6 (by rw [hlen]; omega) ?_)))) rfl rfl))) (nomark _)
  refine r_glob (s := { s5 with heap := h6, toks := s5.toks + 1 + 1 + 1 }) md af6.base aw_fr rfl hms (gt_int (wpAny_truthy_bool ?_))
  rw [show decide ((10 : Int) < (its.toArray.size : Int)) = false from decide_eq_false (by rw [hlen]; omega), if_neg Bool.false_ne_true]
  refine seg_execs_nil ?_
  have af7 : AF base g pr outer l a x (fun m h => m "standing" = some (.ref p) ∧ h.IsList p its.toArray) { s5 with heap := h6, toks := s5.toks + 1 + 1 + 1 } := AF.laid (s := { s5 with heap := h6, toks := s5.toks + 1 }) (tk := s5.toks + 1 + 1 + 1) af6 (fun _ _ z => z) fun _ h => h
  have ev7 : Evo (frs outer) B 0 pr s3 { s5 with heap := h6, toks := s5.toks + 1 + 1 + 1 } := ev6.trans (Evo.exact (fun _ _ z _ => z) (fun _ _ => rfl) (Nat.le_refl _) rfl fun h => h)
  generalize ({ s5 with heap := h6, toks := s5.toks + 1 + 1 + 1 } : Shared) = s7 at af7 ev7
  -- for bits in choices(standing)
  refine seg_execs_cons (seg_For ?_)
  rw [over_func]
  obtain ⟨m7, hm7, hx7, he7, hst7, hl7⟩ := af7.ns
  refine wpAny_Call_Name_kw (r_glob md af7.base aw_fr rfl T.g_choices (PySem.W.callWith_K (h₀ := base) md.kin T.choices.kp (args_cons (r_loc aw_fr rfl hm7 hst7 (args_nil ⟨md.kin.keeps af7.base, wpAny_call ?_⟩))) rfl rfl))
  refine codeAny_mono (ch_ok T md 901 (Nat.le_refl _) (standingM x) (by omega) (A1.deeper (awEnv l f cdv)) s7 p _ (hA2.mono (by omega)) af7.base (big af7) hl7 (by simpa using vits)) fun r8 s8 hr8 => ?_
  obtain ⟨u, rfl, a2, x8, h8, tk8, rfl, rfl, hk8, ha2, ha2', hx8, hig, live⟩ : ∃ u, r8 = .ok (.ret u) ∧ MadeC P w base (standingM x) p s7 u s8 := by
    cases r8 with
    | error e => exact hr8.elim
    | ok fl =>
      cases fl with
      | ret u => exact ⟨u, rfl, hr8⟩
      | next => exact hr8.elim
      | brk => exact hr8.elim
      | cont => exact hr8.elim
  have gi : ∀ j, j < s7.gens.size → (s7.gens.push x8)[j]? = s7.gens[j]? := fun j hj => by
    rw [Array.getElem?_push, if_neg (Nat.ne_of_lt hj)]
  have af8 : AF base g pr outer l a x (fun _ _ => True) { s7 with heap := h8, gens := s7.gens.push x8, toks := tk8 } :=
    af7.keep (fun b _ o z => hk8 b o z) (af7.funs.of_keeps fun b o z _ => ⟨o, hk8 b o z, rfl⟩) (fun b o z => hk8 b o (af7.base b o z)) (AllBare.push af7.bare hx8) (fun b hb => let ⟨o, z⟩ := af7.prx b hb; ⟨o, hk8 b o z⟩) (by
      show g < (s7.gens.push x8).size
      rw [Array.size_push]
      exact Nat.lt_succ_of_lt af7.gl) fun _ _ => trivial
  have ev8 : Evo (frs outer) B 0 pr s3 { s7 with heap := h8, gens := s7.gens.push x8, toks := tk8 } := ev7.trans (.exact (fun b o z _ => hk8 b o z) (fun j hj => by omega) (by
    show s7.gens.size ≤ (s7.gens.push x8).size
    rw [Array.size_push]
    exact Nat.le_succ _) rfl fun h => AllBare.push h hx8)
  show wpAny (model P w) (A1.deeper (awEnv l f cdv)) (pyIter (.ref a2)) _ _ _
  refine wpAny_pyIter_gen hig fun p8 l8 kp8 => ?_
  have hal7 : a < s7.heap.objs.size := by
    obtain ⟨o, nm, qn, ho, _⟩ := af7.isg
    exact Heap.lt_size ho
  have ell : (allM x).length = (choicesM (standingM x)).length + ((fallenM x).map Wr.erase).length := by
    unfold allM
    rw [List.length_append, List.length_map]
  rw [ell]
  have hpB' : B ≤ p := by
    have key : ∀ n m : Nat, l < n → n ≤ m → B ≤ m := fun n m h1 h2 => by have := ao.hl; omega
    exact key _ _ hll hpB
  refine aw_in1 (P := P) (w := w) (base := base) (k := 28) (L2 := p) (B2 := s7.heap.objs.size) (g2 := s7.gens.size) (ys := standingM x) (tail := (fallenM x).map Wr.erase) (tot := allM x) (pre := []) ao ((over_loop rfl rfl).trans over_func) rfl rfl hA2 md.nolimit hal7 af7.gl hpB' hpl2 (fun h => ?_) rfl (fun s₀9 s9 ev9 af9 => ?_) (choicesM (standingM x)) [] s3 _ rfl ev8 af8 (live _ pr (hA2.mono (by omega)) fun b hb => .inl (by
    obtain ⟨o, z⟩ := af7.prx b hb
    exact Heap.lt_size z))
  · obtain ⟨o, z⟩ := af4.prx p h
    rw [hpn] at z
    cases z
  -- if erases
  refine seg_noMore (seg_leaf (.ok .next) ?_)
  refine seg_execs_cons (env := awEnv l f cdv) (seg_If ?_)
  rw [over_func]
  obtain ⟨m9, hm9, ⟨t9, hx9⟩, he9, _⟩ := af9.ns
  refine isTrue_plain (r_loc aw_fr rfl hm9 he9 (wpAny_truthy_bool ?_))
  rw [if_pos rfl]
  -- for block in fallen_blocks(x)
  refine seg_execs_cons (seg_For ?_)
  rw [over_func]
  refine r_fn (outer := outer) (ok_fallen T) T.n_fallen_blocks rfl (hA2.mono (by decide)) hfr2 md aw_fr (af9.frs ao) af9.base (big af9) af9.bare rfl T.g_fallen_blocks T.fallen_blocks.kp rfl hm9 hx9 (v := .str x) ⟨t9, rfl⟩ (Qv := fun v H' => ∃ p, v = .ref p ∧ H' p = some (.lst ((fallenM x).map natV)))
    ⟨x, rfl, fx.len, fx.many, fun H' p _ _ h => ⟨p, rfl, h⟩⟩ (h := fun u10 s10 v10 H10 k10 hf10 rv10 hok10 q10 => ?_)
  obtain ⟨q, rfl, hq10⟩ := q10
  obtain rfl : u10 = .ref q := rv10
  obtain ⟨hz10, its2, c10, vits2, hql⟩ := hok10 q _ hq10
  have hqn : s9.heap.get? q = none := by
    cases e : s9.heap.get? q with
    | none => rfl
    | some o =>
      rw [hf10 q o e] at hq10
      cases hq10
  have hqB : s9.heap.objs.size ≤ q := k10.nx.fresh hqn ⟨_, hql⟩
  have af10 : AF base g pr outer l a x (fun _ h => h.IsList q its2.toArray) s10 := af9.kp ao k10 fun _ _ => ⟨_, hql, rfl, _, rfl⟩
  have ev10 : Evo (frs outer) B 0 pr s₀9 s10 := ev9.trans (Evo.kp ao af9 k10)
  have hlq : s10.heap.IsList q its2.toArray := ⟨_, hql, rfl, _, rfl⟩
  refine wpAny_pyIter_list hlq fun p10 l10 kp10 => ?_
  have hk11 : ∀ (ob : Obj) b o, s10.heap.get? b = some o → (s10.heap.push ob).get? b = some o := fun ob b o z => Heap.get?_push_of_some _ z
  have af11 := AF.laid (tk := s10.toks) af10 (hk11 ({ cls := .type "list_iterator", data := .fields #[.ref q, .int 0 0] } : Obj)) (q' := liQ s10.heap.objs.size q its2.toArray 0) fun m h => ⟨⟨_, Heap.get?_push_size _ rfl, rfl, rfl⟩, h.at fun o z => hk11 _ q o z⟩
  have ev11 : Evo (frs outer) B 0 pr s₀9 { s10 with heap := s10.heap.push ({ cls := .type "list_iterator", data := .fields #[.ref q, .int 0 0] } : Obj) } := ev10.trans (.exact (fun b o z _ => hk11 _ b o z) (fun _ _ => rfl) (Nat.le_refl _) rfl fun h => h)
  have hl9 : l < s9.heap.objs.size := hm9.lt
  have ha10 : a < s10.heap.objs.size := by
    obtain ⟨o, nm, qn, ho, _⟩ := af10.isg
    exact Heap.lt_size ho
  have hq10' : q < s10.heap.objs.size := Heap.lt_size hql
  have hBq : B ≤ q := by
    have key : ∀ n m : Nat, l < n → n ≤ m → B ≤ m := fun n m h1 h2 => by have := ao.hl; omega
    exact key _ _ hl9 hqB
  rw [show ((fallenM x).map Wr.erase).length = (fallenM x).length from List.length_map _]
  refine aw_in2 (P := P) (w := w) (base := base) (k := 28) (it := s10.heap.objs.size) (p := q) (bs := fallenM x) (tot := allM x) (pre := (choicesM (standingM x)).map Wr.fall) ao ((over_loop rfl rfl).trans over_func) rfl rfl hA2 ha10 hBq (fun h => ?_) (Nat.ne_of_gt hq10') (fun h => ?_) (fun h => ?_) (by simpa using vits2) rfl (fun s₀12 s12 ev12 => ?_) (fallenM x).length 0 s₀9 _ (Nat.zero_add _) ev11 af11
  · rw [h] at hqB
    exact absurd (Nat.lt_of_lt_of_le hl9 hqB) (Nat.lt_irrefl _)
  · obtain ⟨o, z⟩ := af10.prx _ h
    exact absurd (Heap.lt_size z) (Nat.lt_irrefl _)
  · obtain ⟨o, z⟩ := af9.prx q h
    rw [hqn] at z
    cases z
  refine seg_noMore (seg_leaf (.ok .next) ?_)
  exact seg_end (.ok (.ret .none)) (.inl ⟨.inl rfl, rfl, ev12⟩)
theorem aw_made (T : Txt K mg) (md : Mod K mg base) (x : Str) (t : Tok) (fx : Fit x) (h10 : (standingM x).length ≤ 10) (A : Around) (s : Shared) (outer : List Env) (hr : Room 30 A) (hb : ∀ b o, base.get? b = some o → s.heap.get? b = some o) (hbz : base.objs.size ≤ s.heap.objs.size)
    (hfo : s.heap.FunFrames base outer) : codeAny (model P w) A (.call (.ref (a_all_writes K)) ⟨[.str x t], []⟩) (fun r s' => match r with | .ok (.ret u) => MadeW P w base x outer s u s' | _ => False) s := by
  obtain ⟨ds, vds, hB⟩ := T.n_all_writes
  obtain rfl : ds = [.bool true] := by
    cases vds with
    | cons r rr =>
      cases rr
      have : _ = Value.bool true := r
      rw [this]
  obtain ⟨oc, od, dV, kV, doc, pm, an, cdv, ct, osl, e, lk, hcd, _, _⟩ := T.all_writes.ex
  have KX : K.In s.heap := md.kin.keeps hb
  have lim : s.heap.NoLimit := md.nolimit.keeps hb
  have lk2 := lk
  have hbind := hB s [.str x t] KX rfl
  rw [e] at lk2 hbind
  refine codeAny_call_generator hr.depth (KX _ _ lk2) rfl rfl rfl rfl (PySem.W.codeRec_of KX hcd) (hbind _ _ _ _ ?_)
  refine wpAny_newFunctionEnv (show ∀ x ∈ (defScope sAllWrites).names, x.2 ≠ NameKind.cell by decide +kernel) (fun y hy => ?_) (fun h1 hns hsb => ?_) rfl
  · have hy2 : y = (("x" : Str), Value.str x t) ∨ y = (("erases" : Str), Value.bool true) := by simpa using hy
    rcases hy2 with rfl | rfl <;> rfl
  have kp1 : ∀ b o, s.heap.get? b = some o → h1.get? b = some o := fun b o z => hsb.extBut b o (Nat.ne_of_lt (Heap.lt_size z)) (Heap.get?_push_of_some _ z)
  have sz1 : h1.objs.size = s.heap.objs.size + 1 := by rw [hsb.1, Heap.size_push]
  refine ⟨lim.keeps kp1, ?_⟩
  show MadeW P w base x outer s (.ref h1.objs.size) _
  have henv := aw_env s.heap.objs.size (a_all_writes K) cdv
  refine ⟨h1.objs.size, _, _, _, rfl, rfl, fun b o z => Heap.get?_push_of_some _ (kp1 b o z), by omega, ?_, rfl, ⟨_, _, _, Heap.get?_push_size _ rfl, rfl, rfl, rfl⟩, fun A' pr hA' hfr hpr => ?_⟩
  · rw [Heap.size_push]
    exact Nat.lt_succ_self _
  have hpr2 : ∀ b ∈ pr, s.heap.objs.size + 2 ≤ b := fun b hb => by
    have q := hpr b hb
    rw [Heap.size_push, sz1] at q
    exact q
  have hnp : ∀ b : Nat, b < s.heap.objs.size + 2 → b ∉ pr := fun b h2 hm => absurd (Nat.lt_of_lt_of_le h2 (hpr2 b hm)) (Nat.lt_irrefl _)
  have ha1 : s.heap.objs.size ≤ h1.objs.size := by omega
  have hfb : ∀ b ∈ frs outer, b < s.heap.objs.size := fun b hb => by
    obtain ⟨o, ho, _⟩ := (hfo.mem hb).2
    exact Heap.lt_size ho
  have hnf : ∀ b : Nat, s.heap.objs.size ≤ b → b ∉ frs outer := fun b h hm => absurd (Nat.lt_of_lt_of_le (hfb b hm) h) (Nat.lt_irrefl _)
  refine ⟨ha1, hnp _ (by omega), hbz, Nat.zero_le _, fun b h => (hfo.mem h).1, ⟨_, _, _, Heap.get?_push_size _ rfl, rfl, rfl, rfl⟩, _, Array.getElem?_push_size .., fun s'' sl ig => ⟨rfl, ?_⟩⟩
  have hn2 : s''.heap.Ns s.heap.objs.size (fun z => ([(("x" : Str), Value.str x t), (("erases" : Str), Value.bool true)] : List (Str × Value)).reverse.lookup z) := hns.at' fun o z => sl.own _ o (Heap.get?_push_of_some _ z) (.inl ⟨Nat.le_refl _, hnp _ (by omega)⟩)
  have hg2 : s.gens.size < s''.gens.size := Nat.lt_of_lt_of_le (by
    show s.gens.size < (s.gens.push _).size
    rw [Array.size_push]
    exact Nat.lt_succ_self _) sl.gsz
  have ao : AO base s.heap.objs.size pr outer s.heap.objs.size h1.objs.size := ⟨hbz, rfl, by omega, hnp _ (by omega), hnp _ (by omega), hnf _ (Nat.le_refl _), hnf _ ha1, hfb⟩
  have hfs2 : s''.heap.FunFrames base outer := funs_nrec (fun b o z hz => sl.nrec b o (Heap.get?_push_of_some _ z) hz) (funs_nrec (fun b o z hz => ⟨o, kp1 b o z, hz⟩) hfo)
  have af : AF base s.gens.size pr outer s.heap.objs.size h1.objs.size x (fun _ _ => True) (s''.setGen s.gens.size .running) :=
    ⟨⟨_, hn2, ⟨t, rfl⟩, rfl, trivial⟩, ig, hfs2, sl.base, allBare_setGen sl.bare rfl, sl.prx, by rw [setGen_size]; exact hg2⟩
  show Seg (model P w) A'.in1 _ _ _ _ (.func (defBody sAllWrites) (newEnv (defScope sAllWrites) s.heap.objs.size mainGlobals [] ("all_writes" ++ ".<locals>.") (some (a_all_writes K)) cdv none builtinsNs)) ((model P w).den (.func (defBody sAllWrites) (newEnv (defScope sAllWrites) s.heap.objs.size mainGlobals [] ("all_writes" ++ ".<locals>.") (some (a_all_writes K)) cdv none builtinsNs))) [] _
  rw [henv]
  exact aw_run T md fx h10 (Room.deeper (Room.in1 (k := 29) hA') _) (Around.frames_deeper hfr) ao af
end
end FB

/-! ## FBGen13 -/
set_option Elab.async false
set_option linter.all false
set_option maxRecDepth 100000
set_option maxHeartbeats 4000000
/-! [w for w in all_writes(x)]: what it tracks. -/
namespace FB
open PySem PySem.Spec PyProof.Rows L2 GenW
/-- a thing that stands there and is not tracked yet is tracked -/
theorem _root_.L2.Inv.trackO {X : Cx} {pins : List (Addr × Obj)} {σ : L2.St} {H : Hp} {s : Shared} {a : Addr} {u : HO} (I : Inv X pins σ H s) (hn : H a = none) (hL : a ≠ X.env.locals) (h0 : ∀ o, X.s_0.heap.get? a ≠ some o) (hc : ∀ x c, X.env.cells.lookup x = some c → c ≠ a)
    (hp : ∀ p ∈ X.pn ++ pins, p.1 ≠ a) (new : ObjOk X.prog X.w (upd H a u) s.heap a u) : Inv X pins σ (upd H a u) s := by
  have ne : ∀ b o, H b = some o → b ≠ a := fun b o e => ne_of_none e hn
  refine ⟨I.ok, I.os, I.bare, ⟨I.base.keep, I.base.slot, fun b o e n hx => ?_, I.base.there, fun b xs e => ?_, fun b o u e => ?_, fun b ps e => ?_⟩, I.loc, I.cell, ?_, fun x c e => ?_, fun p hm => ?_, fun b o e => ?_, I.len⟩
  · rw [upd_ne (fun z => h0 o (by rw [← z]; exact e))]
    exact I.base.free b o e n hx
  · have q := I.base.tups b xs e
    rw [upd_ne (ne b _ q)]
    exact q
  · have q := I.base.frzs b o u e
    rw [upd_ne (ne b _ q)]
    exact q
  · obtain ⟨more, q⟩ := I.base.tbls b ps e
    exact ⟨more, by rw [upd_ne (ne b _ q)]; exact q⟩
  · rw [upd_ne (Ne.symm hL)]
    exact I.free
  · rw [upd_ne (hc x c e)]
    exact I.freeC x c e
  · obtain ⟨h1, h2, h3⟩ := I.pin p hm
    exact ⟨h1, by rw [upd_ne (hp p hm)]; exact h2, h3⟩
  · by_cases hb : b = a
    · subst hb
      rw [upd_same] at e
      cases e
      exact new
    · rw [upd_ne hb] at e
      exact (I.hok b o e).stay (fun _ _ _ q => q) (fun c q => by rw [upd_ne (ne c _ q)]; exact q) fun c xs q => by rw [upd_ne (ne c _ q)]; exact q
/-- an address that the frame has nothing to do with -/
structure Young (X : Cx) (pins : List (Addr × Obj)) (a : Addr) : Prop where
  loc : a ≠ X.env.locals
  old : ∀ o, X.s_0.heap.get? a ≠ some o
  cell : ∀ x c, X.env.cells.lookup x = some c → c ≠ a
  pin : ∀ p ∈ X.pn ++ pins, p.1 ≠ a
theorem young_of {X : Cx} {pins : List (Addr × Obj)} {σ : L2.St} {H : Hp} {s : Shared} (I : Inv X pins σ H s) {a : Addr} (h : s.heap.objs.size ≤ a) : Young X pins a := by
  have ksz : ∀ b o, s.heap.get? b = some o → b ≠ a := fun b o e => Nat.ne_of_lt (Nat.lt_of_lt_of_le (Heap.lt_size e) h)
  refine ⟨fun e => ?_, fun o e => ?_, fun x c e => ?_, fun p hp => ksz p.1 _ (I.pin p hp).1⟩
  · obtain ⟨m, ⟨o, es, ep, ho, _⟩, _⟩ := I.loc
    exact ksz _ o ho e.symm
  · exact absurd (Nat.lt_of_lt_of_le (Heap.lt_size e) (Nat.le_trans I.sz h)) (Nat.lt_irrefl _)
  · obtain ⟨v, o, ho, _⟩ := I.cell x c e
    exact ksz c o ho
/-- a write, as a value: a tuple -/
def WrA (H : Hp) (v : V) : Wr → Prop
  | .fall bs => ∃ T T2 : Addr, v = .ref T ∧ H T = some (.tup [.str "fall", .ref T2]) ∧ H T2 = some (.tup (bs.map natV))
  | .erase b => ∃ T : Addr, v = .ref T ∧ H T = some (.tup [.str "erase", .int (b : Int)])
theorem WrA.same {H H' : Hp} {v : V} {w : Wr} (h : WrA H v w) (s : Same H H') : WrA H' v w := by
  cases w with
  | fall bs => obtain ⟨T, T2, e, h1, h2⟩ := h; exact ⟨T, T2, e, s _ _ h1, s _ _ h2⟩
  | erase b => obtain ⟨T, e, h1⟩ := h; exact ⟨T, e, s _ _ h1⟩
inductive WsA (H : Hp) : List V → List Wr → Prop
  | nil : WsA H [] []
  | cons {v : V} {w : Wr} {vs : List V} {ws : List Wr} : WrA H v w → WsA H vs ws → WsA H (v :: vs) (w :: ws)
theorem WsA.same {H H' : Hp} {vs : List V} {ws : List Wr} (h : WsA H vs ws) (s : Same H H') : WsA H' vs ws := by
  induction h with
  | nil => exact .nil
  | cons h _ ih => exact .cons (h.same s) ih
theorem WsA.length {H : Hp} {vs : List V} {ws : List Wr} (h : WsA H vs ws) : vs.length = ws.length := by
  induction h with
  | nil => rfl
  | cons _ _ ih => simp [ih]
theorem WsA.get {H : Hp} {vs : List V} {ws : List Wr} (h : WsA H vs ws) : ∀ {i : Nat} {w : Wr}, ws[i]? = some w → ∃ v, vs[i]? = some v ∧ WrA H v w := by
  induction h with
  | nil => intro i w e; simp at e
  | cons h _ ih =>
    intro i w e
    cases i with
    | zero => simp at e; subst e; exact ⟨_, rfl, h⟩
    | succ i => simpa using ih (i := i) (w := w) (by simpa using e)
inductive IsA (B : Nat) (h : Heap) : List Value → List Wr → Prop
  | nil : IsA B h [] []
  | cons {u : Value} {w : Wr} {us : List Value} {ws : List Wr} : ispW B w u h → IsA B h us ws → IsA B h (u :: us) (w :: ws)
theorem IsA.snoc {B : Nat} {h : Heap} {us : List Value} {ws : List Wr} {u : Value} {w : Wr} (x : IsA B h us ws) (y : ispW B w u h) : IsA B h (us ++ [u]) (ws ++ [w]) := by
  induction x with
  | nil => exact .cons y .nil
  | cons a _ ih => exact .cons a ih
theorem isTuple_keep {B : Nat} {h h' : Heap} (k : ∀ (T : Nat) o, B ≤ T → h.get? T = some o → TupO o → h'.get? T = some o) {T : Nat} {vals : Array Value} (hB : B ≤ T) (x : h.IsTuple T vals) : h'.IsTuple T vals := by
  obtain ⟨o, ho, hc, n, hd⟩ := x
  exact ⟨o, k T o hB ho ⟨hc, _, n, hd⟩, hc, n, hd⟩
theorem ispW_keep {B : Nat} {h h' : Heap} (k : ∀ (T : Nat) o, B ≤ T → h.get? T = some o → TupO o → h'.get? T = some o) {w : Wr} {u : Value} (x : ispW B w u h) : ispW B w u h' := by
  cases w with
  | fall bs =>
    obtain ⟨T, T2, t, vals, e, h1, h2, h3, h4, h5⟩ := x
    exact ⟨T, T2, t, vals, e, h1, h2, isTuple_keep k h1 h3, isTuple_keep k h2 h4, h5⟩
  | erase b =>
    obtain ⟨T, t, t', e, h1, h3⟩ := x
    exact ⟨T, t, t', e, h1, isTuple_keep k h1 h3⟩
theorem IsA.keep {B : Nat} {h h' : Heap} (k : ∀ (T : Nat) o, B ≤ T → h.get? T = some o → TupO o → h'.get? T = some o) {us : List Value} {ws : List Wr} (x : IsA B h us ws) : IsA B h' us ws := by
  induction x with
  | nil => exact .nil
  | cons a _ ih => exact .cons (ispW_keep k a) ih
theorem IsA.length {B : Nat} {h : Heap} {us : List Value} {ws : List Wr} (x : IsA B h us ws) : us.length = ws.length := by
  induction x with
  | nil => rfl
  | cons _ _ ih => simp [ih]
section
variable {X : Cx} {pins : List (Addr × Obj)} {σ : L2.St} {s : Shared}
/-- above B nothing but tuples is tracked -/
def TupsAt (B : Nat) (H : Hp) : Prop := ∀ (b : Nat) o, B ≤ b → H b = some o → ∃ ys, o = .tup ys
theorem track_tup {B : Nat} {H : Hp} (I : Inv X pins σ H s) (hY : ∀ b : Nat, B ≤ b → Young X pins b) (hP : TupsAt B H) {T : Nat} {vals : Array Value} {xs : List V} (hB : B ≤ T) (hT : s.heap.IsTuple T vals) (hv : Vals xs vals.toList) (hz : xs.length ≤ sizeLine) :
    ∃ H', Inv X pins σ H' s ∧ H' T = some (.tup xs) ∧ Same H H' ∧ TupsAt B H' := by
  cases e : H T with
  | none =>
    obtain ⟨y1, y2, y3, y4⟩ := hY T hB
    have ne : ∀ b o, H b = some o → b ≠ T := fun b o q => ne_of_none q e
    refine ⟨upd H T (.tup xs), I.trackO e y1 y2 y3 y4 ⟨hz, vals.toList, hv, ?_⟩, upd_same, fun b o q => by rw [upd_ne (ne b o q)]; exact q, fun b o hb q => ?_⟩
    · show s.heap.IsTuple T vals.toList.toArray
      simpa using hT
    · by_cases hbT : b = T
      · subst hbT
        rw [upd_same] at q
        cases q
        exact ⟨xs, rfl⟩
      · rw [upd_ne hbT] at q
        exact hP b o hb q
  | some o =>
    obtain ⟨ys, rfl⟩ := hP T o hB e
    obtain ⟨_, its, vits, hits⟩ := I.hok T _ e
    have ev : its = vals.toList := by
      obtain ⟨o1, ho1, _, n1, hd1⟩ := hits
      obtain ⟨o2, ho2, _, n2, hd2⟩ := hT
      rw [ho1] at ho2
      cases ho2
      rw [hd1] at hd2
      injection hd2 with hd2 _
      rw [← hd2]
    rw [ev] at vits
    have exy : ys = xs := Vals.inj vits hv
    subst exy
    exact ⟨H, I, e, Same.refl H, hP⟩
theorem track_all {B : Nat} : ∀ {us : List Value} {ws : List Wr}, IsA B s.heap us ws → ∀ {H : Hp}, Inv X pins σ H s → (∀ b : Nat, B ≤ b → Young X pins b) → TupsAt B H → (∀ bs, Wr.fall bs ∈ ws → bs.length ≤ 1000) →
    ∃ H' vs, Inv X pins σ H' s ∧ Same H H' ∧ Vals vs us ∧ WsA H' vs ws ∧ TupsAt B H'
  | _, _, .nil, H, I, hY, hP, _ => ⟨H, [], I, Same.refl H, .nil, .nil, hP⟩
  | _, _, .cons (u := u) (w := w) (us := us) (ws := ws) a r, H, I, hY, hP, hb => by
    have one : ∃ H' v, Inv X pins σ H' s ∧ Same H H' ∧ L2.RelV v u ∧ WrA H' v w ∧ TupsAt B H' := by
      cases w with
      | fall bs =>
        obtain ⟨T, T2, t, vals, rfl, h1, h2, h3, h4, h5⟩ := a
        have hbl := hb bs List.mem_cons_self
        obtain ⟨H1, I1, e1, s1, P1⟩ := track_tup I hY hP h2 h4 h5 (by rw [List.length_map, sizeLine_eq]; omega)
        obtain ⟨H2, I2, e2, s2, P2⟩ := track_tup (xs := [.str "fall", .ref T2]) I1 hY P1 h1 h3 (.cons ⟨t, rfl⟩ (.cons rfl .nil)) (by show 2 ≤ sizeLine; decide)
        exact ⟨H2, .ref T, I2, s1.trans s2, rfl, ⟨T, T2, rfl, e2, s2 _ _ e1⟩, P2⟩
      | erase b =>
        obtain ⟨T, t, t', rfl, h1, h3⟩ := a
        obtain ⟨H2, I2, e2, s2, P2⟩ := track_tup (xs := [.str "erase", .int (b : Int)]) I hY hP h1 h3 (.cons ⟨t, rfl⟩ (.cons ⟨t', rfl⟩ .nil)) (by show 2 ≤ sizeLine; decide)
        exact ⟨H2, .ref T, I2, s2, rfl, ⟨T, rfl, e2⟩, P2⟩
    obtain ⟨H1, v, I1, s1, rv, wa, P1⟩ := one
    obtain ⟨H2, vs, I2, s2, rvs, was, P2⟩ := track_all r I1 hY P1 fun bs h => hb bs (List.mem_cons_of_mem _ h)
    exact ⟨H2, v :: vs, I2, s1.trans s2, .cons rv rvs, .cons (wa.same s2) was, P2⟩
end
end FB

/-! ## FBGen14 -/
set_option Elab.async false
set_option linter.all false
set_option maxRecDepth 100000
set_option maxHeartbeats 4000000
/-! y = [w for w in all_writes(x)] -/
namespace FB
open PySem PySem.Spec PyProof.Rows L2 GenW
/-- behind i turns, seen from the state s0 at the call -/
structure LS (fr : List Addr) (B C D : Nat) (ws : List Wr) (s0 s' : Shared) : Prop where
  heap : ∀ b o, s0.heap.get? b = some o → b ∉ fr → s'.heap.get? b = some o
  slot : ∀ b o, s0.heap.get? b = some o → b ∈ fr → ∃ sl, s'.heap.get? b = some { o with slots := sl }
  os : s'.os = s0.os
  bare : AllBare s'.gens
  ns : ∃ m, s'.heap.Ns C m
  us : ∃ us : List Value, s'.heap.PlainList D us.toArray ∧ IsA B s'.heap us ws
/-- where its things lie -/
structure LO (fr : List Addr) (B C D : Nat) (s0 : Shared) : Prop where
  sz : s0.heap.objs.size = B
  hD : B ≤ D
  hC : D < C
  fr : ∀ b ∈ fr, b < B
section
variable {fr : List Addr} {B C D : Nat} {ws : List Wr} {s0 s' s2 : Shared}
theorem LO.nfr (lo : LO fr B C D s0) {b : Nat} (h : B ≤ b) : b ∉ fr := fun hm => absurd (Nat.lt_of_lt_of_le (lo.fr b hm) h) (Nat.lt_irrefl _)
theorem LO.lt (lo : LO fr B C D s0) {b : Addr} {o : Obj} (z : s0.heap.get? b = some o) : b < B := by
  have q := Heap.lt_size z
  rw [lo.sz] at q
  exact q
theorem LS.evo (lo : LO fr B C D s0) (x : LS fr B C D ws s0 s') (e : Evo fr B 0 [C, D] s' s2) : LS fr B C D ws s0 s2 := by
  obtain ⟨m, hn⟩ := x.ns
  obtain ⟨us, hD, hu⟩ := x.us
  have hCB : B ≤ C := Nat.le_trans lo.hD (Nat.le_of_lt lo.hC)
  refine ⟨fun b o z hb => e.heap b o (x.heap b o z hb) (.inl (lo.lt z)) hb, fun b o z hb => ?_, e.os.trans x.os, e.bare x.bare, ⟨m, hn.at' fun o z => e.heap C o z (.inr (.inl (by simp))) (lo.nfr hCB)⟩, us, hD.at fun o z => e.heap D o z (.inr (.inl (by simp))) (lo.nfr lo.hD), hu.keep fun T o hT z ht => e.heap T o z (.inr (.inr ht)) (lo.nfr hT)⟩
  obtain ⟨sl, z1⟩ := x.slot b o z hb
  obtain ⟨sl2, z2⟩ := e.slot b _ z1 hb
  exact ⟨sl2, z2⟩
theorem LS.store {h' : Heap} {tk : Nat} {m' : Str → Option Value} (lo : LO fr B C D s0) (x : LS fr B C D ws s0 s') (hn : h'.Ns C m') (hs : Heap.SameBut C s'.heap h') : LS fr B C D ws s0 { s' with heap := h', toks := tk } := by
  obtain ⟨m, hn0⟩ := x.ns
  obtain ⟨us, hD, hu⟩ := x.us
  have ne : ∀ b : Nat, b < B → b ≠ C := fun b h => by have := lo.hD; have := lo.hC; omega
  have neD : D ≠ C := Nat.ne_of_lt lo.hC
  refine ⟨fun b o z hb => hs.extBut b o (ne b (lo.lt z)) (x.heap b o z hb), fun b o z hb => ?_, x.os, x.bare, ⟨m', hn⟩, us, hD.at fun o z => hs.extBut D o neD z, hu.keep fun T o hT z ht => hs.extBut T o (fun h => ?_) z⟩
  · obtain ⟨sl, z1⟩ := x.slot b o z hb
    exact ⟨sl, hs.extBut b _ (ne b (lo.lt z)) z1⟩
  · obtain ⟨o2, es, ep, ho2, hd2, _⟩ := hn0
    obtain ⟨_, its, n, hd⟩ := ht
    have h' : T = C := h
    subst h'
    rw [z] at ho2
    cases ho2
    rw [hd] at hd2
    cases hd2
theorem LS.push {h' : Heap} {u : Value} {w : Wr} (lo : LO fr B C D s0) (x : LS fr B C D ws s0 s') {us : List Value} (hD : s'.heap.PlainList D us.toArray) (hu : IsA B s'.heap us ws) (hw : ispW B w u s'.heap) (hp : h'.PlainList D (us.toArray.push u)) (hs : Heap.SameBut D s'.heap h') : LS fr B C D (ws ++ [w]) s0 { s' with heap := h' } := by
  obtain ⟨m, hn0⟩ := x.ns
  have ne : ∀ b : Nat, b < B → b ≠ D := fun b h => by have := lo.hD; omega
  have neC : C ≠ D := Nat.ne_of_gt lo.hC
  have kT : ∀ (T : Nat) o, B ≤ T → s'.heap.get? T = some o → TupO o → h'.get? T = some o := fun T o _ z ht => hs.extBut T o (fun h => by
    obtain ⟨n2, ho2⟩ := hD
    obtain ⟨hc, _⟩ := ht
    have h' : T = D := h
    subst h'
    rw [z] at ho2
    cases ho2
    exact absurd (show Value.type "list" = Value.type "tuple" from hc) (by decide)) z
  refine ⟨fun b o z hb => hs.extBut b o (ne b (lo.lt z)) (x.heap b o z hb), fun b o z hb => ?_, x.os, x.bare, ⟨m, hn0.at' fun o z => hs.extBut C o neC z⟩, us ++ [u], ?_, (hu.keep kT).snoc (ispW_keep kT hw)⟩
  · obtain ⟨sl, z1⟩ := x.slot b o z hb
    exact ⟨sl, hs.extBut b _ (ne b (lo.lt z)) z1⟩
  · have e : us.toArray.push u = (us ++ [u]).toArray := by simp
    rw [← e]
    exact hp
/-- the consumer's writes to its two things, as its generator sees them -/
theorem slp_write {base : Heap} {g : Nat} {h' : Heap} {tk : Nat} (hk : ∀ b o, b ≠ C → b ≠ D → s'.heap.get? b = some o → h'.get? b = some o) (hb : ∀ b o, base.get? b = some o → h'.get? b = some o) (ha : AllBare s'.gens) (hC : ∃ m, s'.heap.Ns C m) (hC' : ∃ m, h'.Ns C m) (hD : ∃ us, s'.heap.PlainList D us) (hD' : ∃ us, h'.PlainList D us) :
    Slp base B g [C, D] [] s' { s' with heap := h', toks := tk } := by
  obtain ⟨m, o, es, ep, ho, hd, _⟩ := hC
  obtain ⟨m', o', es', ep', ho', hd', _⟩ := hC'
  obtain ⟨us, n, hl⟩ := hD
  obtain ⟨us', n', hl'⟩ := hD'
  refine ⟨fun b o z h => ?_, hb, fun _ _ _ => rfl, Nat.le_refl _, rfl, ha, fun b hb => ?_, fun b o z hz => ?_⟩
  · rcases h with ⟨_, h⟩ | h
    · exact hk b o (fun e => h (by simp [e])) (fun e => h (by simp [e])) z
    · simp at h
  · rcases List.mem_cons.mp hb with rfl | hb
    · exact ⟨_, ho'⟩
    · rcases List.mem_cons.mp hb with rfl | hb
      · exact ⟨_, hl'⟩
      · cases hb
  · by_cases h1 : b = C
    · subst h1
      exact ⟨o', ho', fun vs e => by rw [hd'] at e; cases e⟩
    · by_cases h2 : b = D
      · subst h2
        exact ⟨_, hl', fun vs e => by cases e⟩
      · exact ⟨o, hk b o h1 h2 z, hz⟩
end
def sAw (ix i : Nat) : TS := fun D σ H => ∃ x : Str, σ[ix]? = some (some (.str x)) ∧ Fit x ∧ (standingM x).length ≤ 10 ∧ (allM x).length ≤ 1000 ∧ ∀ L vs H', Same H H' → H L = none → H' L = some (.lst vs) → WsA H' vs (allM x) → D.nx (σ.set i (some (.ref L))) H'
theorem ps_awLc {X : Cx} {ix i : Nat} {xn y v : Str} {pv pt pf px pc pos py spos : Pos} {scope : Scope} (T : Txt X.K X.mg) (hN : X.N.Nodup) (hx : X.N[ix]? = some xn) (hvx : Vis X.env.scope xn) (hy : X.N[i]? = some y) (hyl : X.env.scope.names.lookup y = some .local) (hr : Room 30 X.A) (hg : Gl X "all_writes")
    (hsw : swapsWith (.ListComp (.Name v pv) [⟨.Name v pt, .Call (.Name "all_writes" pf) [.Name xn px] [] pc, [], 0⟩] scope pos) (some (.Name y py)) spos.line X.env = pure true) (hkind : scope.kind = .function) (hfree : ∀ y ∈ scope.names, y.2 ≠ .free) (huniq : ∀ y ∈ scope.names, y.2 = .local → scope.names.lookup y.1 = some .local)
    (hv : ∀ cl C, (compEnvC scope cl C X.env).kindOf v = some .local) (hkd : ∀ cl C, (compEnvC scope cl C X.env).scope.kind = .function) (hd : (xn == ("__debug__" : Str)) = false := by decide) (hd2 : (v == ("__debug__" : Str)) = false := by decide) (hcd : (xn == ("__classdict__" : Str)) = false := by decide) :
    PS X (.Assign [.Name y py] (.ListComp (.Name v pv) [⟨.Name v pt, .Call (.Name "all_writes" pf) [.Name xn px] [] pc, [], 0⟩] scope pos) spos) (sAw ix i) := by
  refine ⟨fun pins s σ H D I h => ?_⟩
  obtain ⟨x, hσ, fx, h10, hal, k⟩ := h
  rw [exec_Assign_Name_used _ _ _ _ hsw]
  refine wpAny_bind (wpAny_standAt (wpAny_bind ?_))
  show wpAny _ X.A (do let _ ← comprehension (.ListComp (.Name v pv) [⟨.Name v pt, .Call (.Name "all_writes" pf) [.Name xn px] [] pc, [], 0⟩] scope pos) scope X.env (firstIterPos [⟨.Name v pt, .Call (.Name "all_writes" pf) [.Name xn px] [] pc, [], 0⟩] pos) (newList []) false (eval (.Call (.Name "all_writes" pf) [.Name xn px] [] pc) X.env) (some (assign (.Name y py) X.env))) _ _ s
  refine wpAny_bind (thn (Q := fun _ s' => SP X pins D .next s') ?_ fun _ s' hq => wpAny_pure (wpAny_pure hq))
  refine wpAny_comprehension_free (use := some (assign (.Name y py) X.env)) rfl (fun _ => rfl) (closure_ok fun y hy e => absurd e (hfree y hy)) hkind huniq ?_
  -- all_writes(x)
  have pn : PE X (.Name xn px) (tVar ix) := pe_var hx hvx hd hcd
  refine wpAny_Call_Name_kw (ld_glob I hg T.g_all_writes (PySem.W.callWith_K (h₀ := X.base) I.ok.mod.kin T.all_writes.kp (args_cons (wpAny_mono (pn.run pins s σ H (fun v' H' => v' = .str x ∧ H' = H) I ⟨_, hσ, rfl, rfl⟩) (fun u0 s0 h0 => args_nil ?_) fun _ _ z => z)) rfl rfl))
  obtain ⟨v0, H0, I0, r0, rfl, rfl⟩ := h0
  obtain ⟨t0, rfl⟩ := r0
  refine ⟨I0.kIn, wpAny_call (codeAny_mono (aw_made T I0.ok.mod x t0 fx h10 X.A s0 X.stack hr I0.bk (Nat.le_trans I0.ok.bsz I0.sz) I0.stack) fun r1 s1 hr1 => ?_)⟩
  obtain ⟨u, rfl, a, xg, h1, tk1, rfl, rfl, hk1, ha, ha', hxg, hig, live⟩ : ∃ u, r1 = .ok (.ret u) ∧ MadeW X.prog X.w X.base x X.stack s0 u s1 := by
    cases r1 with
    | error e => exact hr1.elim
    | ok fl =>
      cases fl with
      | ret u => exact ⟨u, rfl, hr1⟩
      | next => exact hr1.elim
      | brk => exact hr1.elim
      | cont => exact hr1.elim
  show wpAny (model X.prog X.w) X.A (pyIter (.ref a)) _ _ _
  refine wpAny_pyIter_gen hig ?_
  refine wpAny_newObj_type (newEnv_comp ?_) (by show 0 ≤ sizeLine; decide)
  have hs1 : ∀ b o, s0.heap.get? b = some o → h1.get? b = some o := hk1
  generalize hce : compEnvC scope (cellsFrom ((h1.push ({ cls := .type "list", data := .seq ([] : List Value).toArray } : Obj)).objs.size + 1) scope.names (cloFrom X.env.cells scope.names [])) (h1.push ({ cls := .type "list", data := .seq ([] : List Value).toArray } : Obj)).objs.size X.env = ce
  show codeAny _ _ (.compStart (.ListComp (.Name v pv) [⟨.Name v pt, .Call (.Name "all_writes" pf) [.Name xn px] [] pc, [], 0⟩] scope pos) 0 (.ref a) (.ref h1.objs.size) (compEnvC scope (cellsFrom ((h1.push ({ cls := .type "list", data := .seq ([] : List Value).toArray } : Obj)).objs.size + 1) scope.names (cloFrom X.env.cells scope.names [])) (h1.push ({ cls := .type "list", data := .seq ([] : List Value).toArray } : Obj)).objs.size X.env))
    (compPost (model X.prog X.w) X.A X.xe (some (assign (.Name y py) X.env)) (fun _ s' => SP X pins D .next s') (.ref h1.objs.size) (h1.push ({ cls := .type "list", data := .seq ([] : List Value).toArray } : Obj)).objs.size)
    { s0 with heap := pushCells ((h1.push ({ cls := .type "list", data := .seq ([] : List Value).toArray } : Obj)).push { cls := .type "dict", data := .dict #[] }) scope.names, gens := s0.gens.push xg, toks := tk1 }
  rw [hce]
  have ceL : ce.locals = (h1.push ({ cls := .type "list", data := .seq ([] : List Value).toArray } : Obj)).objs.size := by rw [← hce]; rfl
  have ceV : ce.kindOf v = some .local := by rw [← hce]; exact hv _ _
  have ceK : ce.scope.kind = .function := by rw [← hce]; exact hkd _ _
  have k4 : ∀ b o, h1.get? b = some o → (pushCells ((h1.push ({ cls := .type "list", data := .seq ([] : List Value).toArray } : Obj)).push { cls := .type "dict", data := .dict #[] }) scope.names).get? b = some o := fun b o z => pushCells_keeps _ _ _ _ (Heap.get?_push_of_some _ (Heap.get?_push_of_some _ z))
  have hD4 : (pushCells ((h1.push ({ cls := .type "list", data := .seq ([] : List Value).toArray } : Obj)).push { cls := .type "dict", data := .dict #[] }) scope.names).get? h1.objs.size = some { cls := .type "list", data := .seq ([] : List Value).toArray } := pushCells_keeps _ _ _ _ (Heap.get?_push_of_some _ (Heap.get?_push_size _ rfl))
  have hC4 : (pushCells ((h1.push ({ cls := .type "list", data := .seq ([] : List Value).toArray } : Obj)).push { cls := .type "dict", data := .dict #[] }) scope.names).Ns ce.locals (fun _ => none) := by
    rw [ceL]
    exact Heap.Ns.keeps (Heap.Ns.new ..) fun b o e => pushCells_keeps _ _ _ _ e
  generalize hh4 : pushCells ((h1.push ({ cls := .type "list", data := .seq ([] : List Value).toArray } : Obj)).push { cls := .type "dict", data := .dict #[] }) scope.names = h4 at *
  rw [Heap.size_push] at ceL
  have hCs : (h1.push ({ cls := .type "list", data := .seq ([] : List Value).toArray } : Obj)).objs.size = h1.objs.size + 1 := Heap.size_push _ _
  rw [hCs]
  have lo : LO (frs X.stack) s0.heap.objs.size (h1.objs.size + 1) h1.objs.size s0 := ⟨rfl, by omega, Nat.lt_succ_self _, fun b hb => by
    obtain ⟨o, ho, _⟩ := (I0.stack.mem hb).2
    exact Heap.lt_size ho⟩
  rw [ceL] at hC4
  have hbk4 : ∀ b o, X.base.get? b = some o → h4.get? b = some o := fun b o z => k4 b o (hk1 b o (I0.bk b o z))
  have live4 : Live (frs X.stack) X.prog X.w X.base X.A s0.heap.objs.size 0 [h1.objs.size + 1, h1.objs.size] [] a s0.gens.size ((allM x).map (ispW s0.heap.objs.size)) (allM x).length { s0 with heap := h4, gens := s0.gens.push xg, toks := tk1 } := by
    refine (live X.A [h1.objs.size + 1, h1.objs.size] hr I0.ok.frames fun b hb => ?_).slp ⟨fun b o z _ => k4 b o z, hbk4, fun _ _ _ => rfl, Nat.le_refl _, rfl, AllBare.push I0.bare hxg, fun b hb => ?_, fun b o z hz => ⟨o, k4 b o z, hz⟩⟩ rfl
    · rcases List.mem_cons.mp hb with rfl | hb
      · exact Nat.le_succ _
      · rcases List.mem_cons.mp hb with rfl | hb
        · exact Nat.le_refl _
        · cases hb
    · rcases List.mem_cons.mp hb with rfl | hb
      · obtain ⟨o, es, ep, ho, _⟩ := hC4
        exact ⟨o, ho⟩
      · rcases List.mem_cons.mp hb with rfl | hb
        · exact ⟨_, hD4⟩
        · cases hb
  have ls4 : LS (frs X.stack) s0.heap.objs.size (h1.objs.size + 1) h1.objs.size [] s0 { s0 with heap := h4, gens := s0.gens.push xg, toks := tk1 } :=
    ⟨fun b o z _ => k4 b o (hk1 b o z), fun b o z _ => ⟨o.slots, k4 b o (hk1 b o z)⟩, rfl, AllBare.push I0.bare hxg, ⟨_, hC4⟩, [], ⟨_, hD4⟩, .nil⟩
  have frn : ∀ b o, X.base.get? b = some o → b ∉ frs X.stack := fun b o z hm => by
    rw [(I0.stack.mem hm).1] at z
    cases z
  generalize hB : s0.heap.objs.size = B at *
  generalize hDn : h1.objs.size = Dn at *
  have loop : codeAny (model X.prog X.w) X.A (.compLoop (.ListComp (.Name v pv) [⟨.Name v pt, .Call (.Name "all_writes" pf) [.Name xn px] [] pc, [], 0⟩] scope pos) 0 (.ref a) (.ref Dn) ce)
      (compPost (model X.prog X.w) X.A X.xe (some (assign (.Name y py) X.env)) (fun _ s' => SP X pins D .next s') (.ref Dn) (Dn + 1)) { s0 with heap := h4, gens := s0.gens.push xg, toks := tk1 } := by
    refine compLoop_any (fun n s' => ∃ j, j ≤ (allM x).length ∧ n = (allM x).length - j ∧ Live (frs X.stack) X.prog X.w X.base X.A B 0 [Dn + 1, Dn] [] a s0.gens.size ((allM x).map (ispW B)) ((allM x).length - j) s' ∧ LS (frs X.stack) B (Dn + 1) Dn ((allM x).take j) s0 s') ?_ (allM x).length
      ⟨0, Nat.zero_le _, rfl, live4, ls4⟩
    rintro n s' ⟨j, hj, rfl, lv, ls⟩
    have hbk : ∀ b o, X.base.get? b = some o → s'.heap.get? b = some o := fun b o z => ls.heap b o (I0.bk b o z) (frn b o z)
    have prx : ∀ b ∈ [Dn + 1, Dn], ∃ o, s'.heap.get? b = some o := fun b hb => by
      rcases List.mem_cons.mp hb with rfl | hb
      · obtain ⟨m, o, es, ep, ho, _⟩ := ls.ns
        exact ⟨o, ho⟩
      · rcases List.mem_cons.mp hb with rfl | hb
        · obtain ⟨us, ⟨n, hl⟩, _⟩ := ls.us
          exact ⟨_, hl⟩
        · cases hb
    by_cases hlt : j < (allM x).length
    · have en : (allM x).length - j = ((allM x).length - (j + 1)) + 1 := by omega
      rw [en] at lv
      refine next_live lv hr.hd hr.depth I0.ok.mod.nolimit hbk ls.bare prx fun u s2 sp h1' h2 ev lv2 => ?_
      have esp : sp = ispW B (allM x)[j] := by
        have e0 : allM x = (allM x).take j ++ (allM x)[j] :: (allM x).drop (j + 1) := by rw [← List.drop_eq_getElem_cons hlt, List.take_append_drop]
        have q := idx_at (l := (allM x).map (ispW B)) (a := ((allM x).take j).map (ispW B)) (y := ispW B (allM x)[j]) (b := ((allM x).drop (j + 1)).map (ispW B)) (by
          rw [← List.map_cons, ← List.map_append, ← e0])
        rw [List.length_map (as := (allM x).drop (j + 1)), List.length_drop] at q
        rw [h1'] at q
        exact Option.some.inj q
      subst esp
      have ls2 := ls.evo lo ev
      show wpAny (model X.prog X.w) X.A (letOwnedTupleGo (.Name v pt) (.ref a) u) _ _ s2
      refine wpAny_of_eq (a := ()) rfl ?_
      obtain ⟨m, hn⟩ := ls2.ns
      have hn' : s2.heap.Ns ce.locals m := by rw [ceL]; exact hn
      refine wpAny_assign_Name (wpAny_storeName_local ceV hn' (fun h3 hn3 hs3 => ?_) (by rw [ceK]; rfl))
      refine wpAny_tests_nil ?_
      rw [if_pos rfl]
      refine wpAny_Name (wpAny_loadName_local ceK ceV hn3 (if_pos rfl) ?_) hd2
      rw [ceL] at hn3 hs3
      have ls3 : LS (frs X.stack) B (Dn + 1) Dn ((allM x).take j) s0 { s2 with heap := h3, toks := s2.toks + 1 } := LS.store (s' := s2) lo ls2 hn3 hs3
      obtain ⟨us, hD, hu⟩ := ls3.us
      obtain ⟨us2, hD2, _⟩ := ls2.us
      have hul := hu.length
      rw [List.length_take] at hul
      have hw3 : ispW B (allM x)[j] u h3 := ispW_keep (fun T o hT z ht => hs3.extBut T o (fun h => by
        obtain ⟨o2, es, ep, ho2, hd2, _⟩ := hn
        obtain ⟨_, its, n, hdt⟩ := ht
        have h' : T = Dn + 1 := h
        subst h'
        rw [z] at ho2
        cases ho2
        rw [hdt] at hd2
        cases hd2) z) h2
      refine wpAny_list_append_plain hD (fun h5 hp5 hs5 => ?_) (by rw [List.size_toArray, sizeLine_eq]; omega)
      have ls5 : LS (frs X.stack) B (Dn + 1) Dn ((allM x).take j ++ [(allM x)[j]]) s0 { s2 with heap := h5, toks := s2.toks + 1 } := LS.push (s' := { s2 with heap := h3, toks := s2.toks + 1 }) lo ls3 hD hu hw3 hp5 hs5
      have etk : (allM x).take j ++ [(allM x)[j]] = (allM x).take (j + 1) := by
        rw [List.take_add_one, List.getElem?_eq_getElem hlt]
        rfl
      rw [etk] at ls5
      refine ⟨(allM x).length - (j + 1), by omega, j + 1, hlt, rfl, lv2.slp (slp_write (fun b o hb1 hb2 z => hs5.extBut b o hb2 (hs3.extBut b o hb1 z)) (fun b o z => ls5.heap b o (I0.bk b o z) (frn b o z)) ls2.bare ⟨m, hn⟩ ls5.ns ⟨_, hD2⟩ ⟨_, hp5⟩) rfl, ls5⟩
    · have ej : j = (allM x).length := by omega
      subst ej
      rw [Nat.sub_self] at lv
      refine stop_live lv hr.hd hr.depth I0.ok.mod.nolimit hbk ls.bare prx fun s2 ev => ?_
      have ls2 := ls.evo lo ev
      rw [List.take_length] at ls2
      have nst : ∀ b u, H0 b = some u → b ∉ frs X.stack := fun b u q hm => by
        rw [I0.stkFree b hm] at q
        cases q
      have I2 : Inv X pins σ H0 s2 := I0.call' (ch := []) ls2.os ⟨fun b o z _ hb _ => ls2.heap b o z hb, fun b o z _ hb _ => ls2.slot b o z hb, fun _ _ _ n _ => n, fun b o z _ => by
          by_cases hb : b ∈ frs X.stack
          · obtain ⟨sl, e⟩ := ls2.slot b o z hb
            exact ⟨_, e⟩
          · exact ⟨o, ls2.heap b o z hb⟩, fun _ _ q => q, fun _ _ _ q => q, fun b ps q => ⟨#[], by rw [q]; simp⟩⟩
        (fun b u q => (I0.hok b u q).stay (fun c w' hc y => by
          refine ls2.heap c w' y ?_
          rcases hc with hc | hc
          · rw [hc]; exact nst b u q
          · exact nst c _ hc) (fun _ y => y) fun _ _ y => y) ls2.bare (fun b z => by simp at z)
      have hY : ∀ b : Nat, B ≤ b → Young X pins b := fun b hb => young_of I0 (by rw [hB]; exact hb)
      have hP : TupsAt B H0 := fun b o hb e => by
        rw [I0.hok.fresh (by rw [hB]; exact hb)] at e
        cases e
      obtain ⟨us, hD, hu⟩ := ls2.us
      obtain ⟨m, hn⟩ := ls2.ns
      obtain ⟨H3, vs, I3, s3, rvs, was, P3⟩ := track_all hu I2 hY hP fun bs hm => by
        unfold allM at hm
        rcases List.mem_append.mp hm with hm | hm
        · obtain ⟨z, hz, e⟩ := List.mem_map.mp hm
          cases e
          have := choices_len _ _ hz
          omega
        · obtain ⟨z, hz, e⟩ := List.mem_map.mp hm
          cases e
      have hDB : B ≤ Dn := lo.hD
      have hCB : B ≤ Dn + 1 := Nat.le_succ_of_le hDB
      have kind : ∀ {T : Nat} {ys : List V}, H3 T = some (.tup ys) → ∃ o, s2.heap.get? T = some o ∧ TupO o := fun {T ys} e => by
        obtain ⟨_, its, _, o, ho, hc, n, hd⟩ := I3.hok T _ e
        exact ⟨o, ho, hc, _, n, hd⟩
      have hDn3 : H3 Dn = none := by
        cases e : H3 Dn with
        | none => rfl
        | some o =>
          obtain ⟨ys, rfl⟩ := P3 Dn o hDB e
          obtain ⟨o2, ho2, hc2, _⟩ := kind e
          obtain ⟨n, hl⟩ := hD
          rw [hl] at ho2
          cases ho2
          exact absurd (show Value.type "list" = Value.type "tuple" from hc2) (by decide)
      have hCn3 : H3 (Dn + 1) = none := by
        cases e : H3 (Dn + 1) with
        | none => rfl
        | some o =>
          obtain ⟨ys, rfl⟩ := P3 (Dn + 1) o hCB e
          obtain ⟨o2, ho2, _, its, n2, hd2⟩ := kind e
          obtain ⟨o3, es, ep, ho3, hd3, _⟩ := hn
          rw [ho2] at ho3
          cases ho3
          rw [hd2] at hd3
          cases hd3
      obtain ⟨y1, y2, y3, y4⟩ := hY Dn hDB
      have hvl : vs.length = (allM x).length := was.length
      have hul : us.length = (allM x).length := hu.length
      have I4 : Inv X pins σ (upd H3 Dn (.lst vs)) s2 := I3.trackO hDn3 y1 y2 y3 y4 ⟨by rw [hvl, sizeLine_eq]; omega, us, by
        obtain ⟨n, hl⟩ := hD
        exact ⟨n, rvs, hl⟩⟩
      have ne3 : ∀ b o, H3 b = some o → b ≠ Dn := fun b o e => ne_of_none e hDn3
      have s4 : Same H0 (upd H3 Dn (.lst vs)) := fun b o q => by
        rw [upd_ne (ne3 b o (s3 b o q))]
        exact s3 b o q
      have s34 : Same H3 (upd H3 Dn (.lst vs)) := fun b o q => by
        rw [upd_ne (ne3 b o q)]
        exact q
      have hCn4 : (upd H3 Dn (.lst vs)) (Dn + 1) = none := by
        rw [upd_ne (Nat.succ_ne_self Dn)]
        exact hCn3
      have hD0 : H0 Dn = none := I0.hok.fresh (by rw [hB]; exact hDB)
      show wpAny _ _ (assign (.Name y py) X.env (.ref Dn)) _ _ _
      refine wpAny_assign_Name (store_ok2 (v := V.ref Dn) I4 hN hy (.inl hyl) rfl (fun s5 I5 ⟨aa, sb, haa⟩ => ?_) (.inr hyl))
      obtain ⟨f0, f1, f2, f3, f4, f5⟩ := I0.fpOk (b := Dn + 1) (H' := upd H3 Dn (.lst vs)) (by rw [hB]; exact hCB) hCn4
      have haC : Dn + 1 ≠ aa := by
        rcases haa with z | z
        · rw [z]; exact f1
        · exact fun e => f4 y aa z e.symm
      refine ⟨m, hn.sameBut sb haC, fun h6 sb6 => ?_⟩
      exact ⟨_, _, I5.turned (t' := s5.toks) (fun b o hb e => (sb6.2 b hb).trans e) f0 f1 f3 f4 f5, k Dn vs _ s4 hD0 upd_same (was.same s34)⟩
  exact codeAny_compStart_list loop (wpAny_pyIter_gen (isGen_at hig fun o z => k4 _ o z) loop)
end FB

/-! ## FBDef8 -/
set_option Elab.async false
set_option linter.all false
set_option maxRecDepth 100000
set_option maxHeartbeats 4000000
/-! are_bits, is_write_form. -/
namespace FB
open PySem PySem.Spec PyProof.Rows L2
theorem walk_zipT {K : PySem.W.Frag} {a b : Addr} {xs ys : List V} {n : Nat} (hn : n = min xs.length ys.length) : Walk (RZ.ItzT K a b) n (fun H => SqT K H a xs ∧ SqT K H b ys) (YPair (fun i => xs[i]?) (fun i => ys[i]?)) := by
  subst hn
  refine ⟨fun i _ hi q => ?_, fun _ q => ⟨xs, ys, q.1, q.2, by omega⟩, fun i H v H' _ q y => ?_⟩
  · have h1 : i < xs.length := by omega
    have h2 : i < ys.length := by omega
    exact ⟨xs, ys, xs[i], ys[i], q.1, q.2, by simp [h1], by simp [h2]⟩
  · obtain ⟨T, x, z, h1, h2, h3, h4, h5⟩ := y
    exact ⟨T, x, z, h1, h2, h3, h4 xs q.1, h5 ys q.2⟩
section
variable {P : Program} {w : World} {K : PySem.W.Frag} {mg : Str → Option Value} {base : Heap}
theorem asc_at : ∀ {bs : List Nat}, asc bs = true → ∀ i, i + 1 < bs.length → bs.getD i 0 < bs.getD (i + 1) 0
  | [], _, i, h => by simp at h
  | [a], _, i, h => by simp at h
  | a :: b :: r, h, i, hi => by
    unfold asc at h
    obtain ⟨h1, h2⟩ := Bool.and_eq_true_iff.mp h
    cases i with
    | zero => exact of_decide_eq_true h1
    | succ i => exact asc_at h2 i (by simpa using hi)
theorem all_true (n : Nat) : ((List.replicate n true).all id) = true := by
  induction n with
  | zero => rfl
  | succ n ih => rw [List.replicate_succ, List.all_cons, ih]; rfl
theorem rep_succ (n : Nat) : (List.replicate (n + 1) true).map V.bl = (List.replicate n true).map V.bl ++ [V.bl true] := by
  rw [List.replicate_succ', List.map_append]
  rfl
/-! ### are_bits: only what is asked of bits -/
def spAreBits : Sp := fun vs H Q _ => ∃ (a : Addr) (bs : List Nat) (m : Nat), vs = [.ref a, .int m] ∧ H a = some (.tup (bs.map natV)) ∧ bs ≠ [] ∧ bs.length ≤ 1000 ∧ (∀ b ∈ bs, b < m) ∧ asc bs = true ∧ ∀ H', Same H H' → Q (.bl true) H'
abbrev nAre : List Str := ["thing", "many", "bit", "a", "b"]
theorem sc_are_bits : FnScope nAre ["thing", "many"] (defScope sAreBits) := ⟨rfl, rfl, rfl, by decide +kernel, rfl, by decide +kernel, by decide +kernel⟩
theorem ok_are_bits (T : Txt K mg) : FnOk P w K mg base CX0 8 (a_are_bits K) (fdA K (a_are_bits K)) ["thing", "many"] spAreBits := by
  refine FunD.ok T.are_bits sc_are_bits (fun vs H Q E h => ?_) (fun cdv A outer s H vs Q E hr h => ?_)
  · obtain ⟨a, bs, m, rfl, _⟩ := h
    rfl
  · obtain ⟨a, bs, m, rfl, ha, hne, hl, hlt, hasc, k⟩ := h
    have nd := sc_are_bits.nd
    have GN := ok_is_number (P := P) (w := w) (base := base) T
    refine ⟨_, PSs.nox (pss_cons (ps_if (PW.pt (pw_or (pt_not (pt_val (pe_callB call_isi (by rfl) T.b_isinstance bt_isinstance (pa_cons (pv 0) (pa_cons (pe_bltn (by rfl) T.b_tuple bt_tuple (v := .ty "tuple") rfl) pa_nil)))))
          (pw_or1 (pt_cmpR (op_eqD hr.units) (pv 0) (pe_tup pa_nil) (nomark _))))) (pss_one (ps_ret pe_bl)) pss_nil)
      (pss_cons (ps_if (pt_not (pt_val (pe_callB (cr_all rfl) (by rfl) T.b_all bt_all (pa_cons (pe_lc (own := [("bit", 2)]) (g := gName 2) rfl nd (pi_tup (pv 0)) (blkOk_by (N := nAre) (sc := defScope sAreBits) (by decide +kernel)) (fun _ _ _ _ _ => pg_name (i := 2) nd rfl (Or.inl rfl)) (fun _ _ _ _ _ => pts_nil)
          (fun _ _ _ _ _ => pe_and (pe_call GN (hr.mono (by decide)) (by rfl) T.g_is_number T.is_number.kp T.n_is_number .nil pass0 (pa_cons (pv 2) pa_nil)) (pe_one (pe_chain op_le op_lt pe_int (pv 2) (pv 1))))) pa_nil)))) (pss_one (ps_ret pe_bl)) pss_nil)
      (pss_one (ps_ret (pe_callB (cr_all rfl) (by rfl) T.b_all bt_all (pa_cons (pe_lc (own := [("a", 3), ("b", 4)]) (g := gTup K 2 (gCons (gName 3) (gCons (gName 4) gNil))) rfl nd (RZ.pi_zipA (by rfl) T.b_zip (pa_cons (pv 0) (pa_cons (pe_slice sl_tup (pv 0) (po_some pe_int) po_none) pa_nil))) (blkOk_by (N := nAre) (sc := defScope sAreBits) (by decide +kernel))
          (fun _ _ _ _ _ => pg_tupK (K := K) rfl rfl (pgs_cons (pg_name (i := 3) nd rfl (Or.inl rfl)) (pgs_cons (pg_name (i := 4) nd rfl (Or.inl rfl)) pgs_nil))) (fun _ _ _ _ _ => pts_nil) (fun _ _ _ _ _ => pe_cmpR op_lt (pv 3) (pv 4) (nomark _))) pa_nil)))))), ?_⟩
    refine ⟨_, rfl, _, _, _, _, true, rfl, .ty "tuple", .base (.tup ha), kit_ty kt_tuple_tuple, true, rfl, iteF ?_⟩
    refine ⟨_, rfl, Nat.zero_le _, fun p0 hp0 => ?_⟩
    have s0 : Same H (upd H p0 (.tup [])) := (Same.refl H).upd hp0
    refine ⟨.tuple (bs.map intD), .tuple [], .tup (SqT.of (s0 _ _ ha)) (dpAll_ints _), .tup (SqT.of upd_same) .nil, (shaped_ints _).1, (shaped_ints []).1, _, rfl, ?_⟩
    rw [show PyData.eqv (.tuple (bs.map intD)) (.tuple []) = false from by
      cases bs with
      | nil => exact absurd rfl hne
      | cons b r => rfl]
    refine iteF ?_
    have ha0 := s0 _ _ ha
    refine ⟨_, rfl, a, rfl, ⟨_, SqT.of ha0⟩, fun D hD => ?_⟩
    refine lc_it (walk_tup (K := K) (a := a) (xs := bs.map natV)) (fun i H' => Same (upd H p0 (.tup [])) H' ∧ H' D = some (.lst ((List.replicate i true).map V.bl))) ⟨(Same.refl _).upd hD, upd_same⟩ (fun i H' _ h => SqT.of (h.1 _ _ ha0)) ?_ ?_
    · rintro i z H2 H3 hi ⟨s2, h1⟩ ⟨rfl, hz⟩
      obtain ⟨b, hb, rfl⟩ := get_nat hz
      have hbm := hlt b (List.mem_of_getElem? hb)
      rw [List.length_map] at hi
      refine ⟨rfl, _, rfl, _, rfl, true, rfl, iteT ?_⟩
      refine ⟨_, rfl, 0, b, rfl, rfl, _, rfl, ?_⟩
      rw [show decide ((0 : Int) ≤ (b : Int)) = true from decide_eq_true (by omega)]
      refine iteT ⟨_, rfl, b, m, rfl, rfl, ?_⟩
      dsimp only
      rw [show decide ((b : Int) < (m : Int)) = true from decide_eq_true (by omega)]
      refine ⟨_, h1, ?_, s2.updN hD, ?_⟩
      · rw [List.length_map, List.length_replicate]
        exact small1000 (by omega)
      · rw [upd_same, rep_succ]
    · rintro H2 ⟨s2, h1⟩
      refine ⟨D, _, rfl, SqL.of h1, _, rfl, ?_⟩
      rw [all_true]
      refine iteF ?_
      have ha2 := s2 _ _ ha0
      refine ⟨_, rfl, _, rfl, 1, rfl, a, _, rfl, SqT.of ha2, ?_, fun p hp => ?_⟩
      · rintro ⟨h1, _⟩
        cases bs with
        | nil => exact hne rfl
        | cons b r =>
          have h2 : min 1 (r.length + 1) = 0 := by
            rw [show ((1 : Int)) = ((1 : Nat) : Int) from rfl, HT.sIx_nat] at h1
            simpa using h1
          omega
      have ec : cutV (bs.map natV) (some 1) none = (bs.drop 1).map natV := by
        unfold cutV
        rw [HT.sIx_none, show (some (1 : Int)) = some ((1 : Nat) : Int) from rfl, HT.sIx_nat]
        have hl1 : min 1 (bs.map natV).length = 1 := by
          cases bs with
          | nil => exact absurd rfl hne
          | cons b r => simp
        rw [hl1, List.map_drop, List.take_of_length_le]
        rw [List.length_drop]
        exact Nat.le_refl _
      rw [ec]
      have s3 : Same H2 (upd H2 p (.tup ((bs.drop 1).map natV))) := (Same.refl H2).upd hp
      refine ⟨a, p, _, _, rfl, .inr ⟨SqT.of (s3 _ _ ha2), SqT.of upd_same, fun D2 hD2 => ?_⟩⟩
      have hpD2 : p ≠ D2 := fun e => by rw [← e, upd_same] at hD2; cases hD2
      refine lc_it (walk_zipT (K := K) (a := a) (b := p) (xs := bs.map natV) (ys := (bs.drop 1).map natV) rfl) (fun i H' => Same (upd H2 p (.tup ((bs.drop 1).map natV))) H' ∧ H' D2 = some (.lst ((List.replicate i true).map V.bl))) ⟨(Same.refl _).upd hD2, upd_same⟩ (fun i H' _ h => ⟨SqT.of (h.1 _ _ (s3 _ _ ha2)), SqT.of (h.1 _ _ upd_same)⟩) ?_ ?_
      · rintro i z H3 H4 hi ⟨s4, h2⟩ ⟨Tp, x1, y1, rfl, hT, rfl, e1, e2⟩
        rw [List.length_map, List.length_map, List.length_drop] at hi
        have e1' : (bs.map natV)[i]? = some x1 := e1
        have e2' : ((bs.drop 1).map natV)[i]? = some y1 := e2
        obtain ⟨b1, hb1, rfl⟩ := get_nat e1'
        obtain ⟨b2, hb2, rfl⟩ := get_nat e2'
        have hlt2 : b1 < b2 := by
          have q := asc_at hasc i (by omega)
          rw [List.getElem?_drop, Nat.add_comm] at hb2
          rw [List.getD_eq_getElem?_getD, hb1, List.getD_eq_getElem?_getD, hb2] at q
          exact q
        have hTD : D2 ≠ Tp := ne_of_none h2 hT
        have s5 := s4.upd (o := .tup [natV b1, natV b2]) hT
        refine ⟨Tp, _, rfl, SqT.of upd_same, rfl, _, _, rfl, _, _, rfl, rfl, rfl, ?_⟩
        refine ⟨_, rfl, _, rfl, b1, b2, rfl, rfl, ?_⟩
        dsimp only
        rw [show decide ((b1 : Int) < (b2 : Int)) = true from decide_eq_true (by omega)]
        refine ⟨_, by rw [upd_ne hTD]; exact h2, ?_, s5.updN hD2, ?_⟩
        · rw [List.length_map, List.length_replicate]
          exact small1000 (by omega)
        · rw [upd_same, rep_succ]
      · rintro H3 ⟨s4, h2⟩
        refine ⟨D2, _, rfl, SqL.of h2, ?_⟩
        rw [all_true]
        exact k H3 (((s0.trans s2).trans s3).trans s4)
end
end FB

/-! ## FBDef9 -/
set_option Elab.async false
set_option linter.all false
set_option maxRecDepth 100000
set_option maxHeartbeats 4000000
/-! is_write_form, is_write, end, write_box. -/
namespace FB
open PySem PySem.Spec PyProof.Rows L2
theorem flat_nat : ∀ xs : List Nat, (xs.map natV).all flatV = true
  | [] => rfl
  | x :: xs => by
    rw [List.map_cons, List.all_cons, flat_nat xs]
    rfl
theorem inV_nat (b : Nat) : ∀ xs : List Nat, inV (natV b) (xs.map natV) = xs.contains b
  | [] => rfl
  | x :: xs => by
    show (((x : Int) == (b : Int)) || inV (natV b) (xs.map natV)) = _
    rw [inV_nat b xs, List.contains_cons]
    congr 1
    by_cases h : x = b
    · subst h
      simp
    · rw [beq_eq_false_iff_ne.mpr (show (x : Int) ≠ (b : Int) by omega), beq_eq_false_iff_ne.mpr (show b ≠ x from fun q => h q.symm)]
theorem ne_kind : decide (V.str "fall" = V.str "erase") = false := decide_eq_false fun h => by
  injection h with h
  exact absurd h (by decide +kernel)
/-- a write of few bits -/
def Small (w : Wr) : Prop := ∀ bs, w = .fall bs → bs.length ≤ 1000
theorem WrA.at {H : Hp} {v : V} {w : Wr} (h : WrA H v w) : ∃ (T : Addr) (k : Str) (u : V), v = .ref T ∧ H T = some (.tup [.str k, u]) := by
  cases w with
  | fall bs => obtain ⟨T, T2, e, h1, _⟩ := h; exact ⟨T, _, _, e, h1⟩
  | erase b => obtain ⟨T, e, h1⟩ := h; exact ⟨T, _, _, e, h1⟩
section
variable {P : Program} {w : World} {K : PySem.W.Frag} {mg : Str → Option Value} {base : Heap}
/-! ### is_write_form -/
def spForm : Sp := fun vs H Q _ => ∃ (v : V) (wr : Wr) (a : Addr) (x : Str), vs = [v, .ref a] ∧ WrA H v wr ∧ H a = some (.tup (sizesV x)) ∧ formM x wr = true ∧ Small wr ∧ ∀ H', Same H H' → Q (.bl true) H'
theorem sc_form : FnScope ["thing", "sizes"] ["thing", "sizes"] (defScope sIsWriteForm) := ⟨rfl, rfl, rfl, by decide +kernel, rfl, by decide +kernel, by decide +kernel⟩
theorem ok_form (T : Txt K mg) : FnOk P w K mg base CX0 10 (a_is_write_form K) (fdA K (a_is_write_form K)) ["thing", "sizes"] spForm := by
  refine FunD.ok T.is_write_form sc_form (fun vs H Q E h => ?_) (fun cdv A outer s H vs Q E hr h => ?_)
  · obtain ⟨v, wr, a, x, rfl, _⟩ := h
    rfl
  · obtain ⟨v, wr, a, x, rfl, hw, ha, hf, hsm, k⟩ := h
    have GN := ok_is_number (P := P) (w := w) (base := base) T
    have GA := ok_are_bits (P := P) (w := w) (base := base) T
    refine ⟨_, PSs.nox (pss_cons (ps_if (PW.pt (pw_or (pt_not (pt_val (pe_callB call_isi (by rfl) T.b_isinstance bt_isinstance (pa_cons (pv 0) (pa_cons (pe_bltn (by rfl) T.b_tuple bt_tuple (v := .ty "tuple") rfl) pa_nil)))))
          (pw_or (pt_cmpR op_ne (pe_callB call_len (by rfl) T.b_len bt_len (pa_cons (pv 0) pa_nil)) pe_int (nomark _))
          (pw_or1 (pt_not (pt_val (pe_callB call_isi (by rfl) T.b_isinstance bt_isinstance (pa_cons (pe_ix ix_tup (pv 0) pe_int (fun _ _ => rfl)) (pa_cons (pe_bltn (by rfl) T.b_str bt_str (v := .ty "str") rfl) pa_nil))))))))) (pss_one (ps_ret pe_bl)) pss_nil)
      (pss_cons (ps_if (pt_cmpR op_eq (pe_ix ix_tup (pv 0) pe_int (fun _ _ => rfl)) pe_str (nomark _))
        (pss_one (ps_ret (pe_and (pe_call GN (hr.mono (by decide)) (by rfl) T.g_is_number T.is_number.kp T.n_is_number .nil pass0 (pa_cons (pe_ix ix_tup (pv 0) pe_int (fun _ _ => rfl)) pa_nil)) (pe_one (pe_chain op_le op_lt pe_int (pe_ix ix_tup (pv 0) pe_int (fun _ _ => rfl)) (pe_callB call_len (by rfl) T.b_len bt_len (pa_cons (pv 1) pa_nil))))))) pss_nil)
      (pss_one (ps_ret (pe_and (pe_cmpR op_eq (pe_ix ix_tup (pv 0) pe_int (fun _ _ => rfl)) pe_str (nomark _)) (pe_one (pe_call GA (hr.mono (by decide)) (by rfl) T.g_are_bits T.are_bits.kp T.n_are_bits .nil pass0 (pa_cons (pe_ix ix_tup (pv 0) pe_int (fun _ _ => rfl)) (pa_cons (pe_callB (cr_sumT rfl) (by rfl) T.b_sum bt_sum (pa_cons (pv 1) pa_nil)) pa_nil))))))))), ?_⟩
    obtain ⟨Tt, kd, u, rfl, hT⟩ := hw.at
    refine ⟨_, rfl, _, _, _, _, true, rfl, .ty "tuple", .base (.tup hT), kit_ty kt_tuple_tuple, true, rfl, iteF ?_⟩
    refine ⟨_, rfl, _, 2, rfl, .inr ⟨_, SqT.of hT, rfl⟩, rfl, _, rfl, iteF ?_⟩
    refine ⟨_, rfl, Tt, _, 0, .str kd, rfl, rfl, SqT.of hT, atI_nat (j := 0) rfl, _, _, _, _, true, rfl, .ty "str", .base (.str kd), kit_ty kt_str_str, true, rfl, iteF ?_⟩
    cases wr with
    | erase b =>
      obtain ⟨T1, e1, h1⟩ := hw
      cases e1
      rw [h1] at hT
      cases hT
      refine ⟨_, rfl, Tt, _, 0, .str "erase", rfl, rfl, SqT.of h1, atI_nat (j := 0) rfl, rfl, _, rfl, ?_⟩
      rw [decide_eq_true (show V.str "erase" = V.str "erase" from rfl)]
      refine iteT ⟨_, rfl, Tt, _, 1, .int (b : Int), rfl, rfl, SqT.of h1, atI_nat (j := 1) rfl, _, rfl, true, rfl, iteT ?_⟩
      have hb : b < (sizesM x).length := of_decide_eq_true hf
      refine ⟨_, rfl, Tt, _, 1, .int (b : Int), rfl, rfl, SqT.of h1, atI_nat (j := 1) rfl, 0, b, rfl, rfl, _, rfl, ?_⟩
      rw [show decide ((0 : Int) ≤ (b : Int)) = true from decide_eq_true (by omega)]
      have hl : (sizesV x).length = (sizesM x).length := by unfold sizesV; rw [List.length_map]
      refine iteT ⟨_, rfl, _, (sizesM x).length, rfl, .inr ⟨_, SqT.of ha, hl.symm⟩, b, _, rfl, rfl, ?_⟩
      dsimp only
      rw [show decide ((b : Int) < ((sizesM x).length : Int)) = true from decide_eq_true (by omega)]
      exact k H (Same.refl H)
    | fall bs =>
      obtain ⟨T1, T2, e1, h1, h2⟩ := hw
      cases e1
      rw [h1] at hT
      cases hT
      refine ⟨_, rfl, Tt, _, 0, .str "fall", rfl, rfl, SqT.of h1, atI_nat (j := 0) rfl, rfl, _, rfl, ?_⟩
      rw [ne_kind]
      refine iteF ⟨_, rfl, Tt, _, 0, .str "fall", rfl, rfl, SqT.of h1, atI_nat (j := 0) rfl, rfl, _, rfl, ?_⟩
      rw [decide_eq_true (show V.str "fall" = V.str "fall" from rfl)]
      have hf2 : ((!bs.isEmpty && bs.all (fun b => b < (sizesM x).sum)) && asc bs) = true := hf
      obtain ⟨hf3, hasc⟩ := Bool.and_eq_true_iff.mp hf2
      obtain ⟨hne, hall⟩ := Bool.and_eq_true_iff.mp hf3
      refine iteT ⟨_, rfl, Tt, _, 1, .ref T2, rfl, rfl, SqT.of h1, atI_nat (j := 1) rfl, _, rfl, a, (sizesM x).map fun n : Nat => (n : Int), rfl, by unfold sizesV at ha; rw [natV_int] at ha; exact SqT.of ha, ?_⟩
      rw [sum_cast]
      refine ⟨T2, bs, (sizesM x).sum, rfl, h2, fun e => ?_, hsm bs rfl, fun b hb => ?_, hasc, k⟩
      · rw [e] at hne
        exact absurd hne (by decide)
      · exact of_decide_eq_true (List.all_eq_true.mp hall b hb)
end
end FB

/-! ## FBDef10 -/
set_option Elab.async false
set_option linter.all false
set_option maxRecDepth 100000
set_option maxHeartbeats 4000000
/-! is_write, end, write_box. -/
namespace FB
open PySem PySem.Spec PyProof.Rows L2
section
variable {P : Program} {w : World} {K : PySem.W.Frag} {mg : Str → Option Value} {base : Heap}
theorem writeM_form {x : Str} {wr : Wr} (h : writeM x wr = true) : formM x wr = true := by
  cases wr with
  | fall bs => exact (Bool.and_eq_true_iff.mp h).1
  | erase b => exact (Bool.and_eq_true_iff.mp h).1
/-! ### is_write -/
def spIsWrite : Sp := fun vs H Q _ => ∃ (v : V) (wr : Wr) (x : Str), vs = [.str x, v] ∧ WrA H v wr ∧ Fit x ∧ writeM x wr = true ∧ Small wr ∧ ∀ H', Same H H' → Q (.bl true) H'
abbrev nIsW : List Str := ["x", "thing", "standing", "bit"]
theorem sc_is_write : FnScope nIsW ["x", "thing"] (defScope sIsWrite) := ⟨rfl, rfl, rfl, by decide +kernel, rfl, by decide +kernel, by decide +kernel⟩
theorem ok_is_write (T : Txt K mg) : FnOk P w K mg base CX0 12 (a_is_write K) (fdA K (a_is_write K)) ["x", "thing"] spIsWrite := by
  refine FunD.ok T.is_write sc_is_write (fun vs H Q E h => ?_) (fun cdv A outer s H vs Q E hr h => ?_)
  · obtain ⟨v, wr, x, rfl, _⟩ := h
    rfl
  · obtain ⟨v, wr, x, rfl, hw, fx, hwm, hsm, k⟩ := h
    have nd := sc_is_write.nd
    have GP := ok_need_pattern (P := P) (w := w) (base := base) T
    have GF := ok_form (P := P) (w := w) (base := base) T
    have GS := ok_sizes_of (P := P) (w := w) (base := base) T
    have GB := ok_fallen (P := P) (w := w) (base := base) T
    have GT := ok_standing (P := P) (w := w) (base := base) T
    refine ⟨_, PSs.nox (pss_cons (ps_expr (pe_call GP (hr.mono (by decide)) (by rfl) T.g_need_pattern T.need_pattern.kp T.n_need_pattern .nil pass0 (pa_cons (pv 0) pa_nil)))
      (pss_cons (ps_if (pt_not (pt_val (pe_call GF (hr.mono (by decide)) (by rfl) T.g_is_write_form T.is_write_form.kp T.n_is_write_form .nil pass0 (pa_cons (pv 1) (pa_cons (pe_call GS (hr.mono (by decide)) (by rfl) T.g_sizes_of T.sizes_of.kp T.n_sizes_of .nil pass0 (pa_cons (pv 0) pa_nil)) pa_nil))))) (pss_one (ps_ret pe_bl)) pss_nil)
      (pss_cons (ps_if (pt_cmpR op_eq (pe_ix ix_tup (pv 1) pe_int (fun _ _ => rfl)) pe_str (nomark _)) (pss_one (ps_ret (pe_cmpR op_in_seq (pe_ix ix_tup (pv 1) pe_int (fun _ _ => rfl)) (pe_call GB (hr.mono (by decide)) (by rfl) T.g_fallen_blocks T.fallen_blocks.kp T.n_fallen_blocks .nil pass0 (pa_cons (pv 0) pa_nil)) (by rfl)))) pss_nil)
      (pss_cons (ps_set (i := 2) nd rfl (.inr rfl) (pe_call GT (hr.mono (by decide)) (by rfl) T.g_standing_bits T.standing_bits.kp T.n_standing_bits .nil pass0 (pa_cons (pv 0) pa_nil)))
      (pss_one (ps_ret (pe_callB (cr_all rfl) (by rfl) T.b_all bt_all (pa_cons (pe_lc (own := [("bit", 3)]) (g := gName 3) rfl nd (pi_tup (pe_ix ix_tup (pv 1) pe_int (fun _ _ => rfl))) (blkOk_by (N := nIsW) (sc := defScope sIsWrite) (by decide +kernel)) (fun _ _ _ _ _ => pg_name (i := 3) nd rfl (Or.inl rfl)) (fun _ _ _ _ _ => pts_nil)
          (fun _ _ _ _ _ => pe_cmpR (op_in_seqK (K := K) rfl) (pv 3) (pv 2) (by rfl))) pa_nil)))))))), ?_⟩
    refine ⟨_, rfl, x, rfl, fx.ok, fun H1 s1 => ?_⟩
    refine ⟨_, rfl, _, rfl, x, rfl, fx.len, fx.many, fx.each, fun H2 p s2 hp0 hp => ?_⟩
    have hw2 := hw.same (s1.trans s2)
    refine ⟨v, wr, p, x, rfl, hw2, hp, writeM_form hwm, hsm, fun H3 s3 => ⟨_, rfl, iteF ?_⟩⟩
    have s13 := (s1.trans s2).trans s3
    have hw3 := hw.same s13
    cases wr with
    | erase b =>
      obtain ⟨T1, rfl, h1⟩ := hw3
      refine ⟨_, rfl, T1, _, 0, .str "erase", rfl, rfl, SqT.of h1, atI_nat (j := 0) rfl, rfl, _, rfl, ?_⟩
      rw [decide_eq_true (show V.str "erase" = V.str "erase" from rfl)]
      refine iteT ⟨_, rfl, T1, _, 1, .int (b : Int), rfl, rfl, SqT.of h1, atI_nat (j := 1) rfl, _, rfl, x, rfl, fx.len, fx.many, fun H4 q s4 hq0 hq => ?_⟩
      refine ⟨q, _, rfl, .inl (SqL.of hq), rfl, flat_nat _, ?_⟩
      rw [if_neg Bool.false_ne_true]
      have e : inV (natV b) ((fallenM x).map natV) = true := by
        rw [inV_nat]
        exact (Bool.and_eq_true_iff.mp hwm).2
      show Q (.bl (inV (natV b) ((fallenM x).map natV))) H4
      rw [e]
      exact k H4 (s13.trans s4)
    | fall bs =>
      obtain ⟨T1, T2, rfl, h1, h2⟩ := hw3
      refine ⟨_, rfl, T1, _, 0, .str "fall", rfl, rfl, SqT.of h1, atI_nat (j := 0) rfl, rfl, _, rfl, ?_⟩
      rw [ne_kind]
      refine iteF ⟨_, rfl, x, rfl, fx.len, fun H4 q s4 hq0 hq => ?_⟩
      have h1' := s4 _ _ h1
      have h2' := s4 _ _ h2
      refine ⟨_, rfl, T1, _, 1, .ref T2, rfl, rfl, SqT.of h1', atI_nat (j := 1) rfl, T2, rfl, ⟨_, SqT.of h2'⟩, fun D hD => ?_⟩
      have hall := (Bool.and_eq_true_iff.mp hwm).2
      have hbl := hsm bs rfl
      refine lc_it (walk_tup (K := K) (a := T2) (xs := bs.map natV)) (fun i H' => Same H4 H' ∧ H' D = some (.lst ((List.replicate i true).map V.bl))) ⟨(Same.refl _).upd hD, upd_same⟩ (fun i H' _ h => SqT.of (h.1 _ _ h2')) ?_ ?_
      · rintro i z H5 H6 hi ⟨s5, h5⟩ ⟨rfl, hz⟩
        obtain ⟨b, hb, rfl⟩ := get_nat hz
        rw [List.length_map] at hi
        refine ⟨rfl, _, rfl, _, rfl, q, _, rfl, .inl (SqL.of (s5 _ _ hq)), rfl, flat_nat _, _, h5, ?_, s5.updN hD, ?_⟩
        · rw [List.length_map, List.length_replicate]
          exact small1000 (by omega)
        · have e : inV (natV b) ((standingM x).map natV) = true := by
            rw [inV_nat]
            exact List.all_eq_true.mp hall b (List.mem_of_getElem? hb)
          rw [upd_same, rep_succ, if_neg Bool.false_ne_true, e]
      · rintro H5 ⟨s5, h5⟩
        refine ⟨D, _, rfl, SqL.of h5, ?_⟩
        rw [all_true]
        exact k H5 ((s13.trans s4).trans s5)
/-! ### end -/
/-- what a write needs for its end -/
structure WFit (x : Str) (wr : Wr) : Prop where
  ok : writeM x wr = true
  small : Small wr
  fall : ∀ bs, wr = .fall bs → ∀ b ∈ bs, b < (placesM x).length
  era : ∀ b, wr = .erase b → firstM x b + (sizesM x).getD b 0 ≤ (placesM x).length
def spEnd : Sp := fun vs H Q _ => ∃ (v : V) (wr : Wr) (x : Str), vs = [.str x, v] ∧ WrA H v wr ∧ Fit x ∧ WFit x wr ∧ ∀ H', Same H H' → Q (.str (endM x wr)) H'
theorem sc_end : FnScope ["x", "write"] ["x", "write"] (defScope sEnd) := ⟨rfl, rfl, rfl, by decide +kernel, rfl, by decide +kernel, by decide +kernel⟩
theorem ok_end (T : Txt K mg) : FnOk P w K mg base CX0 14 (a_end K) (fdA K (a_end K)) ["x", "write"] spEnd := by
  refine FunD.ok T.end sc_end (fun vs H Q E h => ?_) (fun cdv A outer s H vs Q E hr h => ?_)
  · obtain ⟨v, wr, x, rfl, _⟩ := h
    rfl
  · obtain ⟨v, wr, x, rfl, hw, fx, wf, k⟩ := h
    have GW := ok_is_write (P := P) (w := w) (base := base) T
    have GB := ok_bits_of_block (P := P) (w := w) (base := base) T
    have GI := ok_with_bits (P := P) (w := w) (base := base) T
    refine ⟨_, PSs.nox (pss_cons (ps_if (pt_not (pt_val (pe_call GW (hr.mono (by decide)) (by rfl) T.g_is_write T.is_write.kp T.n_is_write .nil pass0 (pa_cons (pv 0) (pa_cons (pv 1) pa_nil))))) pss_never pss_nil)
      (pss_cons (ps_if (pt_cmpR op_eq (pe_ix ix_tup (pv 1) pe_int (fun _ _ => rfl)) pe_str (nomark _))
        (pss_one (ps_ret (pe_call GI (hr.mono (by decide)) (by rfl) T.g_with_bits T.with_bits.kp T.n_with_bits .nil pass0 (pa_cons (pv 0) (pa_cons (pe_call GB (hr.mono (by decide)) (by rfl) T.g_bits_of_block T.bits_of_block.kp T.n_bits_of_block .nil pass0 (pa_cons (pv 0) (pa_cons (pe_ix ix_tup (pv 1) pe_int (fun _ _ => rfl)) pa_nil))) (pa_cons pe_str pa_nil)))))) pss_nil)
      (pss_one (ps_ret (pe_call GI (hr.mono (by decide)) (by rfl) T.g_with_bits T.with_bits.kp T.n_with_bits .nil pass0 (pa_cons (pv 0) (pa_cons (pe_ix ix_tup (pv 1) pe_int (fun _ _ => rfl)) (pa_cons pe_str pa_nil)))))))), ?_⟩
    refine ⟨_, rfl, _, rfl, v, wr, x, rfl, hw, fx, wf.ok, wf.small, fun H1 s1 => ⟨_, rfl, iteF ?_⟩⟩
    have hw1 := hw.same s1
    cases wr with
    | erase b =>
      obtain ⟨T1, rfl, h1⟩ := hw1
      refine ⟨_, rfl, T1, _, 0, .str "erase", rfl, rfl, SqT.of h1, atI_nat (j := 0) rfl, rfl, _, rfl, ?_⟩
      rw [decide_eq_true (show V.str "erase" = V.str "erase" from rfl)]
      have hb : b < (sizesM x).length := of_decide_eq_true (writeM_form wf.ok)
      have hfb := wf.era b rfl
      have hpl := placesM_len x
      have hlx := fx.len
      refine iteT ⟨_, rfl, _, rfl, _, rfl, T1, _, 1, .int (b : Int), rfl, rfl, SqT.of h1, atI_nat (j := 1) rfl, x, b, rfl, fx, hb, by omega, fun H2 p s2 hp0 hp => ?_⟩
      refine ⟨x, "1", p, blockBitsM x b, rfl, .inr hp, fx.len, fun c hc => ?_, Nat.le_refl _, fun H3 s3 => k H3 ((s1.trans s2).trans s3)⟩
      unfold blockBitsM at hc
      obtain ⟨j, hj, rfl⟩ := List.mem_map.mp hc
      have := List.mem_range.mp hj
      omega
    | fall bs =>
      obtain ⟨T1, T2, rfl, h1, h2⟩ := hw1
      refine ⟨_, rfl, T1, _, 0, .str "fall", rfl, rfl, SqT.of h1, atI_nat (j := 0) rfl, rfl, _, rfl, ?_⟩
      rw [ne_kind]
      refine iteF ⟨_, rfl, _, rfl, T1, _, 1, .ref T2, rfl, rfl, SqT.of h1, atI_nat (j := 1) rfl, ?_⟩
      exact ⟨x, "0", T2, bs, rfl, .inl h2, fx.len, wf.fall bs rfl, Nat.le_refl _, fun H3 s3 => k H3 (s1.trans s3)⟩
/-! ### write_box -/
def spWBox : Sp := fun vs H Q _ => ∃ (v : V) (wr : Wr) (x : Str), vs = [.str x, v] ∧ WrA H v wr ∧ Fit x ∧ WFit x wr ∧ Fit (endM x wr) ∧ sizesM x = sizesM (endM x wr) ∧ sz x ≤ 10 ∧ changedM x (endM x wr) ≤ 10 ∧
  ∀ H' p, Same H H' → H p = none → H' p = some (.lst ((boxM x (endM x wr)).map V.str)) → Q (.ref p) H'
theorem sc_write_box : FnScope ["x", "write"] ["x", "write"] (defScope sWriteBox) := ⟨rfl, rfl, rfl, by decide +kernel, rfl, by decide +kernel, by decide +kernel⟩
theorem ok_write_box (T : Txt K mg) : FnOk P w K mg base CX0 16 (a_write_box K) (fdA K (a_write_box K)) ["x", "write"] spWBox := by
  refine FunD.ok T.write_box sc_write_box (fun vs H Q E h => ?_) (fun cdv A outer s H vs Q E hr h => ?_)
  · obtain ⟨v, wr, x, rfl, _⟩ := h
    rfl
  · obtain ⟨v, wr, x, rfl, hw, fx, wf, fe, es, h10, hch, k⟩ := h
    have GE := ok_end (P := P) (w := w) (base := base) T
    have GB := ok_box (P := P) (w := w) (base := base) T
    refine ⟨_, PSs.nox (pss_one (ps_ret (pe_call GB (hr.mono (by decide)) (by rfl) T.g_box T.box.kp T.n_box .nil pass0 (pa_cons (pv 0) (pa_cons (pe_call GE (hr.mono (by decide)) (by rfl) T.g_end T.end.kp T.n_end .nil pass0 (pa_cons (pv 0) (pa_cons (pv 1) pa_nil))) pa_nil))))), ?_⟩
    refine ⟨_, rfl, _, rfl, _, rfl, v, wr, x, rfl, hw, fx, wf, fun H1 s1 => ?_⟩
    exact ⟨x, endM x wr, rfl, fx, fe, es, h10, hch, fun H2 p s2 hp0 hp => k H2 p (s1.trans s2) (s1.free hp0) hp⟩
end
end FB

/-! ## FBDef11 -/
set_option Elab.async false
set_option linter.all false
set_option maxRecDepth 100000
set_option maxHeartbeats 4000000
/-! single_writes. -/
namespace FB
open PySem PySem.Spec PyProof.Rows L2
theorem WsA.snoc {H : Hp} {vs : List V} {ws : List Wr} {v : V} {w : Wr} (x : WsA H vs ws) (y : WrA H v w) : WsA H (vs ++ [v]) (ws ++ [w]) := by
  induction x with
  | nil => exact .cons y .nil
  | cons a _ ih => exact .cons a ih
theorem WsA.append {H : Hp} {vs vs' : List V} {ws ws' : List Wr} (x : WsA H vs ws) (y : WsA H vs' ws') : WsA H (vs ++ vs') (ws ++ ws') := by
  induction x with
  | nil => exact y
  | cons a _ ih => exact .cons a ih
theorem WrA.but {H H' : Hp} {D : Addr} {l : List V} {o : HO} {v : V} {wr : Wr} (h : WrA H v wr) (hD : H D = some (.lst l)) (s : Same H H') : WrA (upd H' D o) v wr := by
  have ne : ∀ {T : Addr} {ys : List V}, H T = some (.tup ys) → T ≠ D := fun {T ys} e q => by
    rw [q, hD] at e
    cases e
  cases wr with
  | fall bs =>
    obtain ⟨T, T2, e, e1, e2⟩ := h
    exact ⟨T, T2, e, by rw [upd_ne (ne e1)]; exact s _ _ e1, by rw [upd_ne (ne e2)]; exact s _ _ e2⟩
  | erase c =>
    obtain ⟨T, e, e1⟩ := h
    exact ⟨T, e, by rw [upd_ne (ne e1)]; exact s _ _ e1⟩
theorem WsA.but {H H' : Hp} {D : Addr} {l : List V} {o : HO} {vs : List V} {ws : List Wr} (h : WsA H vs ws) (hD : H D = some (.lst l)) (s : Same H H') : WsA (upd H' D o) vs ws := by
  induction h with
  | nil => exact .nil
  | cons a _ ih => exact .cons (a.but hD s) ih
section
variable {P : Program} {w : World} {K : PySem.W.Frag} {mg : Str → Option Value} {base : Heap}
def spSingle : Sp := fun vs H Q _ => ∃ x : Str, vs = [.str x, .bl true] ∧ Fit x ∧ ∀ H' p vs', Same H H' → H p = none → H' p = some (.lst vs') → WsA H' vs' (singleM x) → Q (.ref p) H'
abbrev nSin : List Str := ["x", "erases", "falls", "bit", "block"]
theorem sc_single : FnScope nSin ["x", "erases"] (defScope sSingle) := ⟨rfl, rfl, rfl, by decide +kernel, rfl, by decide +kernel, by decide +kernel⟩
theorem standing_len (x : Str) : (standingM x).length ≤ sz x := by
  unfold standingM
  have h1 := List.length_filter_le (fun k => decide (cd x ((placesM x).getD k 0) = 49)) (List.range (placesM x).length)
  rw [List.length_range] at h1
  exact Nat.le_trans h1 (placesM_len x)
theorem fallen_len (x : Str) : (fallenM x).length ≤ (blocksOf x).length := by
  unfold fallenM
  have h1 := List.length_filter_le (fun b => decide (48 ∈ codes ((blocksOf x).getD b ""))) (List.range (blocksOf x).length)
  rw [List.length_range] at h1
  exact h1
theorem ok_single (T : Txt K mg) : FnOk P w K mg base CX0 9 (a_single_writes K) (fdA K (a_single_writes K)) ["x", "erases"] spSingle := by
  refine FunD.ok T.single_writes sc_single (fun vs H Q E h => ?_) (fun cdv A outer s H vs Q E hr h => ?_)
  · obtain ⟨x, rfl, _⟩ := h
    rfl
  · obtain ⟨x, rfl, fx, k⟩ := h
    have nd := sc_single.nd
    have GP := ok_need_pattern (P := P) (w := w) (base := base) T
    have GB := ok_fallen (P := P) (w := w) (base := base) T
    have GT := ok_standing (P := P) (w := w) (base := base) T
    refine ⟨_, PSs.nox (pss_cons (ps_expr (pe_call GP (hr.mono (by decide)) (by rfl) T.g_need_pattern T.need_pattern.kp T.n_need_pattern .nil pass0 (pa_cons (pv 0) pa_nil)))
      (pss_cons (ps_setLc (i := 2) (own := [("bit", 3)]) (g := gName 3) rfl nd rfl rfl (sw_true rfl rfl rfl rfl) (pi_list (pe_call GT (hr.mono (by decide)) (by rfl) T.g_standing_bits T.standing_bits.kp T.n_standing_bits .nil pass0 (pa_cons (pv 0) pa_nil))) (blkOk_by (N := nSin) (sc := defScope sSingle) (by decide +kernel)) (fun _ _ _ _ _ => pg_name (i := 3) nd rfl (Or.inl rfl)) (fun _ _ _ _ _ => pts_nil)
          (fun _ _ _ _ _ => pe_tup (pa_cons pe_str (pa_cons (pe_tup (pa_cons (pv 3) pa_nil)) pa_nil))))
      (pss_one (ps_ret (pe_op op_cat (pv 2) (pe_lc (own := [("block", 4)]) (g := gName 4) rfl nd (pi_list (pe_call GB (hr.mono (by decide)) (by rfl) T.g_fallen_blocks T.fallen_blocks.kp T.n_fallen_blocks .nil pass0 (pa_cons (pv 0) pa_nil))) (blkOk_by (N := nSin) (sc := defScope sSingle) (by decide +kernel)) (fun _ _ _ _ _ => pg_name (i := 4) nd rfl (Or.inl rfl)) (fun _ _ _ _ _ => pts_one (pt_val (pv 1)))
          (fun _ _ _ _ _ => pe_tup (pa_cons pe_str (pa_cons (pv 4) pa_nil))))))))), ?_⟩
    have hsl := standing_len x
    have hfl := fallen_len x
    have hx := fx.len
    have hm := fx.many
    refine ⟨_, rfl, x, rfl, fx.ok, fun H1 s1 => ?_⟩
    refine ⟨_, rfl, x, rfl, fx.len, fun H2 p s2 hp0 hp => ⟨p, rfl, ⟨_, SqL.of hp⟩, fun D hD => ?_⟩⟩
    have s12 := s1.trans s2
    refine lc_list (K := K) (a := p) (xs := (standingM x).map natV) (fun i H' => Same H2 H' ∧ ∃ vs, H' D = some (.lst vs) ∧ WsA H' vs (((standingM x).take i).map fun b => Wr.fall [b]))
      ⟨(Same.refl _).upd hD, [], upd_same, .nil⟩ (fun i H' _ h => SqL.of (h.1 _ _ hp)) ?_ ?_
    · rintro i z H3 hi ⟨s3, vs, h3, was⟩
      obtain ⟨b, hb, rfl⟩ := get_nat hi
      have hil : i < (standingM x).length := (List.getElem?_eq_some_iff.mp hb).1
      refine ⟨rfl, _, rfl, by show 1 ≤ sizeLine; decide, fun p1 hp1 => ⟨by show 2 ≤ sizeLine; decide, fun p2 hp2 => ?_⟩⟩
      have hDp1 : D ≠ p1 := ne_of_none h3 hp1
      have hDp2 : D ≠ p2 := ne_of_none (by rw [upd_ne hDp1]; exact h3) hp2
      have hp12 : p1 ≠ p2 := ne_of_none upd_same hp2
      have s4 : Same H3 (upd (upd H3 p1 (.tup [natV b])) p2 (.tup [.str "fall", .ref p1])) := ((Same.refl H3).upd hp1).upd hp2
      have hvl := was.length
      rw [List.length_map, List.length_take] at hvl
      refine ⟨vs, by rw [upd_ne hDp2, upd_ne hDp1]; exact h3, small1000 (by omega), (s3.trans s4).updN hD, vs ++ [.ref p2], upd_same, ?_⟩
      rw [List.take_add_one, hb, List.map_append]
      have wn : WrA (upd (upd (upd H3 p1 (.tup [natV b])) p2 (.tup [.str "fall", .ref p1])) D (.lst (vs ++ [.ref p2]))) (.ref p2) (.fall [b]) := ⟨p2, p1, rfl, by rw [upd_ne (Ne.symm hDp2)]; exact upd_same, by rw [upd_ne (Ne.symm hDp1), upd_ne hp12]; exact upd_same⟩
      refine WsA.snoc ?_ wn
      exact was.but h3 s4
    · rintro H3 ⟨s3, vs, h3, was⟩
      rw [List.length_map, List.take_length] at was
      refine ⟨_, rfl, ?_⟩
      refine ⟨_, rfl, x, rfl, fx.len, fx.many, fun H4 q s4 hq0 hq => ⟨q, rfl, ⟨_, SqL.of hq⟩, fun D2 hD2 => ?_⟩⟩
      have h4 := s4 _ _ h3
      have was4 := was.same s4
      have hDD : D ≠ D2 := ne_of_none h4 hD2
      refine lc_list (K := K) (a := q) (xs := (fallenM x).map natV) (fun i H' => Same H4 H' ∧ ∃ vs2, H' D2 = some (.lst vs2) ∧ WsA H' vs2 (((fallenM x).take i).map Wr.erase))
        ⟨(Same.refl _).upd hD2, [], upd_same, .nil⟩ (fun i H' _ h => SqL.of (h.1 _ _ hq)) ?_ ?_
      · rintro i z H5 hi ⟨s5, vs2, h5, was5⟩
        obtain ⟨b, hb, rfl⟩ := get_nat hi
        have hil : i < (fallenM x).length := (List.getElem?_eq_some_iff.mp hb).1
        refine ⟨rfl, _, rfl, true, rfl, iteT ⟨_, rfl, by show 2 ≤ sizeLine; decide, fun p2 hp2 => ?_⟩⟩
        have hDp2 : D2 ≠ p2 := ne_of_none h5 hp2
        have s6 : Same H5 (upd H5 p2 (.tup [.str "erase", natV b])) := (Same.refl H5).upd hp2
        have hvl := was5.length
        rw [List.length_map, List.length_take] at hvl
        refine ⟨vs2, by rw [upd_ne hDp2]; exact h5, small1000 (by omega), (s5.trans s6).updN hD2, vs2 ++ [.ref p2], upd_same, ?_⟩
        rw [List.take_add_one, hb, List.map_append]
        refine WsA.snoc (was5.but h5 s6) ⟨p2, rfl, ?_⟩
        rw [upd_ne (Ne.symm hDp2)]
        exact upd_same
      · rintro H5 ⟨s5, vs2, h5, was5⟩
        rw [List.length_map, List.take_length] at was5
        have hvl := was.length
        have hvl2 := was5.length
        rw [List.length_map] at hvl hvl2
        refine ⟨D, D2, vs, vs2, rfl, rfl, s5 _ _ h4, h5, by rw [sizeLine_eq]; omega, fun p9 hp9 => ?_⟩
        have s9 : Same H5 (upd H5 p9 (.lst (vs ++ vs2))) := (Same.refl H5).upd hp9
        have sH : Same H H5 := ((s12.trans s3).trans s4).trans s5
        exact k _ p9 (vs ++ vs2) (sH.trans s9) (sH.free hp9) upd_same (((was4.same s5).append was5).same s9)
end
end FB

/-! ## FBDev1 -/
set_option Elab.async false
set_option linter.all false
set_option maxRecDepth 100000
set_option maxHeartbeats 4000000
/-! Device: what stands at a device; __init__, the properties, stood, arm. -/
namespace FB
open PySem PySem.Spec PyProof.Rows L2
/-- all but S stands -/
def SBut (S : List Addr) (H H' : Hp) : Prop := ∀ b o, b ∉ S → H b = some o → H' b = some o
theorem SBut.refl {S : List Addr} {H : Hp} : SBut S H H := fun _ _ _ h => h
theorem SBut.trans {S : List Addr} {H H1 H2 : Hp} (a : SBut S H H1) (b : SBut S H1 H2) : SBut S H H2 := fun c o n h => b c o n (a c o n h)
theorem SBut.of {S : List Addr} {H H' : Hp} (s : Same H H') : SBut S H H' := fun b o _ h => s b o h
theorem SBut.upd {S : List Addr} {H H' : Hp} {p : Addr} {o : HO} (s : SBut S H H') (h : p ∈ S) : SBut S H (L2.upd H' p o) := fun b u n q => by
  rw [upd_ne (fun e => n (by rw [e]; exact h))]
  exact s b u n q
theorem SBut.updN {S : List Addr} {H H' : Hp} {p : Addr} {o : HO} (s : SBut S H H') (h : H' p = none) : SBut S H (L2.upd H' p o) := fun b u n q => by
  rw [upd_ne (ne_of_none (s b u n q) h)]
  exact s b u n q
structure Dev where
  past : List Str
  cur : Str
  ended : Nat
  cuts : Nat
  er : List Nat
  fail : Option Str
def optV : Option Str → V
  | none => .non
  | some x => .str x
def dFs (pl : Addr) (e c : V) (el : Addr) (f : V) : List (Str × V) := [("past", .ref pl), ("ended_so_far", e), ("cuts_so_far", c), ("erases_so_far", .ref el), ("failure_at", f)]
theorem dput0 {pl : Addr} : putF "past" (.ref pl) [] = ([("past", V.ref pl)] : List (Str × V)) := rfl
theorem dput1 {pl : Addr} {e : V} : putF "ended_so_far" e [("past", .ref pl)] = ([("past", V.ref pl), ("ended_so_far", e)] : List (Str × V)) := by
  simp only [putF]
  rw [if_neg (by decide)]
theorem dput2 {pl : Addr} {e c : V} : putF "cuts_so_far" c [("past", .ref pl), ("ended_so_far", e)] = ([("past", V.ref pl), ("ended_so_far", e), ("cuts_so_far", c)] : List (Str × V)) := by
  simp only [putF]
  rw [if_neg (by decide), if_neg (by decide)]
theorem dput3 {pl el : Addr} {e c : V} : putF "erases_so_far" (.ref el) [("past", .ref pl), ("ended_so_far", e), ("cuts_so_far", c)] = ([("past", V.ref pl), ("ended_so_far", e), ("cuts_so_far", c), ("erases_so_far", V.ref el)] : List (Str × V)) := by
  simp only [putF]
  rw [if_neg (by decide), if_neg (by decide), if_neg (by decide)]
theorem dput4 {pl el : Addr} {e c f : V} : putF "failure_at" f [("past", .ref pl), ("ended_so_far", e), ("cuts_so_far", c), ("erases_so_far", .ref el)] = dFs pl e c el f := by
  simp only [putF]
  rw [if_neg (by decide), if_neg (by decide), if_neg (by decide), if_neg (by decide)]
  rfl
theorem dputF {pl el : Addr} {e c f g : V} : putF "failure_at" g (dFs pl e c el f) = dFs pl e c el g := by
  unfold dFs
  simp only [putF]
  rw [if_neg (by decide), if_neg (by decide), if_neg (by decide), if_neg (by decide), if_pos trivial]
theorem dputE {pl el : Addr} {e c f g : V} : putF "ended_so_far" g (dFs pl e c el f) = dFs pl g c el f := by
  unfold dFs
  simp only [putF]
  rw [if_neg (by decide), if_pos trivial]
theorem dputC {pl el : Addr} {e c f g : V} : putF "cuts_so_far" g (dFs pl e c el f) = dFs pl e g el f := by
  unfold dFs
  simp only [putF]
  rw [if_neg (by decide), if_neg (by decide), if_pos trivial]
theorem dlk (pl el : Addr) (e c f : V) : (dFs pl e c el f).lookup ("past" : Str) = some (V.ref pl) ∧ (dFs pl e c el f).lookup ("ended_so_far" : Str) = some e ∧ (dFs pl e c el f).lookup ("cuts_so_far" : Str) = some c ∧
    (dFs pl e c el f).lookup ("erases_so_far" : Str) = some (V.ref el) ∧ (dFs pl e c el f).lookup ("failure_at" : Str) = some f := ⟨rfl, rfl, rfl, rfl, rfl⟩
/-- at d: a device; its list of patterns at pl, its list of erases at el -/
structure DevA (K : PySem.W.Frag) (H : Hp) (d pl el : Addr) (D : Dev) : Prop where
  ex : ∃ dx, H d = some (.ins (He.ga K "Device") dx (dFs pl (.int D.ended) (.int D.cuts) el (optV D.fail)))
  past : H pl = some (.lst ((D.past ++ [D.cur]).map V.str))
  er : H el = some (.lst (D.er.map natV))
  ne : pl ≠ el
theorem DevA.same {K : PySem.W.Frag} {H H' : Hp} {d pl el : Addr} {D : Dev} (h : DevA K H d pl el D) (s : Same H H') : DevA K H' d pl el D := by
  obtain ⟨⟨dx, h1⟩, h2, h3, h4⟩ := h
  exact ⟨⟨dx, s _ _ h1⟩, s _ _ h2, s _ _ h3, h4⟩
section
variable {P : Program} {w : World} {K : PySem.W.Frag} {mg : Str → Option Value} {base : Heap}
/-! ### __init__ -/
def spDInit (K : PySem.W.Frag) : Sp := fun vs H Q _ => ∃ (a dx : Addr) (x : Str), vs = [.ref a, .str x] ∧ H a = some (.ins (He.ga K "Device") dx []) ∧ Fit x ∧ (sizesM x).length ≤ 1000 ∧
  ∀ H' pl el, SameBut H H' a → H pl = none → H el = none → DevA K H' a pl el ⟨[], x, 0, 0, List.replicate (sizesM x).length 0, none⟩ → Q .non H'
theorem sc_d_init : FnScope ["self", "text", "size"] ["self", "text"] (defScope sDInit) := ⟨rfl, rfl, rfl, by decide +kernel, rfl, by decide +kernel, by decide +kernel⟩
theorem ok_d_init (T : Txt K mg) : FnOk P w K mg base CX0 8 (a_d_init K) (fdA K (a_d_init K)) ["self", "text"] (spDInit K) := by
  refine FunD.ok T.d_init sc_d_init (fun vs H Q E h => ?_) (fun cdv A outer s H vs Q E hr h => ?_)
  · obtain ⟨a, dx, x, rfl, _⟩ := h
    rfl
  · obtain ⟨a, dx, x, rfl, ha, fx, hsl, k⟩ := h
    have nd := sc_d_init.nd
    have GP := ok_need_pattern (P := P) (w := w) (base := base) T
    have GS := ok_sizes_of (P := P) (w := w) (base := base) T
    refine ⟨_, PSs.nox (pss_cons (ps_expr (pe_call GP (hr.mono (by decide)) (by rfl) T.g_need_pattern T.need_pattern.kp T.n_need_pattern .nil pass0 (pa_cons (pv 1) pa_nil)))
      (pss_cons (ps_fld (pv 0) (pe_lst (pa_cons (pv 1) pa_nil)) rfl) (pss_cons (ps_fld (pv 0) pe_int rfl) (pss_cons (ps_fld (pv 0) pe_int rfl)
      (pss_cons (ps_fld (pv 0) (pe_lc (own := [("size", 2)]) (g := gName 2) rfl nd (pi_tup (pe_call GS (hr.mono (by decide)) (by rfl) T.g_sizes_of T.sizes_of.kp T.n_sizes_of .nil pass0 (pa_cons (pv 1) pa_nil))) (blkOk_by (N := ["self", "text", "size"]) (sc := defScope sDInit) (by decide +kernel)) (fun _ _ _ _ _ => pg_name (i := 2) nd rfl (Or.inl rfl)) (fun _ _ _ _ _ => pts_nil) (fun _ _ _ _ _ => pe_int)) rfl)
      (pss_one (ps_fld (pv 0) pe_non rfl))))))), ?_⟩
    refine ⟨_, rfl, x, rfl, fx.ok, fun H1 s1 => ?_⟩
    have ha1 := s1 _ _ ha
    refine ⟨_, rfl, (by show 1 ≤ sizeLine; decide), fun pl hpl => ?_⟩
    have hapl : a ≠ pl := ne_of_none ha1 hpl
    refine ⟨_, rfl, a, _, dx, _, rfl, by rw [upd_ne hapl]; exact ha1, T.cD, He.noat_ok T.f_nDp, by decide, ?_⟩
    rw [dput0]
    refine ⟨_, rfl, a, _, dx, _, rfl, upd_same, T.cD, He.noat_ok T.f_nDe, by show 1 < 1000; decide, ?_⟩
    rw [dput1]
    refine ⟨_, rfl, a, _, dx, _, rfl, upd_same, T.cD, He.noat_ok T.f_nDc, by show 2 < 1000; decide, ?_⟩
    rw [dput2, upd_upd, upd_upd]
    generalize hH2 : upd (upd H1 pl (.lst [V.str x])) a (.ins (He.ga K "Device") dx [("past", .ref pl), ("ended_so_far", .int 0), ("cuts_so_far", .int 0)]) = H2
    have ha2 : H2 a = some (.ins (He.ga K "Device") dx [("past", .ref pl), ("ended_so_far", .int 0), ("cuts_so_far", .int 0)]) := by rw [← hH2]; exact upd_same
    have hp2 : H2 pl = some (.lst [V.str x]) := by rw [← hH2, upd_ne (Ne.symm hapl)]; exact upd_same
    have sb2 : SameBut H H2 a := fun b o hb q => by
      have q1 := s1 _ _ q
      rw [← hH2, upd_ne hb, upd_ne (ne_of_none q1 hpl)]
      exact q1
    refine ⟨_, rfl, x, rfl, fx.len, fx.many, fx.each, fun H3 p s3 hp0 hp => ⟨p, rfl, ⟨_, SqT.of hp⟩, fun el hel => ?_⟩⟩
    have ha3 := s3 _ _ ha2
    have hpl3 := s3 _ _ hp2
    have hael : a ≠ el := ne_of_none ha3 hel
    have hplel : pl ≠ el := ne_of_none hpl3 hel
    refine lc_it (walk_tup (K := K) (a := p) (xs := sizesV x)) (fun i H' => Same H3 H' ∧ H' el = some (.lst ((List.replicate i 0).map natV))) ⟨(Same.refl _).upd hel, upd_same⟩ (fun i H' _ h => SqT.of (h.1 _ _ hp)) ?_ ?_
    · rintro i z H4 H5 hi ⟨s4, h4⟩ ⟨rfl, hz⟩
      have hsz : (sizesV x).length = (sizesM x).length := by unfold sizesV; rw [List.length_map]
      rw [hsz] at hi
      refine ⟨rfl, _, h4, ?_, s4.updN hel, ?_⟩
      · rw [List.length_map, List.length_replicate]
        exact small1000 (by omega)
      · rw [upd_same, List.replicate_succ', List.map_append]
        rfl
    · rintro H4 ⟨s4, h4⟩
      have hsz : (sizesV x).length = (sizesM x).length := by unfold sizesV; rw [List.length_map]
      rw [hsz] at h4
      have ha4 := s4 _ _ ha3
      refine ⟨_, rfl, a, _, dx, _, rfl, ha4, T.cD, He.noat_ok T.f_nDr, by show 3 < 1000; decide, ?_⟩
      rw [dput3]
      refine ⟨_, rfl, a, _, dx, _, rfl, upd_same, T.cD, He.noat_ok T.f_nDf, by show 4 < 1000; decide, ?_⟩
      rw [dput4, upd_upd]
      have hpl0 : H pl = none := s1.free hpl
      have hel0 : H el = none := by
        cases e : H el with
        | none => rfl
        | some o =>
          have q := s3 _ _ (sb2 el o (Ne.symm hael) e)
          rw [hel] at q
          cases q
      refine k _ pl el (fun b o hb q => ?_) hpl0 hel0 ⟨⟨dx, upd_same⟩, ?_, ?_, hplel⟩
      · rw [upd_ne hb]
        exact s4 _ _ (s3 _ _ (sb2 b o hb q))
      · rw [upd_ne (Ne.symm hapl)]
        exact s4 _ _ hpl3
      · rw [upd_ne (Ne.symm hael)]
        exact h4
/-! ### the properties -/
def spGet (K : PySem.W.Frag) (f : Hp → Addr → Addr → Addr → Dev → VK → Prop) : Sp := fun vs H Q _ => ∃ (d pl el : Addr) (D : Dev), vs = [.ref d] ∧ DevA K H d pl el D ∧ f H d pl el D Q
def spDPattern (K : PySem.W.Frag) : Sp := spGet K fun H _ _ _ D Q => Q (.str D.cur) H
def spDEnded (K : PySem.W.Frag) : Sp := spGet K fun H _ _ _ D Q => Q (.int D.ended) H
def spDCuts (K : PySem.W.Frag) : Sp := spGet K fun H _ _ _ D Q => Q (.int D.cuts) H
def spDArmed (K : PySem.W.Frag) : Sp := spGet K fun H _ _ _ D Q => Q (optV D.fail) H
def spDErases (K : PySem.W.Frag) : Sp := spGet K fun H _ _ _ D Q => ∀ H' p, Same H H' → H p = none → H' p = some (.tup (D.er.map natV)) → Q (.ref p) H'
def spDStood (K : PySem.W.Frag) : Sp := spGet K fun H _ _ _ D Q => ∀ H' p, Same H H' → H p = none → H' p = some (.lst ((D.past ++ [D.cur]).map V.str)) → Q (.ref p) H'
theorem sc_d_pattern : FnScope ["self"] ["self"] (defScope sDPattern) := ⟨rfl, rfl, rfl, by decide +kernel, rfl, by decide +kernel, by decide +kernel⟩
theorem sc_d_ended : FnScope ["self"] ["self"] (defScope sDEnded) := ⟨rfl, rfl, rfl, by decide +kernel, rfl, by decide +kernel, by decide +kernel⟩
theorem sc_d_cuts : FnScope ["self"] ["self"] (defScope sDCuts) := ⟨rfl, rfl, rfl, by decide +kernel, rfl, by decide +kernel, by decide +kernel⟩
theorem sc_d_armed : FnScope ["self"] ["self"] (defScope sDArmed) := ⟨rfl, rfl, rfl, by decide +kernel, rfl, by decide +kernel, by decide +kernel⟩
theorem sc_d_erases : FnScope ["self"] ["self"] (defScope sDErases) := ⟨rfl, rfl, rfl, by decide +kernel, rfl, by decide +kernel, by decide +kernel⟩
theorem sc_d_stood : FnScope ["self"] ["self"] (defScope sDStood) := ⟨rfl, rfl, rfl, by decide +kernel, rfl, by decide +kernel, by decide +kernel⟩
theorem ok_d_pattern (T : Txt K mg) : FnOk P w K mg base CX0 2 (a_d_pattern K) (fdA K (a_d_pattern K)) ["self"] (spDPattern K) := by
  refine FunD.ok T.d_pattern sc_d_pattern (fun vs H Q E h => ?_) (fun cdv A outer s H vs Q E hr h => ?_)
  · obtain ⟨d, pl, el, D, rfl, _⟩ := h
    rfl
  · obtain ⟨d, pl, el, D, rfl, ⟨⟨dx, h1⟩, h2, h3, h4⟩, k⟩ := h
    refine ⟨_, PSs.nox (pss_one (ps_ret (pe_ix ix_list (pe_fld (pv 0) rfl) (pe_un un_neg pe_int) (fun _ _ => rfl)))), ?_⟩
    refine ⟨_, rfl, d, _, dx, _, _, rfl, h1, T.cD, He.noat_ok T.f_nDp, rfl, 1, rfl, pl, _, -1, .str D.cur, rfl, rfl, SqL.of h2, ?_, k⟩
    rw [List.map_append]
    exact atI_last _ _
theorem ok_d_ended (T : Txt K mg) : FnOk P w K mg base CX0 2 (a_d_ended K) (fdA K (a_d_ended K)) ["self"] (spDEnded K) := by
  refine FunD.ok T.d_ended sc_d_ended (fun vs H Q E h => ?_) (fun cdv A outer s H vs Q E hr h => ?_)
  · obtain ⟨d, pl, el, D, rfl, _⟩ := h
    rfl
  · obtain ⟨d, pl, el, D, rfl, ⟨⟨dx, h1⟩, h2, h3, h4⟩, k⟩ := h
    refine ⟨_, PSs.nox (pss_one (ps_ret (pe_fld (pv 0) rfl))), ?_⟩
    exact ⟨_, rfl, d, _, dx, _, _, rfl, h1, T.cD, He.noat_ok T.f_nDe, rfl, k⟩
theorem ok_d_cuts (T : Txt K mg) : FnOk P w K mg base CX0 2 (a_d_cuts K) (fdA K (a_d_cuts K)) ["self"] (spDCuts K) := by
  refine FunD.ok T.d_cuts sc_d_cuts (fun vs H Q E h => ?_) (fun cdv A outer s H vs Q E hr h => ?_)
  · obtain ⟨d, pl, el, D, rfl, _⟩ := h
    rfl
  · obtain ⟨d, pl, el, D, rfl, ⟨⟨dx, h1⟩, h2, h3, h4⟩, k⟩ := h
    refine ⟨_, PSs.nox (pss_one (ps_ret (pe_fld (pv 0) rfl))), ?_⟩
    exact ⟨_, rfl, d, _, dx, _, _, rfl, h1, T.cD, He.noat_ok T.f_nDc, rfl, k⟩
theorem ok_d_armed (T : Txt K mg) : FnOk P w K mg base CX0 2 (a_d_armed K) (fdA K (a_d_armed K)) ["self"] (spDArmed K) := by
  refine FunD.ok T.d_armed sc_d_armed (fun vs H Q E h => ?_) (fun cdv A outer s H vs Q E hr h => ?_)
  · obtain ⟨d, pl, el, D, rfl, _⟩ := h
    rfl
  · obtain ⟨d, pl, el, D, rfl, ⟨⟨dx, h1⟩, h2, h3, h4⟩, k⟩ := h
    refine ⟨_, PSs.nox (pss_one (ps_ret (pe_fld (pv 0) rfl))), ?_⟩
    exact ⟨_, rfl, d, _, dx, _, _, rfl, h1, T.cD, He.noat_ok T.f_nDf, rfl, k⟩
theorem ok_d_erases (T : Txt K mg) : FnOk P w K mg base CX0 2 (a_d_erases K) (fdA K (a_d_erases K)) ["self"] (spDErases K) := by
  refine FunD.ok T.d_erases sc_d_erases (fun vs H Q E h => ?_) (fun cdv A outer s H vs Q E hr h => ?_)
  · obtain ⟨d, pl, el, D, rfl, _⟩ := h
    rfl
  · obtain ⟨d, pl, el, D, rfl, ⟨⟨dx, h1⟩, h2, h3, h4⟩, k⟩ := h
    refine ⟨_, PSs.nox (pss_one (ps_ret (pe_callTy call_tuple_of (by rfl) T.b_tuple bt_tuple (pa_cons (pe_fld (pv 0) rfl) pa_nil)))), ?_⟩
    exact ⟨_, rfl, d, _, dx, _, _, rfl, h1, T.cD, He.noat_ok T.f_nDr, rfl, el, _, rfl, .inl ⟨SqL.of h3, fun l hl => k _ l ((Same.refl H).upd hl) hl upd_same⟩⟩
theorem ok_d_stood (T : Txt K mg) : FnOk P w K mg base CX0 2 (a_d_stood K) (fdA K (a_d_stood K)) ["self"] (spDStood K) := by
  refine FunD.ok T.d_stood sc_d_stood (fun vs H Q E h => ?_) (fun cdv A outer s H vs Q E hr h => ?_)
  · obtain ⟨d, pl, el, D, rfl, _⟩ := h
    rfl
  · obtain ⟨d, pl, el, D, rfl, ⟨⟨dx, h1⟩, h2, h3, h4⟩, k⟩ := h
    refine ⟨_, PSs.nox (pss_one (ps_ret (pe_callTy call_list_of (by rfl) T.b_list bt_list (pa_cons (pe_fld (pv 0) rfl) pa_nil)))), ?_⟩
    exact ⟨_, rfl, d, _, dx, _, _, rfl, h1, T.cD, He.noat_ok T.f_nDp, rfl, pl, _, rfl, .inl (SqL.of h2), fun l hl => k _ l ((Same.refl H).upd hl) hl upd_same⟩
/-! ### arm -/
def spDArm (K : PySem.W.Frag) : Sp := fun vs H Q _ => ∃ (d pl el : Addr) (D : Dev) (z : Option Str), vs = [.ref d, optV z] ∧ DevA K H d pl el D ∧ (∀ x, z = some x → Fit x ∧ Fit D.cur ∧ sizesM x = sizesM D.cur) ∧
  ∀ H', SBut [d] H H' → DevA K H' d pl el { D with fail := z } → Q .non H'
theorem sc_d_arm : FnScope ["self", "z"] ["self", "z"] (defScope sDArm) := ⟨rfl, rfl, rfl, by decide +kernel, rfl, by decide +kernel, by decide +kernel⟩
theorem ok_d_arm (T : Txt K mg) : FnOk P w K mg base CX0 12 (a_d_arm K) (fdA K (a_d_arm K)) ["self", "z"] (spDArm K) := by
  refine FunD.ok T.d_arm sc_d_arm (fun vs H Q E h => ?_) (fun cdv A outer s H vs Q E hr h => ?_)
  · obtain ⟨d, pl, el, D, z, rfl, _⟩ := h
    rfl
  · obtain ⟨d, pl, el, D, z, rfl, da, hz, k⟩ := h
    have GN := ok_need_patterns (P := P) (w := w) (base := base) T
    refine ⟨_, PSs.nox (pss_cons (ps_if (pt_cmpR op_notN (pv 1) pe_non (nomark _)) (pss_one (ps_expr (pe_callR (sp := spNPs K) GN (hr.mono (by decide)) (by rfl) T.g_need_patterns T.need_patterns.kp pass0 (pa_cons (pv 1) (pa_cons (pe_ix ix_list (pe_fld (pv 0) rfl) (pe_un un_neg pe_int) (fun _ _ => rfl)) pa_nil))))) pss_nil)
      (pss_one (ps_fld (pv 0) (pv 1) rfl))), ?_⟩
    have fin : ∀ H1, Same H H1 → tSeq (sFld K (tVar 0) (tVar 1) "failure_at") tNext { nx := fun _ H' => Q .non H', rt := Q } [some (.ref d), some (optV z)] H1 := fun H1 s1 => by
      obtain ⟨⟨dx, h1⟩, h2, h3, h4⟩ := da.same s1
      refine ⟨_, rfl, _, rfl, d, _, dx, _, rfl, h1, T.cD, He.noat_ok T.f_nDf, by show 5 < 1000; decide, ?_⟩
      rw [dputF]
      have ne : ∀ {b : Addr} {l : List V}, H1 b = some (.lst l) → b ≠ d := fun {b l} e q => by
        rw [q, h1] at e
        cases e
      exact k _ (SBut.upd (.of s1) (by simp)) ⟨⟨dx, upd_same⟩, by rw [upd_ne (ne h2)]; exact h2, by rw [upd_ne (ne h3)]; exact h3, h4⟩
    cases z with
    | none => exact ⟨_, rfl, rfl, _, rfl, iteF (fin H (Same.refl H))⟩
    | some x =>
      obtain ⟨⟨dx, h1⟩, h2, h3, h4⟩ := id da
      obtain ⟨fx, fc, ex⟩ := hz x rfl
      refine ⟨_, rfl, rfl, _, rfl, iteT ⟨_, rfl, _, rfl, d, _, dx, _, _, rfl, h1, T.cD, He.noat_ok T.f_nDp, rfl, 1, rfl, pl, _, -1, .str D.cur, rfl, rfl, SqL.of h2, ?_, ?_⟩⟩
      · rw [List.map_append]
        exact atI_last _ _
      · exact rd_np (xs := [x, D.cur]) x [D.cur] rfl (by simp) (by simp) (two_fit fx fc ex) fun H1 s1 => fin H1 s1
end
end FB

/-! ## FBDev2 -/
set_option Elab.async false
set_option linter.all false
set_option maxRecDepth 100000
set_option maxHeartbeats 4000000
/-! Cut, Device.do. -/
namespace FB
open PySem PySem.Spec PyProof.Rows L2
/-- l[j], by values -/
def rGetN (K : PySem.W.Frag) : V → V → Hp → VK → Prop := fun o i H Q => ∃ (p : Addr) (xs : List V) (j : Nat) (v : V), o = .ref p ∧ i = .int (j : Int) ∧ SqL K H p xs ∧ xs[j]? = some v ∧ j < 1000000 ∧ Q v H
theorem get_list {X : Cx} : PGet X (rGetN X.K) := by
  intro pins s σ H o i ov iv Q I ro ri h
  obtain ⟨p, xs, j, v, rfl, rfl, hx, hj, hjl, q⟩ := h
  cases ro
  obtain ⟨t, rfl⟩ := ri
  obtain ⟨its, r, ht, hz⟩ := I.list hx
  obtain ⟨u, hu, ru⟩ := r.get hj
  exact wpAny_getItem_list ht.isList (by omega) (by omega) (x := u) (by simpa using hu) ⟨v, H, I, ru, q⟩
section
variable {P : Program} {w : World} {K : PySem.W.Frag} {mg : Str → Option Value} {base : Heap}
/-! ### Cut.__init__ -/
def spCutInit (K : PySem.W.Frag) : Sp := fun vs H Q _ => ∃ (a : Addr) (z : Str), vs = [.ref a, .str z] ∧ H a = some (exo a (He.ga K "Cut") none) ∧ ∀ d, H d = none → d ≠ a → Q .non (upd (upd H d (exd d [("found", .str z)])) a (exo a (He.ga K "Cut") (some d)))
theorem sc_cut_init : FnScope ["self", "found"] ["self", "found"] (defScope sCutInit) := ⟨rfl, rfl, rfl, by decide +kernel, rfl, by decide +kernel, by decide +kernel⟩
theorem ok_cut_init {CX : CXT} (T : Txt K mg) : FnOk P w K mg base CX 2 (a_cut_init K) (fdA K (a_cut_init K)) ["self", "found"] (spCutInit K) := by
  refine FunD.ok T.cut_init sc_cut_init (fun vs H Q E h => ?_) (fun cdv A outer s H vs Q E hr h => ?_)
  · obtain ⟨a, z, rfl, _⟩ := h
    rfl
  · obtain ⟨a, z, rfl, ha, k⟩ := h
    refine ⟨_, pss_one (ps_ost (pv 0) (pv 1)), ?_⟩
    exact ⟨_, rfl, _, rfl, a, He.ga K "Cut", rfl, T.oCut, T.nCut, .inl ⟨ha, k⟩⟩
/-! ### do -/
def Dev.erOf (D : Dev) : Wr → List Nat
  | .erase b => D.er.set b (D.er.getD b 0 + 1)
  | .fall _ => D.er
/-- what is behind a write that was not cut -/
def Dev.done (D : Dev) (x : Str) (wr : Wr) : Dev := { past := D.past ++ [D.cur], cur := endM x wr, ended := D.ended + 1, cuts := D.cuts, er := Dev.erOf D wr, fail := none }
def Dev.cut (D : Dev) (z : Str) : Dev := { past := D.past ++ [D.cur], cur := z, ended := D.ended, cuts := D.cuts + 1, er := D.er, fail := none }
/-- what do needs -/
structure DoFit (D : Dev) (wr : Wr) : Prop where
  fx : Fit D.cur
  wf : WFit D.cur wr
  fy : Fit (endM D.cur wr)
  sy : sizesM (endM D.cur wr) = sizesM D.cur
  long : D.past.length ≤ 1000
  era : ∀ b, wr = .erase b → b < D.er.length
  fz : ∀ z, D.fail = some z → Fit z ∧ sizesM z = sizesM D.cur ∧ inBoxM z D.cur (endM D.cur wr) = true
def spDDo (K : PySem.W.Frag) : Sp := fun vs H Q E => ∃ (d pl el : Addr) (D : Dev) (v : V) (wr : Wr), vs = [.ref d, v] ∧ DevA K H d pl el D ∧ WrA H v wr ∧ DoFit D wr ∧
  (D.fail = none → ∀ H', SBut [d, pl, el] H H' → DevA K H' d pl el (D.done D.cur wr) → Q (.str (endM D.cur wr)) H') ∧
  (∀ z, D.fail = some z → ∀ H' dd, SBut [d, pl, el] H H' → DevA K H' d pl el (D.cut z) → H dd = none → H' dd = some (.xd [("found", .str z)]) → E (.ref (He.ga K "Cut")) (some dd) H')
theorem sc_d_do : FnScope ["self", "write", "later", "z"] ["self", "write"] (defScope sDDo) := ⟨rfl, rfl, rfl, by decide +kernel, rfl, by decide +kernel, by decide +kernel⟩
theorem ok_d_do (T : Txt K mg) : FnOk P w K mg base (L2.CX P w) 20 (a_d_do K) (fdA K (a_d_do K)) ["self", "write"] (spDDo K) := by
  refine FunD.ok T.d_do sc_d_do (fun vs H Q E h => ?_) (fun cdv A outer s H vs Q E hr h => ?_)
  · obtain ⟨d, pl, el, D, v, wr, rfl, _⟩ := h
    rfl
  · obtain ⟨d, pl, el, D, v, wr, rfl, da, hw, df, kd, kc⟩ := h
    have nd := sc_d_do.nd
    have GW := ok_is_write (P := P) (w := w) (base := base) T
    have GE := ok_end (P := P) (w := w) (base := base) T
    have GB := ok_in_box (P := P) (w := w) (base := base) T
    have GC := ok_cut_init (P := P) (w := w) (base := base) (CX := CX0) T
    refine ⟨_, pss_cons (ps_if (pt_not (pt_val (pe_call GW (hr.mono (by decide)) (by rfl) T.g_is_write T.is_write.kp T.n_is_write .nil pass0 (pa_cons (pe_ix ix_list (pe_fld (pv 0) rfl) (pe_un un_neg pe_int) (fun _ _ => rfl)) (pa_cons (pv 1) pa_nil))))) pss_never pss_nil)
      (pss_cons (ps_set (i := 2) nd rfl (.inl rfl) (pe_call GE (hr.mono (by decide)) (by rfl) T.g_end T.end.kp T.n_end .nil pass0 (pa_cons (pe_ix ix_list (pe_fld (pv 0) rfl) (pe_un un_neg pe_int) (fun _ _ => rfl)) (pa_cons (pv 1) pa_nil))))
      (pss_cons (ps_set (i := 3) nd rfl (.inl rfl) (pe_fld (pv 0) rfl))
      (pss_cons (ps_fld (pv 0) pe_non rfl)
      (pss_cons (ps_if (pt_cmpR op_notN (pv 3) pe_non (nomark _))
        (pss_cons (ps_if (pt_not (pt_val (pe_call GB (hr.mono (by decide)) (by rfl) T.g_in_box T.in_box.kp T.n_in_box .nil pass0 (pa_cons (pv 3) (pa_cons (pe_ix ix_list (pe_fld (pv 0) rfl) (pe_un un_neg pe_int) (fun _ _ => rfl)) (pa_cons (pv 2) pa_nil)))))) pss_never pss_nil)
        (pss_cons (ps_expr (pe_bm PySem.F.plainAttrs_list PySem.F.slot_list_append PySem.F.type_list_append mt_append (pe_fld (pv 0) rfl) (pa_cons (pv 3) pa_nil)))
        (pss_cons (ps_fldaug (pv 0) pe_int in_add)
        (pss_one (ps_raise rfl (takes_of rfl rfl rfl rfl) (pmk_oex T.oCut T.iCut T.tCut GC (hr.mono (by decide)) T.n_cut_init .nil pass0 (by rfl) T.g_Cut (pa_cons (pv 3) pa_nil)))))))
        pss_nil)
      (pss_cons (ps_expr (pe_bm PySem.F.plainAttrs_list PySem.F.slot_list_append PySem.F.type_list_append mt_append (pe_fld (pv 0) rfl) (pa_cons (pv 2) pa_nil)))
      (pss_cons (ps_fldaug (pv 0) pe_int in_add)
      (pss_cons (ps_if (pt_cmpR op_eq (pe_ix ix_tup (pv 1) pe_int (fun _ _ => rfl)) pe_str (nomark _))
        (pss_one (ps_augS (pe_fld (pv 0) rfl) (pe_ix ix_tup (pv 1) pe_int (fun _ _ => rfl)) get_list pe_int ip_add set_list)) pss_nil)
      (pss_one (ps_ret (pv 2)))))))))), ?_⟩
    have hlast : atI ((D.past ++ [D.cur]).map V.str) (-1) = some (.str D.cur) := by
      rw [List.map_append]
      exact atI_last _ _
    have hplen : ((D.past ++ [D.cur]).map V.str).length < sizeLine := by
      rw [List.length_map, List.length_append, List.length_singleton, sizeLine_eq]
      have := df.long
      omega
    obtain ⟨⟨dx, h1⟩, h2, h3, h4⟩ := id da
    refine ⟨_, rfl, d, _, dx, _, _, rfl, h1, T.cD, He.noat_ok T.f_nDp, rfl, 1, rfl, pl, _, -1, .str D.cur, rfl, rfl, SqL.of h2, hlast, _, rfl, v, wr, D.cur, rfl, hw, df.fx, df.wf.ok, df.wf.small, fun H1 s1 => ⟨_, rfl, iteF ?_⟩⟩
    obtain ⟨⟨_, a1⟩, a2, a3, _⟩ := da.same s1
    refine ⟨_, rfl, d, _, _, _, _, rfl, a1, T.cD, He.noat_ok T.f_nDp, rfl, 1, rfl, pl, _, -1, .str D.cur, rfl, rfl, SqL.of a2, hlast, _, rfl, v, wr, D.cur, rfl, hw.same s1, df.fx, df.wf, fun H2 s2 => ?_⟩
    have s12 := s1.trans s2
    obtain ⟨⟨dx2, b1⟩, b2, b3, _⟩ := da.same s12
    refine ⟨_, rfl, d, _, _, _, _, rfl, b1, T.cD, He.noat_ok T.f_nDf, rfl, ?_⟩
    refine ⟨_, rfl, d, _, dx2, _, rfl, b1, T.cD, He.noat_ok T.f_nDf, by show 5 < 1000; decide, ?_⟩
    rw [dputF]
    have ned : ∀ {b : Addr} {l : List V}, H2 b = some (.lst l) → b ≠ d := fun {b l} e q => by
      rw [q, b1] at e
      cases e
    generalize hH3 : upd H2 d (.ins (He.ga K "Device") dx2 (dFs pl (.int D.ended) (.int D.cuts) el .non)) = H3
    have c1 : H3 d = some (.ins (He.ga K "Device") dx2 (dFs pl (.int D.ended) (.int D.cuts) el .non)) := by rw [← hH3]; exact upd_same
    have c2 : H3 pl = some (.lst ((D.past ++ [D.cur]).map V.str)) := by rw [← hH3, upd_ne (ned b2)]; exact b2
    have c3 : H3 el = some (.lst (D.er.map natV)) := by rw [← hH3, upd_ne (ned b3)]; exact b3
    have sb3 : SBut [d, pl, el] H H3 := by rw [← hH3]; exact SBut.upd (.of s12) (by simp)
    have hw3 : WrA H3 v wr := by
      have q := hw.same s12
      have net : ∀ {b : Addr} {l : List V}, H2 b = some (.tup l) → b ≠ d := fun {b l} e q => by
        rw [q, b1] at e
        cases e
      cases wr with
      | fall bs =>
        obtain ⟨T1, T2, e, e1, e2⟩ := q
        exact ⟨T1, T2, e, by rw [← hH3, upd_ne (net e1)]; exact e1, by rw [← hH3, upd_ne (net e2)]; exact e2⟩
      | erase b =>
        obtain ⟨T1, e, e1⟩ := q
        exact ⟨T1, e, by rw [← hH3, upd_ne (net e1)]; exact e1⟩
    cases hf : D.fail with
    | some z =>
      obtain ⟨fz, sz', ib⟩ := df.fz z hf
      refine ⟨_, rfl, rfl, _, rfl, iteT ?_⟩
      refine ⟨_, rfl, _, rfl, d, _, _, _, _, rfl, c1, T.cD, He.noat_ok T.f_nDp, rfl, 1, rfl, pl, _, -1, .str D.cur, rfl, rfl, SqL.of c2, hlast, _, rfl, z, D.cur, endM D.cur wr, rfl, fz, df.fx, df.fy, sz'.symm, df.sy.trans sz'.symm, fun H4 s4 => ⟨_, rfl, ?_⟩⟩
      rw [ib]
      refine iteF ?_
      have d1 := s4 _ _ c1
      have d2 := s4 _ _ c2
      have d3 := s4 _ _ c3
      refine ⟨_, rfl, d, _, dx2, _, _, rfl, d1, T.cD, He.noat_ok T.f_nDp, rfl, .inl ⟨rfl, _, SqL.of d2⟩, _, rfl, pl, _, _, rfl, rfl, d2, hplen, ?_⟩
      have npd : d ≠ pl := fun q => by rw [q, d2] at d1; cases d1
      refine ⟨_, rfl, d, _, dx2, _, _, rfl, by rw [upd_ne npd]; exact d1, T.cD, He.noat_ok T.f_nDc, rfl, D.cuts, 1, rfl, rfl, dx2, _, by rw [upd_ne npd]; exact d1, by show 5 < 1000; decide, ?_⟩
      rw [dputC]
      generalize hH5 : upd (upd H4 pl (.lst ((D.past ++ [D.cur]).map V.str ++ [optV (some z)]))) d (.ins (He.ga K "Device") dx2 (dFs pl (.int D.ended) (.int (D.cuts + 1)) el .non)) = H5
      have e1 : H5 d = some (.ins (He.ga K "Device") dx2 (dFs pl (.int D.ended) (.int (D.cuts + 1)) el .non)) := by rw [← hH5]; exact upd_same
      have e2 : H5 pl = some (.lst (((D.past ++ [D.cur]) ++ [z]).map V.str)) := by
        rw [← hH5, upd_ne (Ne.symm npd), upd_same, List.map_append (l₂ := [z])]
        rfl
      have e3 : H5 el = some (.lst (D.er.map natV)) := by
        rw [← hH5, upd_ne (fun q => by rw [q, d1] at d3; cases d3), upd_ne (Ne.symm h4)]
        exact d3
      have sb5 : SBut [d, pl, el] H H5 := by
        rw [← hH5]
        exact (((sb3.trans (.of s4)).upd (by simp)).upd (by simp))
      refine ⟨_, rfl, by show 1 ≤ 1000; decide, fun a ha => ⟨a, z, rfl, upd_same, fun dd hdd hne => ⟨rfl, dd, [("found", .str z)], upd_same, ?_, ?_, ?_⟩⟩⟩
      · rw [upd_ne hne, upd_same]
      · rw [upd_ne hne] at hdd
        exact hdd
      · rw [upd_ne hne] at hdd
        have keep : ∀ b o, H5 b = some o → (upd (del (upd (upd (upd H5 a (exo a (He.ga K "Cut") none)) dd (exd dd [("found", .str z)])) a (exo a (He.ga K "Cut") (some dd))) a) dd (.xd [("found", .str z)])) b = some o := fun b o q => by
          have n1 : b ≠ dd := ne_of_none q hdd
          have n2 : b ≠ a := ne_of_none q ha
          rw [upd_ne n1, del_ne n2, upd_ne n2, upd_ne n1, upd_ne n2]
          exact q
        refine kc z hf _ dd (fun b o n q => keep b o (sb5 b o n q)) ⟨⟨dx2, keep _ _ e1⟩, keep _ _ e2, keep _ _ e3, h4⟩ ?_ upd_same
        cases q : H dd with
        | none => rfl
        | some o =>
          by_cases hm : dd ∈ [d, pl, el]
          · rcases List.mem_cons.mp hm with hm | hm
            · rw [hm, e1] at hdd
              cases hdd
            · rcases List.mem_cons.mp hm with hm | hm
              · rw [hm, e2] at hdd
                cases hdd
              · rcases List.mem_cons.mp hm with hm | hm
                · rw [hm, e3] at hdd
                  cases hdd
                · cases hm
          · rw [sb5 dd o hm q] at hdd
            cases hdd
    | none =>
      refine ⟨_, rfl, rfl, _, rfl, iteF ?_⟩
      refine ⟨_, rfl, d, _, dx2, _, _, rfl, c1, T.cD, He.noat_ok T.f_nDp, rfl, .inl ⟨rfl, _, SqL.of c2⟩, _, rfl, pl, _, _, rfl, rfl, c2, hplen, ?_⟩
      have npd : d ≠ pl := fun q => by rw [q, c2] at c1; cases c1
      have nel : el ≠ d := fun q => by rw [q, c1] at c3; cases c3
      refine ⟨_, rfl, d, _, dx2, _, _, rfl, by rw [upd_ne npd]; exact c1, T.cD, He.noat_ok T.f_nDe, rfl, D.ended, 1, rfl, rfl, dx2, _, by rw [upd_ne npd]; exact c1, by show 5 < 1000; decide, ?_⟩
      rw [dputE]
      generalize hH5 : upd (upd H3 pl (.lst ((D.past ++ [D.cur]).map V.str ++ [V.str (endM D.cur wr)]))) d (.ins (He.ga K "Device") dx2 (dFs pl (.int (D.ended + 1)) (.int D.cuts) el .non)) = H5
      have e1 : H5 d = some (.ins (He.ga K "Device") dx2 (dFs pl (.int (D.ended + 1)) (.int D.cuts) el .non)) := by rw [← hH5]; exact upd_same
      have e2 : H5 pl = some (.lst (((D.past ++ [D.cur]) ++ [endM D.cur wr]).map V.str)) := by
        rw [← hH5, upd_ne (Ne.symm npd), upd_same, List.map_append (l₂ := [endM D.cur wr])]
        rfl
      have e3 : H5 el = some (.lst (D.er.map natV)) := by
        rw [← hH5, upd_ne nel, upd_ne (Ne.symm h4)]
        exact c3
      have sb5 : SBut [d, pl, el] H H5 := by
        rw [← hH5]
        exact ((sb3.upd (by simp)).upd (by simp))
      have hw5 : WrA H5 v wr := by
        have net1 : ∀ {b : Addr} {l : List V}, H3 b = some (.tup l) → b ≠ d := fun {b l} e q => by
          rw [q, c1] at e
          cases e
        have net2 : ∀ {b : Addr} {l : List V}, H3 b = some (.tup l) → b ≠ pl := fun {b l} e q => by
          rw [q, c2] at e
          cases e
        have net : ∀ {b : Addr} {l : List V}, H3 b = some (.tup l) → b ≠ d ∧ b ≠ pl := fun {b l} e => ⟨net1 e, net2 e⟩
        cases wr with
        | fall bs =>
          obtain ⟨T1, T2, e, u1, u2⟩ := hw3
          exact ⟨T1, T2, e, by rw [← hH5, upd_ne (net u1).1, upd_ne (net u1).2]; exact u1, by rw [← hH5, upd_ne (net u2).1, upd_ne (net u2).2]; exact u2⟩
        | erase b =>
          obtain ⟨T1, e, u1⟩ := hw3
          exact ⟨T1, e, by rw [← hH5, upd_ne (net u1).1, upd_ne (net u1).2]; exact u1⟩
      cases wr with
      | fall bs =>
        obtain ⟨T1, T2, rfl, u1, u2⟩ := hw5
        refine ⟨_, rfl, T1, _, 0, .str "fall", rfl, rfl, SqT.of u1, atI_nat (j := 0) rfl, rfl, _, rfl, ?_⟩
        rw [ne_kind]
        refine iteF ⟨_, rfl, kd hf H5 sb5 ⟨⟨dx2, e1⟩, e2, e3, h4⟩⟩
      | erase b =>
        obtain ⟨T1, rfl, u1⟩ := hw5
        refine ⟨_, rfl, T1, _, 0, .str "erase", rfl, rfl, SqT.of u1, atI_nat (j := 0) rfl, rfl, _, rfl, ?_⟩
        rw [decide_eq_true (show V.str "erase" = V.str "erase" from rfl)]
        have hbl := df.era b rfl
        have hb1000 : b < 1000000 := by
          have q1 : b < (sizesM D.cur).length := of_decide_eq_true (writeM_form df.wf.ok)
          have q2 := df.fx.many
          unfold sizesM at q1
          rw [List.length_map] at q1
          omega
        refine iteT ⟨_, rfl, d, _, dx2, _, _, rfl, e1, T.cD, He.noat_ok T.f_nDr, rfl, _, rfl, T1, _, 1, .int (b : Int), rfl, rfl, SqT.of u1, atI_nat (j := 1) rfl, ?_⟩
        refine ⟨el, _, b, natV (D.er.getD b 0), rfl, rfl, SqL.of e3, get_natV hbl, hb1000, ?_⟩
        refine ⟨_, _, rfl, rfl, el, _, _, b, rfl, rfl, e3, ?_, ?_⟩
        · unfold ixN
          rw [List.length_map, if_pos (by omega), if_pos (by omega), Int.toNat_natCast]
        · refine ⟨_, rfl, kd hf _ (sb5.upd (by simp)) ⟨⟨dx2, by rw [upd_ne (Ne.symm nel)]; exact e1⟩, by rw [upd_ne h4]; exact e2, ?_, h4⟩⟩
          rw [upd_same]
          show some (HO.lst ((D.er.map natV).set b (natV (D.er.getD b 0 + 1)))) = some (HO.lst ((D.er.set b (D.er.getD b 0 + 1)).map natV))
          rw [List.map_set]
end
end FB

/-! ## FBLaw1 -/
set_option Elab.async false
set_option linter.all false
set_option maxRecDepth 100000
set_option maxHeartbeats 4000000
/-! The law's pen: where the draws stand; take. -/
namespace FB
open PySem PySem.Spec PyProof.Rows L2
def penKv (c : Addr) (t r f : Int) : List (Key × V) := [(.inr "cells", .ref c), (.inr "at", .int t), (.inr "rest", .int r), (.inr "fold", .int f)]
/-- at p: the pen's dict, at most n cells were taken -/
structure PenA (H : Hp) (p c : Addr) (n : Nat) : Prop where
  ex : ∃ (xs : List Int) (t : Nat) (r f : Int), H p = some (.dK (penKv c t r f)) ∧ H c = some (.lst (xs.map V.int)) ∧ xs.length ≤ 63 ∧ t ≤ n ∧ 0 ≤ r ∧ 0 ≤ f ∧ f < 2147483629
theorem PenA.mono {H : Hp} {p c : Addr} {n m : Nat} (h : PenA H p c n) (le : n ≤ m) : PenA H p c m := by
  obtain ⟨xs, t, r, f, a, b, l, k, q⟩ := h.ex
  exact ⟨⟨xs, t, r, f, a, b, l, Nat.le_trans k le, q⟩⟩
theorem PenA.but {S : List Addr} {H H' : Hp} {p c : Addr} {n : Nat} (h : PenA H p c n) (s : SBut S H H') (n1 : p ∉ S) (n2 : c ∉ S) : PenA H' p c n := by
  obtain ⟨xs, t, r, f, a, b, q⟩ := h.ex
  exact ⟨⟨xs, t, r, f, s _ _ n1 a, s _ _ n2 b, q⟩⟩
theorem PenA.same {H H' : Hp} {p c : Addr} {n : Nat} (h : PenA H p c n) (s : Same H H') : PenA H' p c n := h.but (S := []) (.of s) (fun h => nomatch h) (fun h => nomatch h)
theorem PenA.upd {H : Hp} {p c : Addr} {n : Nat} {b : Addr} {o : HO} (h : PenA H p c n) (n1 : p ≠ b) (n2 : c ≠ b) : PenA (L2.upd H b o) p c n := by
  obtain ⟨xs, t, r, f, a, d, q⟩ := h.ex
  exact ⟨⟨xs, t, r, f, by rw [upd_ne n1]; exact a, by rw [upd_ne n2]; exact d, q⟩⟩
theorem PenA.new {H : Hp} {p c : Addr} {n : Nat} {b : Addr} {o : HO} (h : PenA H p c n) (e : H b = none) : PenA (L2.upd H b o) p c n := by
  obtain ⟨xs, t, r, f, a, d, q⟩ := h.ex
  exact h.upd (ne_of_none a e) (ne_of_none d e)
theorem PenA.neP {H : Hp} {p c : Addr} {n : Nat} (h : PenA H p c n) {b : Addr} (e : H b = none) : p ≠ b := by
  obtain ⟨xs, t, r, f, a, d, q⟩ := h.ex
  exact ne_of_none a e
theorem PenA.neC {H : Hp} {p c : Addr} {n : Nat} (h : PenA H p c n) {b : Addr} (e : H b = none) : c ≠ b := by
  obtain ⟨xs, t, r, f, a, d, q⟩ := h.ex
  exact ne_of_none d e
theorem pv_cells (c : Addr) (t r f : Int) : valV (penKv c t r f) (.inr "cells") = some (.ref c) := rfl
theorem pv_at (c : Addr) (t r f : Int) : valV (penKv c t r f) (.inr "at") = some (.int t) := rfl
theorem pv_rest (c : Addr) (t r f : Int) : valV (penKv c t r f) (.inr "rest") = some (.int r) := rfl
theorem pv_fold (c : Addr) (t r f : Int) : valV (penKv c t r f) (.inr "fold") = some (.int f) := rfl
theorem pp_at (c : Addr) (t r f i : Int) : putK (penKv c t r f) (.inr "at") (.int i) = penKv c i r f := rfl
theorem pp_rest (c : Addr) (t r f i : Int) : putK (penKv c t r f) (.inr "rest") (.int i) = penKv c t i f := rfl
theorem pp_new (c : Addr) (t r f : Int) : mergeK [] (penKv c t r f) = penKv c t r f := rfl
theorem cut63 (ns : List Int) : cutV (ns.map V.int) none (some 63) = (ns.take 63).map V.int := by
  unfold cutV
  rw [HT.sIx_none, show (63 : Int) = ((63 : Nat) : Int) from rfl, HT.sIx_nat, List.drop_zero, Nat.sub_zero, List.map_take, List.length_map]
  by_cases h : 63 ≤ ns.length
  · rw [Nat.min_eq_left h]
  · rw [Nat.min_eq_right (by omega), List.take_of_length_le (by rw [List.length_map]; omega), List.take_of_length_le (by rw [List.length_map]; omega)]
section
variable {P : Program} {w : World} {K : PySem.W.Frag} {mg : Str → Option Value} {base : Heap}
def nPen : List Str := ["_law_script", "_law_fold", "_law_cell"]
def spPen (K : PySem.W.Frag) : Sp := fun vs H Q _ => ∃ (a : Addr) (ns : List Int), vs = [.ref a] ∧ SqL K H a (ns.map V.int) ∧ ∀ H' p c, Same H H' → H p = none → H c = none → PenA H' p c 0 → Q (.ref p) H'
theorem sc_pen : FnScope nPen ["_law_script"] (defScope sPen) := ⟨rfl, rfl, rfl, by decide +kernel, rfl, by decide +kernel, by decide +kernel⟩
theorem ok_pen (T : Txt K mg) : FnOk P w K mg base CX0 1 (a_l_pen K) (fdA K (a_l_pen K)) ["_law_script"] (spPen K) := by
  refine FunD.ok T.l_pen sc_pen (fun vs H Q E h => ?_) (fun cdv A outer s H vs Q E hr h => ?_)
  · obtain ⟨a, ns, rfl, _⟩ := h
    rfl
  · obtain ⟨a, ns, rfl, ha, k⟩ := h
    have nd := sc_pen.nd
    refine ⟨_, PSs.nox (pss_cons (ps_set (i := 1) nd rfl (.inl rfl) pe_int)
      (pss_cons (ps_for PassesOwn.never rfl (pi_list (pe_slice sl_list (pv 0) po_none (po_some pe_int))) (pg_name (i := 2) nd rfl (.inl rfl))
        (pss_one (ps_set (i := 1) nd rfl (.inl rfl) (pe_op op_mod (pe_callTy call_int1 (by rfl) T.b_int bt_int (pa_cons (pe_op op_add (pe_op op_add (pe_op op_mul (pv 1) pe_int) (pe_op op_mod (pe_callTy call_int1 (by rfl) T.b_int bt_int (pa_cons (pv 2) pa_nil)) pe_int)) pe_int) pa_nil)) pe_int))))
      (pss_one (ps_ret (pe_disp (pps_cons pe_str (pe_callTy call_list_of (by rfl) T.b_list bt_list (pa_cons (pe_slice sl_list (pv 0) po_none (po_some pe_int)) pa_nil)) (pps_cons pe_str pe_int (pps_cons pe_str pe_int (pps_cons pe_str (pv 1) pps_nil)))) rfl rfl (by simp) (by decide)))))), ?_⟩
    refine ⟨_, rfl, 63, rfl, a, _, rfl, ha, fun q hq => ?_⟩
    rw [cut63]
    refine ⟨q, rfl, ⟨_, SqL.of upd_same⟩, for_list (K := K) (a := q) (xs := (ns.take 63).map V.int) (fun _ σ H' => ∃ (f : Int) (v : Option V), 0 ≤ f ∧ f < 2147483629 ∧ σ = [some (.ref a), some (.int f), v] ∧ H' = upd H q (.lst ((ns.take 63).map V.int))) ?_ ?_ ?_ ?_⟩
    · exact ⟨97, none, by decide, by decide, rfl, rfl⟩
    · rintro i σ H' _ ⟨f, v, _, _, _, rfl⟩
      exact SqL.of upd_same
    · rintro i x σ H' hx ⟨f, v, f0, f1, rfl, rfl⟩
      rw [List.getElem?_map] at hx
      obtain ⟨n, hn, rfl⟩ := Option.map_eq_some_iff.mp hx
      have pos : (0 : Int) < 2147483629 := by decide
      refine ⟨_, rfl, f, 41203, rfl, rfl, .inl ⟨by omega, by omega⟩, _, rfl, .inl ⟨n, rfl, n, 2147483629, rfl, rfl, pos, _, _, rfl, rfl, _, 5, rfl, rfl, .inl ⟨_, rfl, _, 2147483629, rfl, rfl, pos, ?_⟩⟩⟩
      exact ⟨_, some (.int n), Int.emod_nonneg _ (by decide), Int.emod_lt_of_pos _ pos, rfl, rfl⟩
    · rintro σ H' ⟨f, v, f0, f1, rfl, rfl⟩
      have s1 : Same H (upd H q (.lst ((ns.take 63).map V.int))) := (Same.refl H).upd hq
      refine fun p hp => ⟨_, rfl, 63, rfl, a, _, rfl, (s1.upd hp).seq ha, fun l hl => ?_⟩
      rw [cut63]
      refine ⟨l, _, rfl, .inl (SqL.of upd_same), fun c hc => ?_⟩
      have hcp : c ≠ p := (ne_of_none (by rw [upd_ne (ne_of_none upd_same hl)]; exact upd_same) hc).symm
      have hp3 : (upd (upd (upd (upd H q (.lst ((ns.take 63).map V.int))) p (.dK [])) l (.lst ((ns.take 63).map V.int))) c (.lst ((ns.take 63).map V.int))) p = some (.dK []) := by
        rw [upd_ne (Ne.symm hcp), upd_ne (ne_of_none upd_same hl)]
        exact upd_same
      refine ⟨_, rfl, hp3, penKv c 0 0 f, rfl, by show 4 ≤ 15; decide, ?_⟩
      rw [pp_new]
      refine k _ _ c ((((s1.upd hp).upd hl).upd hc).updN (s1.free hp)) (s1.free hp) ((((s1.upd hp).upd hl)).free hc) ⟨⟨ns.take 63, 0, 0, f, upd_same, ?_, ?_, Nat.le_refl 0, by decide, f0, f1⟩⟩
      · rw [upd_ne hcp]
        exact upd_same
      · rw [List.length_take]
        omega
end
end FB

/-! ## FBLaw2 -/
set_option Elab.async false
set_option linter.all false
set_option maxRecDepth 100000
set_option maxHeartbeats 4000000
/-! take: a number below many. -/
namespace FB
open PySem PySem.Spec PyProof.Rows L2
section
variable {P : Program} {w : World} {K : PySem.W.Frag} {mg : Str → Option Value} {base : Heap}
def nTake : List Str := ["_law_pen_here", "_law_many", "_law_digit", "_law_at", "_law_cell", "_law_great", "_law_mixed"]
def spTake : Sp := fun vs H Q _ => ∃ (p c : Addr) (n m : Nat), vs = [.ref p, .int (m : Int)] ∧ PenA H p c n ∧ n ≤ 1000 ∧ 0 < m ∧ m ≤ 1000000 ∧ ∀ H' (r : Nat), r < m → SBut [p] H H' → PenA H' p c (n + 1) → Q (.int (r : Int)) H'
theorem sc_take : FnScope nTake ["_law_pen_here", "_law_many"] (defScope sTake) := ⟨rfl, rfl, rfl, by decide +kernel, rfl, by decide +kernel, by decide +kernel⟩
theorem low {i : Int} {m : Nat} (h : 0 < m) : ∃ r : Nat, r < m ∧ i % (m : Int) = (r : Int) := by
  have h1 := Int.emod_nonneg i (b := (m : Int)) (by omega)
  have h2 := Int.emod_lt_of_pos i (b := (m : Int)) (by omega)
  exact ⟨(i % (m : Int)).toNat, by omega, by omega⟩
theorem mixA {i f : Int} {t : Nat} (f0 : 0 ≤ f) (f1 : f < 2147483629) (ht : t ≤ 1000) : CPow (i % 2147483563 + f + 70001 * (t : Int)) 3 := ⟨by decide, by decide, by omega⟩
theorem mixB {i f : Int} {t : Nat} (f0 : 0 ≤ f) (f1 : f < 2147483629) (ht : t ≤ 1000) : CPow (i % 2147483647 + 30011 * (t : Int) * (t : Int) + f / 3) 3 := by
  have h1 : t * t ≤ 1000 * 1000 := Nat.mul_le_mul ht ht
  have h2 : (30011 : Int) * (t : Int) * (t : Int) = 30011 * ((t * t : Nat) : Int) := by
    rw [Int.mul_assoc, Int.natCast_mul]
  rw [h2]
  generalize t * t = q at h1
  exact ⟨by decide, by decide, by omega⟩
theorem great_nn (i : Int) : (0 : Int) ≤ 2 * (if i < 0 then -i else i) + (if decide (i < 0) = true then 1 else 0) := by
  by_cases h : i < 0
  · rw [if_pos h, decide_eq_true h, if_pos rfl]
    omega
  · rw [if_neg h, decide_eq_false h, if_neg Bool.false_ne_true]
    omega
theorem ok_take (T : Txt K mg) : FnOk P w K mg base CX0 1 (a_l_take K) (fdA K (a_l_take K)) ["_law_pen_here", "_law_many"] spTake := by
  refine FunD.ok T.l_take sc_take (fun vs H Q E h => ?_) (fun cdv A outer s H vs Q E hr h => ?_)
  · obtain ⟨p, c, n, m, rfl, _⟩ := h
    rfl
  · obtain ⟨p, c, n, m, rfl, hp, hn, m0, m1, k⟩ := h
    have nd := sc_take.nd
    have hu := hu_of hr
    refine ⟨_, PSs.nox (pss_cons (ps_if (pt_cmpR op_gt (pe_dget hu (pv 0) pe_str (fun _ _ => rfl)) pe_int (nomark _))
        (pss_cons (ps_set (i := 2) nd rfl (.inl rfl) (pe_op op_mod (pe_callTy call_int1 (by rfl) T.b_int bt_int (pa_cons (pe_dget hu (pv 0) pe_str (fun _ _ => rfl)) pa_nil)) (pv 1)))
        (pss_cons (ps_dput hu (pv 0) pe_str (pe_op op_fdiv (pe_callTy call_int1 (by rfl) T.b_int bt_int (pa_cons (pe_dget hu (pv 0) pe_str (fun _ _ => rfl)) pa_nil)) (pv 1)) rfl)
        (pss_one (ps_ret (pv 2))))) pss_nil)
      (pss_cons (ps_set (i := 3) nd rfl (.inl rfl) (pe_dget hu (pv 0) pe_str (fun _ _ => rfl)))
      (pss_cons (ps_dput hu (pv 0) pe_str (pe_op op_add (pv 3) pe_int) rfl)
      (pss_cons (ps_set (i := 4) nd rfl (.inl rfl) pe_int)
      (pss_cons (ps_if (pt_cmpR op_lt (pv 3) (pe_callB call_len_seq (by rfl) T.b_len PySem.boot_len (pa_cons (pe_dget hu (pv 0) pe_str (fun _ _ => rfl)) pa_nil)) (nomark _))
        (pss_one (ps_set (i := 4) nd rfl (.inl rfl) (pe_ix ix_list (pe_dget hu (pv 0) pe_str (fun _ _ => rfl)) (pv 3) (fun _ _ => rfl)))) pss_nil)
      (pss_cons (ps_if (pt_cmpR op_ge (pe_callB call_abs (by rfl) T.b_abs bt_abs (pa_cons (pv 4) pa_nil)) (pe_op op_pow pe_int pe_int) (nomark _))
        (pss_cons (ps_set (i := 5) nd rfl (.inl rfl) (pe_op op_add (pe_op op_mul pe_int (pe_callB call_abs (by rfl) T.b_abs bt_abs (pa_cons (pv 4) pa_nil))) (pe_callTy call_int1 (by rfl) T.b_int bt_int (pa_cons (pe_cmpR op_lt (pv 4) pe_int (nomark _)) pa_nil))))
        (pss_cons (ps_dput hu (pv 0) pe_str (pe_op op_fdiv (pe_callTy call_int1 (by rfl) T.b_int bt_int (pa_cons (pv 5) pa_nil)) (pv 1)) rfl)
        (pss_one (ps_ret (pe_op op_mod (pe_callTy call_int1 (by rfl) T.b_int bt_int (pa_cons (pv 5) pa_nil)) (pv 1)))))) pss_nil)
      (pss_cons (ps_set (i := 6) nd rfl (.inl rfl) (pe_op op_mod (pe_callTy call_int1 (by rfl) T.b_int bt_int (pa_cons (pe_op op_pow (pe_op op_add (pe_op op_add (pe_op op_mod (pe_callTy call_int1 (by rfl) T.b_int bt_int (pa_cons (pv 4) pa_nil)) pe_int) (pe_callTy call_int1 (by rfl) T.b_int bt_int (pa_cons (pe_dget hu (pv 0) pe_str (fun _ _ => rfl)) pa_nil))) (pe_op op_mul pe_int (pv 3))) pe_int) pa_nil)) pe_int))
      (pss_cons (ps_set (i := 6) nd rfl (.inl rfl) (pe_op op_mod (pe_callTy call_int1 (by rfl) T.b_int bt_int (pa_cons (pe_op op_pow (pe_op op_add (pe_op op_add (pv 6) (pe_op op_mul (pe_op op_mul pe_int (pv 3)) (pv 3))) (pe_op op_fdiv (pe_callTy call_int1 (by rfl) T.b_int bt_int (pa_cons (pe_dget hu (pv 0) pe_str (fun _ _ => rfl)) pa_nil)) pe_int)) pe_int) pa_nil)) pe_int))
      (pss_one (ps_ret (pe_op op_mod (pe_callTy call_int1 (by rfl) T.b_int bt_int (pa_cons (pe_op op_fdiv (pv 6) pe_int) pa_nil)) (pv 1)))))))))))), ?_⟩
    obtain ⟨xs, t, r, f, hp1, hc, hl, ht, r0, f0, f1⟩ := hp.ex
    have ncp : c ≠ p := fun q => by rw [q, hp1] at hc; cases hc
    have pm : (0 : Int) < (m : Int) := by omega
    have pen : ∀ (t' : Nat) (r' : Int) (H' : Hp), t' ≤ n + 1 → 0 ≤ r' → H' = upd H p (.dK (penKv c (t' : Int) r' f)) → SBut [p] H H' ∧ PenA H' p c (n + 1) := fun t' r' H' h1 h2 e => by
      rw [e]
      exact ⟨SBut.upd SBut.refl (List.mem_singleton.mpr rfl), ⟨⟨xs, t', r', f, upd_same, by rw [upd_ne ncp]; exact hc, hl, h1, h2, f0, f1⟩⟩⟩
    have fin : ∀ (i : Int) (H' : Hp), SBut [p] H H' ∧ PenA H' p c (n + 1) → Q (.int (i % (m : Int))) H' := fun i H' h => by
      obtain ⟨d, d1, d2⟩ := low (i := i) m0
      rw [d2]
      exact k H' d d1 h.1 h.2
    refine ⟨_, rfl, p, _, rfl, DGet.k (k := .inr "rest") hp1, r, 0, rfl, rfl, _, rfl, ?_⟩
    by_cases hr0 : 0 < r
    · rw [decide_eq_true hr0]
      refine iteT ⟨_, rfl, p, _, rfl, DGet.k (k := .inr "rest") hp1, .inl ⟨r, rfl, _, rfl, r, m, rfl, rfl, pm, ?_⟩⟩
      refine ⟨_, rfl, p, _, rfl, DGet.k (k := .inr "rest") hp1, .inl ⟨r, rfl, _, rfl, r, m, rfl, rfl, ⟨pm, by omega⟩, ?_⟩⟩
      obtain ⟨g1, g2⟩ := pen t (r / (m : Int)) _ (by omega) (Int.ediv_nonneg r0 (by omega)) rfl
      refine ⟨_, rfl, p, _, rfl, DPut.k (k := .inr "rest") hp1 (by show 4 < 16777216; decide), _, rfl, ?_⟩
      exact fin _ _ ⟨g1, g2⟩
    · rw [decide_eq_false hr0]
      refine iteF ?_
      refine ⟨_, rfl, p, _, rfl, DGet.k (k := .inr "at") hp1, _, rfl, t, 1, rfl, rfl, _, rfl, p, _, rfl, DPut.k (k := .inr "at") hp1 (by show 4 < 16777216; decide), ?_⟩
      rw [pp_at]
      obtain ⟨g1, g2⟩ := pen (t + 1) r _ (by omega) r0 rfl
      have hp2 : (upd H p (.dK (penKv c ((t : Int) + 1) r f))) p = some (.dK (penKv c ((t : Int) + 1) r f)) := upd_same
      have hc2 : (upd H p (.dK (penKv c ((t : Int) + 1) r f))) c = some (.lst (xs.map V.int)) := by rw [upd_ne ncp]; exact hc
      refine ⟨_, rfl, _, rfl, p, _, rfl, DGet.k (k := .inr "cells") hp2, c, _, rfl, .inl (SqL.of hc2), t, _, rfl, rfl, _, rfl, ite2 (fun hlt => ?_) (fun _ => ?_)⟩
      case' neg.refine_1 =>
        have hlt2 : t < xs.length := by
          have := of_decide_eq_true hlt
          rw [List.length_map] at this
          omega
        have hx : (xs.map V.int)[t]? = some (.int xs[t]) := by
          rw [List.getElem?_map, List.getElem?_eq_getElem hlt2]
          rfl
        refine ⟨_, rfl, p, _, rfl, DGet.k (k := .inr "cells") hp2, _, rfl, c, _, t, .int xs[t], rfl, rfl, SqL.of hc2, atI_nat hx, ?_⟩
      all_goals
        have b64 : -(2 ^ 64) < (70001 : Int) ∧ (70001 : Int) < 2 ^ 64 := by decide
        have b65 : -(2 ^ 64) < (30011 : Int) ∧ (30011 : Int) < 2 ^ 64 := by decide
        have b66 : -(2 ^ 64) < (t : Int) ∧ (t : Int) < 2 ^ 64 := by omega
        have q1 : (0 : Int) < 2147483563 := by decide
        have q2 : (0 : Int) < 2147483647 := by decide
        have q3 : (0 : Int) < 2147483587 := by decide
        have q4 : (0 : Int) < 3 ∧ (3 : Int) < 1073741824 := by decide
        have q5 : (0 : Int) < 64 ∧ (64 : Int) < 1073741824 := by decide
        refine ⟨_, rfl, _, rfl, 10, 18, rfl, rfl, ⟨by decide, by decide, by decide⟩, _, _, rfl, rfl, _, rfl, ite2 (fun _ => ?_) (fun _ => ?_)⟩
        · refine ⟨_, rfl, _, rfl, _, _, rfl, rfl, .inl ⟨by decide, by decide⟩, _, rfl, _, _, rfl, rfl, .inr ⟨_, rfl, _, _, rfl, rfl, ?_⟩⟩
          refine ⟨_, rfl, .inl ⟨_, rfl, _, rfl, _, m, rfl, rfl, ⟨pm, by omega⟩, _, rfl, p, _, rfl, DPut.k (k := .inr "rest") hp2 (by show 4 < 16777216; decide), _, rfl, .inl ⟨_, rfl, _, rfl, _, m, rfl, rfl, pm, ?_⟩⟩⟩
          refine fin _ _ ?_
          rw [pp_rest, upd_upd]
          exact pen (t + 1) _ _ (by omega) (Int.ediv_nonneg (great_nn _) (by omega)) rfl
        · refine ⟨_, rfl, .inl ⟨_, rfl, _, 2147483563, rfl, rfl, q1, _, rfl, p, _, rfl, DGet.k (k := .inr "fold") hp2, .inl ⟨f, rfl, _, _, rfl, rfl, _, rfl, 70001, t, rfl, rfl, .inl b64, _, _, rfl, rfl, _, 3, rfl, rfl, mixA f0 f1 (by omega), .inl ⟨_, rfl, _, 2147483647, rfl, rfl, q2, ?_⟩⟩⟩⟩
          refine ⟨_, rfl, _, rfl, 30011, t, rfl, rfl, .inl b65, _, rfl, _, t, rfl, rfl, .inr b66, _, _, rfl, rfl, _, rfl, p, _, rfl, DGet.k (k := .inr "fold") hp2, .inl ⟨f, rfl, f, 3, rfl, rfl, q4, _, _, rfl, rfl, _, 3, rfl, rfl, mixB f0 f1 (by omega), .inl ⟨_, rfl, _, 2147483587, rfl, rfl, q3, ?_⟩⟩⟩
          refine ⟨_, rfl, _, 64, rfl, rfl, q5, .inl ⟨_, rfl, _, rfl, _, m, rfl, rfl, pm, fin _ _ ⟨g1, g2⟩⟩⟩
end
end FB

/-! ## FBLaw3 -/
set_option Elab.async false
set_option linter.all false
set_option maxRecDepth 100000
set_option maxHeartbeats 4000000
/-! The drawn sizes and patterns. -/
namespace FB
open PySem PySem.Spec PyProof.Rows L2
theorem SBut.updF {S : List Addr} {H H' : Hp} {p : Addr} {o : HO} (s : SBut S H H') (h : H p = none) : SBut S H (L2.upd H' p o) := fun b u n q => by
  rw [upd_ne (ne_of_none q h)]
  exact s b u n q
section
variable {P : Program} {w : World} {K : PySem.W.Frag} {mg : Str → Option Value} {base : Heap}
def nSizes : List Str := ["_law_pen_here", "_law_most", "_law_k"]
def spSizes : Sp := fun vs H Q _ => ∃ (p c : Addr) (n m : Nat), vs = [.ref p, .int (m : Int)] ∧ PenA H p c n ∧ n ≤ 900 ∧ 0 < m ∧ m ≤ 1000 ∧
  ∀ H' l (ss : List Nat), SBut [p] H H' → PenA H' p c (n + 4) → H' l = some (.lst (ss.map natV)) → ss ≠ [] → ss.length ≤ 3 → (∀ s ∈ ss, 1 ≤ s ∧ s ≤ m) → Q (.ref l) H'
theorem sc_sizes : FnScope nSizes ["_law_pen_here", "_law_most"] (defScope sSizes) := ⟨rfl, rfl, rfl, by decide +kernel, rfl, by decide +kernel, by decide +kernel⟩
theorem ok_sizes (T : Txt K mg) : FnOk P w K mg base CX0 2 (a_l_sizes K) (fdA K (a_l_sizes K)) ["_law_pen_here", "_law_most"] spSizes := by
  refine FunD.ok T.l_sizes sc_sizes (fun vs H Q E h => ?_) (fun cdv A outer s H vs Q E hr h => ?_)
  · obtain ⟨p, c, n, m, rfl, _⟩ := h
    rfl
  · obtain ⟨p, c, n, m, rfl, hp, hn, m0, m1, k⟩ := h
    have nd := sc_sizes.nd
    have GT := ok_take (P := P) (w := w) (base := base) T
    refine ⟨_, PSs.nox (pss_one (ps_ret (pe_lc (own := [("_law_k", 2)]) (g := gName 2) (tt := tYes) rfl nd
      (pi_range1 (by rfl) T.b_range (pa_cons (pe_op op_add pe_int (pe_call GT hr (by rfl) T.g_l_take T.l_take.kp T.n_l_take .nil pass0 (pa_cons (pv 0) (pa_cons pe_int pa_nil)))) pa_nil))
      (blkOk_by (N := nSizes) (sc := defScope sSizes) (by decide +kernel)) (fun _ _ _ _ _ => pg_name (i := 2) nd rfl (.inl rfl)) (fun _ _ _ _ _ => pts_nil)
      (fun _ _ _ _ _ => pe_op op_add pe_int (pe_call GT hr (by rfl) T.g_l_take T.l_take.kp T.n_l_take .nil pass0 (pa_cons (pv 0) (pa_cons (pv 1) pa_nil))))))), ?_⟩
    refine ⟨_, rfl, p, c, n, 3, rfl, hp, by omega, by decide, by decide, fun H1 r hr1 s1 hp1 => ?_⟩
    refine ⟨1, _, rfl, rfl, _, rfl, by omega, by omega, fun D hD => lc_range (lo := 0) (n := 1 + r) (fun i H' => ∃ ss : List Nat, SBut [p] H H' ∧ PenA H' p c (n + 1 + i) ∧ H' D = some (.lst (ss.map natV)) ∧ ss.length = i ∧ ∀ s ∈ ss, 1 ≤ s ∧ s ≤ m) ?_ ?_ ?_⟩
    · exact ⟨[], s1.updN hD, hp1.new hD, upd_same, rfl, fun s hs => nomatch hs⟩
    · rintro i H' hi ⟨ss, sb, pa, hd, hl, hall⟩
      have nDp : D ∉ [p] := fun e => hp1.neP hD (List.mem_singleton.mp e).symm
      refine ⟨rfl, _, rfl, _, rfl, p, c, n + 1 + i, m, rfl, pa, by omega, m0, by omega, fun H2 d hd1 s2 hp2 => ⟨1, d, rfl, rfl, _, s2 _ _ nDp hd, ?_, ss ++ [1 + d], ?_, ?_, ?_, ?_, ?_⟩⟩
      · rw [List.length_map, sizeLine_eq]
        omega
      · exact (sb.trans s2).updF (by
          cases q : H D with
          | none => rfl
          | some o =>
            have q1 := s1 D o nDp q
            rw [hD] at q1
            cases q1)
      · exact hp2.upd (hp1.neP hD) (hp1.neC hD)
      · rw [upd_same, List.map_append]
        rfl
      · rw [List.length_append, List.length_singleton, hl]
      · intro s hs
        rcases List.mem_append.mp hs with hs | hs
        · exact hall s hs
        · rw [List.mem_singleton.mp hs]
          omega
    · rintro H' ⟨ss, sb, pa, hd, hl, hall⟩
      exact k H' D ss sb (pa.mono (by omega)) hd (fun e => by rw [e] at hl; rw [List.length_nil] at hl; omega) (by omega) hall
end
end FB

/-! ## FBLaw4 -/
set_option Elab.async false
set_option linter.all false
set_option maxRecDepth 100000
set_option maxHeartbeats 4000000
/-! The drawn pattern. -/
namespace FB
open PySem PySem.Spec PyProof.Rows L2
theorem fold_codes (sep : Str) : ∀ (r : List Str) (acc : Array Nat), (r.foldl (fun acc p => acc ++ sep.cps ++ p.cps) acc).toList = acc.toList ++ r.flatMap fun p => codes sep ++ codes p
  | [], acc => by simp
  | p :: r, acc => by
    rw [List.foldl_cons, fold_codes sep r, List.flatMap_cons]
    simp [codes, List.append_assoc]
theorem codes_join (sep x : Str) (r : List Str) : codes (Txt.join sep (x :: r)) = codes x ++ r.flatMap fun p => codes sep ++ codes p := fold_codes sep r x.cps
theorem codes_nil : codes ("" : Str) = [] := by decide +kernel
theorem codes_dot : codes ("." : Str) = [46] := by decide +kernel
theorem codes_join0 (xs : List Str) : codes (Txt.join "" xs) = xs.flatMap codes := by
  cases xs with
  | nil => decide +kernel
  | cons x r =>
    rw [codes_join, codes_nil, List.flatMap_cons]
    rfl
theorem flat_ones : ∀ {ys : List Str}, (∀ y ∈ ys, codes y = [48] ∨ codes y = [49]) → (ys.flatMap codes).length = ys.length ∧ (ys.flatMap codes).all (fun c => c == 48 || c == 49) = true
  | [], _ => ⟨rfl, rfl⟩
  | y :: r, h => by
    obtain ⟨h1, h2⟩ := flat_ones (ys := r) fun z hz => h z (List.mem_cons_of_mem _ hz)
    rw [List.flatMap_cons, List.length_append, List.all_append, h1, h2, List.length_cons]
    rcases h y List.mem_cons_self with e | e <;> rw [e] <;> exact ⟨by simp; omega, rfl⟩
theorem okB_join {ys : List Str} (h : ∀ y ∈ ys, codes y = [48] ∨ codes y = [49]) (h1 : 1 ≤ ys.length) (h2 : ys.length ≤ 3) : okB (codes (Txt.join "" ys)) = true := by
  obtain ⟨e1, e2⟩ := flat_ones h
  rw [codes_join0]
  unfold okB
  rw [e1, e2, Bool.and_true, Nat.ble_eq.mpr h1, Nat.ble_eq.mpr h2]
  rfl
theorem okB_no {b : List Nat} (h : okB b = true) : ∀ c ∈ b, (c != 46) = true := by
  intro c hc
  unfold okB at h
  have q := List.all_eq_true.mp (Bool.and_eq_true_iff.mp h).2 c hc
  have q2 : c = 48 ∨ c = 49 := by simpa using q
  rcases q2 with rfl | rfl <;> rfl
theorem take_all {p : Nat → Bool} : ∀ {l : List Nat} (r : List Nat), (∀ c ∈ l, p c = true) → (l ++ r).takeWhile p = l ++ r.takeWhile p ∧ (l ++ r).dropWhile p = r.dropWhile p
  | [], r, _ => ⟨rfl, rfl⟩
  | a :: l, r, h => by
    obtain ⟨h1, h2⟩ := take_all (l := l) r fun c hc => h c (List.mem_cons_of_mem _ hc)
    have ha := h a List.mem_cons_self
    rw [List.cons_append, List.takeWhile_cons, List.dropWhile_cons, ha, if_pos rfl, if_pos rfl, h1, h2]
    exact ⟨rfl, rfl⟩
theorem pat_join {xs : List Str} (h : ∀ x ∈ xs, okB (codes x) = true) (h1 : xs ≠ []) (h2 : xs.length ≤ 2) : Pat (Txt.join "." xs) := by
  match xs, h1, h2, h with
  | [a], _, _, h =>
    have ha := h a List.mem_cons_self
    unfold Pat isPatL blocksL
    rw [codes_join, List.flatMap_nil]
    obtain ⟨e1, e2⟩ := take_all (p := (· != 46)) [] (okB_no ha)
    rw [e1, e2]
    show okB (codes a ++ []) = true
    rw [List.append_nil]
    exact ha
  | [a, b], _, _, h =>
    have ha := h a List.mem_cons_self
    have hb := h b (List.mem_cons_of_mem _ List.mem_cons_self)
    unfold Pat isPatL blocksL
    rw [codes_join, List.flatMap_cons, List.flatMap_nil, codes_dot, List.append_nil]
    obtain ⟨e1, e2⟩ := take_all (p := (· != 46)) ([46] ++ codes b) (okB_no ha)
    rw [e1, e2]
    show (okB (codes a ++ []) && okB (codes b)) = true
    rw [List.append_nil, ha, hb]
    rfl
section
variable {X : Cx} {o e : Expr} {to te : TE}
theorem pe_joinK {K : PySem.W.Frag} {apos pos : Pos} (hK : X.K = K) (ho : PE X o to) (he : PE X e te) (hs : starEach [e] X.env = [(false, eval e X.env)] := by rfl) (hbase : attributeBase o "join" X.env (eval o X.env) = eval o X.env := by rfl) (hline : (apos.endLine == pos.line) = true := by rfl) :
    PE X (.Call (.Attribute o "join" apos) [e] [] pos) (tM1 (fun x xs H Q => ∃ a p, ∃ ys : List Str, x = .str a ∧ xs = [.ref p] ∧ (SqL K H p (ys.map V.str) ∨ SqT K H p (ys.map V.str)) ∧ (ys.map (·.length)).sum + ys.length * a.length ≤ 16777216 ∧ Q (.str (Txt.join a ys)) H) to te) := by
  subst hK
  exact pe_join ho he hs hbase hline
end
section
variable {P : Program} {w : World} {K : PySem.W.Frag} {mg : Str → Option Value} {base : Heap}
def nDrawn : List Str := ["_law_pen_here", "_law_sizes_here", "_law_size", "_law_bit"]
def spDrawn : Sp := fun vs H Q _ => ∃ (p c l : Addr) (n : Nat) (ss : List Nat), vs = [.ref p, .ref l] ∧ PenA H p c n ∧ n ≤ 900 ∧ H l = some (.lst (ss.map natV)) ∧ ss ≠ [] ∧ ss.length ≤ 2 ∧ (∀ s ∈ ss, 1 ≤ s ∧ s ≤ 3) ∧
  ∀ H' x, SBut [p] H H' → PenA H' p c (n + 6) → Pat x → Q (.str x) H'
theorem sc_drawn : FnScope nDrawn ["_law_pen_here", "_law_sizes_here"] (defScope sDrawn) := ⟨rfl, rfl, rfl, by decide +kernel, rfl, by decide +kernel, by decide +kernel⟩
def scDrawn1 : Scope := { kind := .function, names := [(".0", .local), ("_law_size", .local), ("range", .globalImplicit), ("_law_pen_here", .cell)], isGenerator := false, isCoroutine := false, more := [] }
theorem ok_drawn (T : Txt K mg) : FnOk P w K mg base CX0 2 (a_l_drawn K) (fdA K (a_l_drawn K)) ["_law_pen_here", "_law_sizes_here"] spDrawn := by
  refine FunD.ok T.l_drawn sc_drawn (fun vs H Q E h => ?_) (fun cdv A outer s H vs Q E hr h => ?_)
  · obtain ⟨p, c, l, n, ss, rfl, _⟩ := h
    rfl
  · obtain ⟨p, c, l, n, ss, rfl, hp, hn, hl, hne, hlen, hall, k⟩ := h
    have nd := sc_drawn.nd
    have GT := ok_take (P := P) (w := w) (base := base) T
    refine ⟨_, PSs.nox (pss_one (ps_ret (pe_join pe_str (pe_lc (own := [("_law_size", 2)]) (g := gName 2) (tt := tYes) rfl nd (pi_list (pv 1)) (blkOk_by (N := nDrawn) (sc := defScope sDrawn) (by decide +kernel))
      (fun _ _ _ _ _ => pg_name (i := 2) nd rfl (.inl rfl)) (fun _ _ _ _ _ => pts_nil)
      (fun _ _ _ _ _ => pe_joinK (K := K) rfl pe_str (pe_lc (own := [("_law_bit", 3)]) (g := gName 3) (tt := tYes) rfl nd (pi_range1 (by rfl) T.b_range (pa_cons (pv 2) pa_nil)) (blkOk_by (N := nDrawn) (sc := scDrawn1) (by decide +kernel))
        (fun _ _ _ _ _ => pg_name (i := 3) nd rfl (.inl rfl)) (fun _ _ _ _ _ => pts_nil)
        (fun _ _ _ _ _ => pe_ix ix_str pe_str (pe_call GT hr (by rfl) T.g_l_take T.l_take.kp T.n_l_take .nil pass0 (pa_cons (pv 0) (pa_cons pe_int pa_nil))) (fun _ _ => rfl)))))))), ?_⟩
    have npl : l ≠ p := fun q => by
      obtain ⟨xs, t, r, f, a1, _⟩ := hp.ex
      rw [q, a1] at hl
      cases hl
    refine ⟨⟨_, rfl⟩, _, rfl, l, rfl, ⟨_, SqL.of hl⟩, fun D hD => lc_list (K := K) (a := l) (xs := ss.map natV) (fun i H' => ∃ xs : List Str, SBut [p] H H' ∧ PenA H' p c (n + 3 * i) ∧ H' D = some (.lst (xs.map V.str)) ∧ xs.length = i ∧ ∀ x ∈ xs, okB (codes x) = true) ?_ ?_ ?_ ?_⟩
    · exact ⟨[], SBut.refl.updF hD, hp.new hD, upd_same, rfl, fun s hs => nomatch hs⟩
    · rintro i H' _ ⟨xs, sb, _⟩
      exact SqL.of (sb _ _ (fun e => npl (List.mem_singleton.mp e)) hl)
    · rintro i x H' hx ⟨xs, sb, pa, hd, hxl, hok⟩
      obtain ⟨b, hb, rfl⟩ := get_nat hx
      obtain ⟨b1, b3⟩ := hall b (List.mem_of_getElem? hb)
      have hi : i < ss.length := (List.getElem?_eq_some_iff.mp hb).1
      refine ⟨rfl, ⟨_, rfl⟩, _, rfl, b, rfl, by omega, by omega, fun D2 hD2 => lc_range (lo := 0) (n := b) (fun j H2 => ∃ ys : List Str, SBut [p] H' H2 ∧ PenA H2 p c (n + 3 * i + j) ∧ H2 D2 = some (.lst (ys.map V.str)) ∧ ys.length = j ∧ ∀ y ∈ ys, codes y = [48] ∨ codes y = [49]) ?_ ?_ ?_⟩
      · exact ⟨[], SBut.refl.updF hD2, pa.new hD2, upd_same, rfl, fun s hs => nomatch hs⟩
      · rintro j H2 hj ⟨ys, sb2, pa2, hd2, hyl, hok2⟩
        have nD2 : D2 ∉ [p] := fun e => pa.neP hD2 (List.mem_singleton.mp e).symm
        refine ⟨rfl, _, rfl, p, c, n + 3 * i + j, 2, rfl, pa2, by omega, by decide, by decide, fun H3 d hd3 s3 hp3 => ?_⟩
        refine ⟨"01", d, if d = 0 then 48 else 49, rfl, rfl, by decide, ?_, _, s3 _ _ nD2 hd2, ?_, ys ++ [⟨#[if d = 0 then 48 else 49]⟩], ?_, ?_, ?_, ?_, ?_⟩
        · refine atI_nat ?_
          match d, hd3 with
          | 0, _ => decide +kernel
          | 1, _ => decide +kernel
        · rw [List.length_map, sizeLine_eq]
          omega
        · exact (sb2.trans s3).updF hD2
        · exact hp3.upd (pa.neP hD2) (pa.neC hD2)
        · rw [upd_same, List.map_append]
          rfl
        · rw [List.length_append, List.length_singleton, hyl]
        · intro y hy
          rcases List.mem_append.mp hy with hy | hy
          · exact hok2 y hy
          · rw [List.mem_singleton.mp hy]
            by_cases h0 : d = 0
            · rw [if_pos h0]
              exact .inl rfl
            · rw [if_neg h0]
              exact .inr rfl
      · rintro H2 ⟨ys, sb2, pa2, hd2, hyl, hok2⟩
        have sum1 : (ys.map (·.length)).sum = ys.length := by
          clear hyl hd2
          induction ys with
          | nil => rfl
          | cons y r ih =>
            rw [List.map_cons, List.sum_cons, ih fun z hz => hok2 z (List.mem_cons_of_mem _ hz), List.length_cons]
            have e : y.length = 1 := by
              have q := hok2 y List.mem_cons_self
              show y.cps.size = 1
              rw [← Array.length_toList]
              rcases q with q | q <;> rw [show y.cps.toList = _ from q] <;> rfl
            omega
        refine ⟨"", D2, ys, rfl, rfl, .inl (SqL.of hd2), ?_, ?_⟩
        · rw [sum1, hyl, show ("" : Str).length = 0 from rfl, Nat.mul_zero]
          omega
        have nD : D ∉ [p] := fun e => hp.neP hD (List.mem_singleton.mp e).symm
        refine ⟨_, sb2 _ _ nD hd, ?_, xs ++ [Txt.join "" ys], ?_, ?_, ?_, ?_, ?_⟩
        · rw [List.length_map, sizeLine_eq]
          omega
        · exact (sb.trans sb2).updF hD
        · exact (pa2.upd (hp.neP hD) (hp.neC hD)).mono (by omega)
        · rw [upd_same, List.map_append]
          rfl
        · rw [List.length_append, List.length_singleton, hxl]
        · intro y hy
          rcases List.mem_append.mp hy with hy | hy
          · exact hok y hy
          · rw [List.mem_singleton.mp hy]
            exact okB_join hok2 (by omega) (by omega)
    · rintro H' ⟨xs, sb, pa, hd, hxl, hok⟩
      rw [List.length_map] at pa hxl
      have lens : ∀ x ∈ xs, x.length ≤ 3 := fun x hx => by
        have q := hok x hx
        unfold okB at q
        have q2 := (Bool.and_eq_true_iff.mp (Bool.and_eq_true_iff.mp q).1).2
        show x.cps.size ≤ 3
        rw [← Array.length_toList]
        exact Nat.le_of_ble_eq_true q2
      refine ⟨".", D, xs, rfl, rfl, .inl (SqL.of hd), ?_, k H' _ sb (pa.mono (by omega)) (pat_join hok (fun e => ?_) (by omega))⟩
      · rw [show (".":Str).length = 1 from by decide +kernel]
        match xs, hxl, lens with
        | [], _, _ => decide
        | [a], _, h =>
          have := h a List.mem_cons_self
          show (a.length + 0) + 1 * 1 ≤ _
          omega
        | [a, b], _, h =>
          have := h a List.mem_cons_self
          have := h b (List.mem_cons_of_mem _ List.mem_cons_self)
          show (a.length + (b.length + 0)) + 2 * 1 ≤ _
          omega
        | a :: b :: d :: r, e, _ =>
          rw [List.length_cons, List.length_cons, List.length_cons] at e
          omega
      · rw [e] at hxl
        exact hne (List.length_eq_zero_iff.mp hxl.symm)
end
end FB

/-! ## FBLaw5 -/
set_option Elab.async false
set_option linter.all false
set_option maxRecDepth 100000
set_option maxHeartbeats 4000000
/-! The plain side: what holds of each drawn pattern and each of its writes. -/
namespace FB
open PySem PySem.Spec PyProof.Rows L2
theorem mk_length (l : List Nat) : (mk l).length = l.length := by
  show (mk l).cps.size = _
  rw [← Array.length_toList]
  exact congrArg List.length (codes_mk l)
theorem isPat_cases {l : List Nat} (h : isPatL l = true) : (∃ a, blocksL l = [a] ∧ okB a = true) ∨ ∃ a b, blocksL l = [a, b] ∧ okB a = true ∧ okB b = true := by
  unfold isPatL at h
  match e : blocksL l with
  | [] => rw [e] at h; cases h
  | [a] => rw [e] at h; exact .inl ⟨a, rfl, h⟩
  | [a, b] =>
    rw [e] at h
    exact .inr ⟨a, b, rfl, Bool.and_eq_true_iff.mp h⟩
  | a :: b :: c :: r => rw [e] at h; cases h
theorem okB_len {b : List Nat} (h : okB b = true) : 1 ≤ b.length ∧ b.length ≤ 3 := by
  unfold okB at h
  obtain ⟨h1, h2⟩ := Bool.and_eq_true_iff.mp (Bool.and_eq_true_iff.mp h).1
  exact ⟨Nat.le_of_ble_eq_true h1, Nat.le_of_ble_eq_true h2⟩
theorem pat_blocks {l : List Nat} (h : isPatL l = true) : (blocksL l).length ≤ 2 ∧ ∀ b ∈ blocksL l, okB b = true := by
  rcases isPat_cases h with ⟨a, e, ha⟩ | ⟨a, b, e, ha, hb⟩
  · rw [e]
    exact ⟨Nat.le_succ 1, fun c hc => by rw [List.mem_singleton.mp hc]; exact ha⟩
  · rw [e]
    refine ⟨Nat.le_refl 2, fun c hc => ?_⟩
    rcases List.mem_cons.mp hc with e | hc
    · rw [e]; exact ha
    · rw [List.mem_singleton.mp hc]; exact hb
theorem pats_small : patsL.all (fun l => Nat.ble l.length 7 && Nat.ble (sizesM (mk l)).sum (placesM (mk l)).length) = true := by decide +kernel
theorem Pat.sz {x : Str} (h : Pat x) : sz x ≤ 7 := by
  have q := List.all_eq_true.mp pats_small _ (pat_mem h)
  exact Nat.le_of_ble_eq_true (Bool.and_eq_true_iff.mp q).1
theorem Pat.sum {x : Str} (h : Pat x) : (sizesM x).sum ≤ (placesM x).length := by
  have q := List.all_eq_true.mp pats_small _ (pat_mem h)
  have r := Nat.le_of_ble_eq_true (Bool.and_eq_true_iff.mp q).2
  rw [mk_codes] at r
  exact r
theorem Pat.fx {x : Str} (h : Pat x) : okM x = true ∧ blocksOf x = (blocksL (codes x)).map mk ∧ singleM x ≠ [] ∧ (∀ w ∈ singleM x, w ∈ allM x) ∧ ∀ w ∈ allM x, factW x w = true := by
  have q := h.fact
  unfold factX at q
  rw [mk_codes] at q
  obtain ⟨q1, q⟩ := Bool.and_eq_true_iff.mp q
  obtain ⟨q2, q⟩ := Bool.and_eq_true_iff.mp q
  obtain ⟨q3, q⟩ := Bool.and_eq_true_iff.mp q
  obtain ⟨q4, q5⟩ := Bool.and_eq_true_iff.mp q
  refine ⟨q1, of_decide_eq_true q2, fun e => ?_, fun w hw => ?_, fun w hw => List.all_eq_true.mp q5 w hw⟩
  · rw [e] at q3
    cases q3
  · have r := List.all_eq_true.mp q4 w hw
    exact List.contains_iff_mem.mp r
theorem Pat.sizes {x : Str} (h : Pat x) : sizesM x = (blocksL (codes x)).map (·.length) := by
  unfold sizesM
  rw [h.fx.2.1, List.map_map]
  exact List.map_congr_left fun a _ => mk_length a
theorem Pat.fit {x : Str} (h : Pat x) : Fit x := by
  obtain ⟨h1, h2, _⟩ := h.fx
  obtain ⟨b1, b2⟩ := pat_blocks h
  refine ⟨h1, Nat.le_trans h.sz (by decide), ?_, fun b hb => ?_⟩
  · rw [h2, List.length_map]
    exact Nat.le_trans b1 (by decide)
  · rw [h2] at hb
    obtain ⟨a, ha, rfl⟩ := List.mem_map.mp hb
    rw [mk_length]
    exact Nat.le_trans (okB_len (b2 a ha)).2 (by decide)
theorem chs_len : ∀ (l : List Nat), (choicesM l).length + 1 = 2 ^ l.length ∧ ∀ c ∈ choicesM l, c.length ≤ l.length
  | [] => ⟨rfl, fun c hc => nomatch hc⟩
  | b :: r => by
    obtain ⟨h1, h2⟩ := chs_len r
    constructor
    · show (([b] :: ((choicesM r).map (b :: ·) ++ choicesM r)).length) + 1 = 2 ^ (r.length + 1)
      rw [List.length_cons, List.length_append, List.length_map, Nat.pow_succ]
      omega
    · intro c hc
      have hc2 : c ∈ [b] :: ((choicesM r).map (b :: ·) ++ choicesM r) := hc
      rcases List.mem_cons.mp hc2 with e | hc
      · rw [e]
        show 1 ≤ r.length + 1
        omega
      · rcases List.mem_append.mp hc with hc | hc
        · obtain ⟨d, hd, rfl⟩ := List.mem_map.mp hc
          have := h2 d hd
          rw [List.length_cons, List.length_cons]
          omega
        · have := h2 c hc
          rw [List.length_cons]
          omega
theorem Pat.standing {x : Str} (h : Pat x) : (standingM x).length ≤ 7 := Nat.le_trans (standing_len x) h.sz
theorem Pat.many {x : Str} (h : Pat x) : (allM x).length ≤ 200 := by
  unfold allM
  rw [List.length_append, List.length_map, List.length_map]
  have h1 := (chs_len (standingM x)).1
  have h2 : 2 ^ (standingM x).length ≤ 2 ^ 7 := Nat.pow_le_pow_right (by decide) h.standing
  have h3 : (fallenM x).length ≤ 2 := by
    unfold fallenM
    refine Nat.le_trans (List.length_filter_le _ _) ?_
    rw [List.length_range, h.fx.2.1, List.length_map]
    exact (pat_blocks h).1
  omega
theorem take_sum : ∀ (l : List Nat) (b : Nat), (l.take b).sum + l.getD b 0 ≤ l.sum
  | [], b => by simp
  | a :: l, 0 => by simp
  | a :: l, b + 1 => by
    have := take_sum l b
    rw [List.take_succ_cons, List.sum_cons, List.sum_cons, List.getD_cons_succ]
    omega
/-- what holds of a write that was drawn -/
structure Good (x : Str) (wr : Wr) : Prop where
  pat : Pat x
  fit : WFit x wr
  few : changedM x (endM x wr) ≤ 10
  endP : Pat (endM x wr)
  endB : endM x wr ∈ boxM x (endM x wr)
  box : ∀ z ∈ boxM x (endM x wr), Pat z ∧ sizesM z = sizesM x ∧ inBoxM z x (endM x wr) = true ∧ lawL (codes x) (codes z) wr = true
theorem Pat.good {x : Str} (h : Pat x) {wr : Wr} (hw : wr ∈ allM x) : Good x wr := by
  have q := h.fx.2.2.2.2 wr hw
  unfold factW factY at q
  obtain ⟨q1, q⟩ := Bool.and_eq_true_iff.mp q
  obtain ⟨q2, q⟩ := Bool.and_eq_true_iff.mp q
  obtain ⟨q3, q4⟩ := Bool.and_eq_true_iff.mp q
  have q3' := List.contains_iff_mem.mp q3
  have box : ∀ zl ∈ boxL (codes x) (codes (endM x wr)), isPatL zl = true ∧ shapeL (codes x) zl = true ∧ inBoxL zl (codes x) (codes (endM x wr)) = true ∧ lawL (codes x) zl wr = true := fun zl hz => by
    have r := List.all_eq_true.mp q4 zl hz
    unfold factZ at r
    obtain ⟨r1, r⟩ := Bool.and_eq_true_iff.mp r
    obtain ⟨r2, r⟩ := Bool.and_eq_true_iff.mp r
    obtain ⟨r3, r4⟩ := Bool.and_eq_true_iff.mp r
    exact ⟨r1, r2, r3, r4⟩
  refine ⟨h, ⟨q1, fun bs e => ?_, fun bs e b hb => ?_, fun b e => ?_⟩, of_decide_eq_true q2, (box _ q3').1, ?_, fun z hz => ?_⟩
  · subst e
    rcases List.mem_append.mp hw with hw | hw
    · obtain ⟨c, hc, e⟩ := List.mem_map.mp hw
      injection e with e
      rw [← e]
      exact Nat.le_trans ((chs_len _).2 c hc) (Nat.le_trans h.standing (by decide))
    · obtain ⟨c, hc, e⟩ := List.mem_map.mp hw
      cases e
  · subst e
    unfold writeM at q1
    have r := List.all_eq_true.mp (Bool.and_eq_true_iff.mp q1).2 b hb
    have r2 := List.contains_iff_mem.mp r
    unfold standingM at r2
    exact List.mem_range.mp (List.mem_filter.mp r2).1
  · exact Nat.le_trans (take_sum (sizesM x) b) h.sum
  · unfold boxM
    exact List.mem_map.mpr ⟨_, q3', mk_codes _⟩
  · unfold boxM at hz
    obtain ⟨zl, hzl, rfl⟩ := List.mem_map.mp hz
    obtain ⟨b1, b2, b3, b4⟩ := box zl hzl
    have pz : Pat (mk zl) := by
      unfold Pat
      rw [codes_mk]
      exact b1
    refine ⟨pz, ?_, ?_, ?_⟩
    · rw [pz.sizes, h.sizes, codes_mk]
      unfold shapeL at b2
      exact (eq_of_beq b2).symm
    · unfold inBoxM
      rw [codes_mk]
      exact b3
    · rw [codes_mk]
      exact b4
theorem Good.endFit {x : Str} {wr : Wr} (h : Good x wr) : Pat (endM x wr) ∧ sizesM (endM x wr) = sizesM x ∧ inBoxM (endM x wr) x (endM x wr) = true ∧ lawL (codes x) (codes (endM x wr)) wr = true := h.box _ h.endB
end FB

/-! ## FBLaw6 -/
set_option Elab.async false
set_option linter.all false
set_option maxRecDepth 100000
set_option maxHeartbeats 4000000
/-! The chosen write. -/
namespace FB
open PySem PySem.Spec PyProof.Rows L2
/-- tuples stand -/
def TK (H H' : Hp) : Prop := ∀ T ys, H T = some (.tup ys) → H' T = some (.tup ys)
theorem TK.but {S : List Addr} {H H' : Hp} (s : SBut S H H') (n : ∀ a ∈ S, ∀ ys, H a ≠ some (.tup ys)) : TK H H' := fun T ys h => s T _ (fun hm => n T hm ys h) h
theorem WrA.tk {H H' : Hp} {v : V} {wr : Wr} (h : WrA H v wr) (s : TK H H') : WrA H' v wr := by
  cases wr with
  | fall bs =>
    obtain ⟨T, T2, e, e1, e2⟩ := h
    exact ⟨T, T2, e, s _ _ e1, s _ _ e2⟩
  | erase c =>
    obtain ⟨T, e, e1⟩ := h
    exact ⟨T, e, s _ _ e1⟩
theorem WsA.tk {H H' : Hp} {vs : List V} {ws : List Wr} (h : WsA H vs ws) (s : TK H H') : WsA H' vs ws := by
  induction h with
  | nil => exact .nil
  | cons a _ ih => exact .cons (a.tk s) ih
theorem PenA.at {H : Hp} {p c : Addr} {n : Nat} (h : PenA H p c n) : ∃ kvs, H p = some (.dK kvs) := by
  obtain ⟨xs, t, r, f, a, _⟩ := h.ex
  exact ⟨_, a⟩
theorem PenA.ntup {H : Hp} {p c : Addr} {n : Nat} (h : PenA H p c n) : ∀ a ∈ [p], ∀ ys, H a ≠ some (.tup ys) := fun a ha ys e => by
  obtain ⟨kvs, q⟩ := h.at
  rw [List.mem_singleton.mp ha, q] at e
  cases e
theorem PenA.nl {H : Hp} {p c : Addr} {n : Nat} (h : PenA H p c n) {L : Addr} {xs : List V} (hL : H L = some (.lst xs)) : L ∉ [p] := fun e => by
  obtain ⟨kvs, q⟩ := h.at
  rw [List.mem_singleton.mp e, q] at hL
  cases hL
section
variable {P : Program} {w : World} {K : PySem.W.Frag} {mg : Str → Option Value} {base : Heap}
def nChosen : List Str := ["_law_pen_here", "_law_x", "_law_some"]
def spChosen : Sp := fun vs H Q _ => ∃ (p c : Addr) (n : Nat) (x : Str), vs = [.ref p, .str x] ∧ PenA H p c n ∧ n ≤ 900 ∧ Pat x ∧ ∀ H' v wr, SBut [p] H H' → PenA H' p c (n + 2) → WrA H' v wr → wr ∈ allM x → Q v H'
theorem sc_chosen : FnScope nChosen ["_law_pen_here", "_law_x"] (defScope sChosen) := ⟨rfl, rfl, rfl, by decide +kernel, rfl, by decide +kernel, by decide +kernel⟩
theorem ok_chosen (T : Txt K mg) : FnOk P w K mg base CX0 31 (a_l_chosen K) (fdA K (a_l_chosen K)) ["_law_pen_here", "_law_x"] spChosen := by
  refine FunD.ok T.l_chosen sc_chosen (fun vs H Q E h => ?_) (fun cdv A outer s H vs Q E hr h => ?_)
  · obtain ⟨p, c, n, x, rfl, _⟩ := h
    rfl
  · obtain ⟨p, c, n, x, rfl, hp, hn, hx, k⟩ := h
    have nd := sc_chosen.nd
    have GT := ok_take (P := P) (w := w) (base := base) T
    have GS := ok_single (P := P) (w := w) (base := base) T
    obtain ⟨ds, hds, bds⟩ := T.n_single_writes
    refine ⟨_, PSs.nox (pss_cons (ps_set (i := 2) nd rfl (.inl rfl) (pe_call GS (hr.mono (by decide)) (by rfl) T.g_single_writes T.single_writes.kp bds hds pass0 (pa_cons (pv 1) pa_nil)))
      (pss_cons (ps_if (pt_cmpR op_eq (pe_call GT (hr.mono (by decide)) (by rfl) T.g_l_take T.l_take.kp T.n_l_take .nil pass0 (pa_cons (pv 0) (pa_cons pe_int pa_nil))) pe_int (nomark _))
        (pss_one (ps_awLc (ix := 1) (i := 2) T nd rfl (.inl rfl) rfl rfl hr (by rfl) (sw_true rfl rfl rfl rfl) rfl (by decide) (by decide) (by intros; rfl) (by intros; rfl))) pss_nil)
      (pss_one (ps_ret (pe_ix ix_list (pv 2) (pe_call GT (hr.mono (by decide)) (by rfl) T.g_l_take T.l_take.kp T.n_l_take .nil pass0 (pa_cons (pv 0) (pa_cons (pe_callB call_len_seq (by rfl) T.b_len PySem.boot_len (pa_cons (pv 2) pa_nil)) pa_nil))) (fun _ _ => rfl)))))), ?_⟩
    obtain ⟨_, _, hne, hsub, _⟩ := hx.fx
    refine ⟨_, rfl, x, rfl, hx.fit, fun H1 L1 vs1 s1 hL0 hL1 hw1 => ?_⟩
    have hp1 := hp.same s1
    refine ⟨_, rfl, p, c, n, 2, rfl, hp1, by omega, by decide, by decide, fun H2 r hr2 s2 hp2 => ⟨rfl, _, rfl, ite2 (fun _ => ?_) (fun _ => ?_)⟩⟩
    case' refine_1 =>
      refine ⟨x, rfl, hx.fit, Nat.le_trans hx.standing (by decide), Nat.le_trans hx.many (by decide), fun L vs H3 s3 hL30 hL hw => ?_⟩
      have hp3 := hp2.same s3
      have sb : SBut [p] H H3 := ((SBut.of s1).trans s2).trans (.of s3)
      obtain ⟨ws, hws, hne2, hsub2⟩ : ∃ ws, WsA H3 vs ws ∧ ws ≠ [] ∧ ∀ w ∈ ws, w ∈ allM x := by
        refine ⟨allM x, hw, fun e => ?_, fun w h => h⟩
        obtain ⟨a, ha⟩ := List.exists_mem_of_ne_nil _ hne
        have q := hsub a ha
        rw [e] at q
        cases q
      have hmany : ws.length ≤ 200 := by rw [← hws.length, hw.length]; exact hx.many
    case' refine_2 =>
      have hL : H2 L1 = some (.lst vs1) := s2 _ _ (hp1.nl hL1) hL1
      have hp3 := hp2
      have sb : SBut [p] H H2 := (SBut.of s1).trans s2
      obtain ⟨ws, hws, hne2, hsub2⟩ : ∃ ws, WsA H2 vs1 ws ∧ ws ≠ [] ∧ ∀ w ∈ ws, w ∈ allM x := ⟨singleM x, hw1.tk (TK.but s2 hp1.ntup), hne, hsub⟩
      have hmany : ws.length ≤ 200 := by
        have e : ws.length = (singleM x).length := by rw [← hws.length, hw1.length]
        rw [e]
        unfold singleM
        rw [List.length_append, List.length_map, List.length_map]
        have h3 : (fallenM x).length ≤ 2 := by
          refine Nat.le_trans (fallen_len x) ?_
          rw [hx.fx.2.1, List.length_map]
          exact (pat_blocks hx).1
        have := hx.standing
        omega
    all_goals
      have pos : 0 < ws.length := List.length_pos_iff.mpr hne2
      have hlen := hws.length
      refine ⟨_, rfl, _, rfl, _, rfl, _, _, rfl, .inl (SqL.of hL), p, c, n + 1, _, rfl, hp3, by omega, by omega, by omega, fun H4 j hj s4 hp4 => ?_⟩
      rw [hlen] at hj
      obtain ⟨v, hv, wa⟩ := hws.get (List.getElem?_eq_getElem hj)
      refine ⟨_, _, j, v, rfl, rfl, SqL.of (s4 _ _ (hp3.nl hL) hL), atI_nat hv, ?_⟩
      exact k H4 v _ (sb.trans s4) hp4 (wa.tk (TK.but s4 hp3.ntup)) (hsub2 _ (List.getElem_mem hj))
end
end FB

/-! ## FBLaw7 -/
set_option Elab.async false
set_option linter.all false
set_option maxRecDepth 100000
set_option maxHeartbeats 4000000
/-! _law_cut: do, and the pattern of the cut. -/
namespace FB
open PySem PySem.Spec PyProof.Rows L2
section
variable {X : Cx} {CX : CXT} {k : Nat} {C f : Addr} {fd : FuncData} {ps : List Str} {sp : Sp} {o e : Expr} {es : List Expr} {m : Str} {apos pos : Pos} {ta : TE} {t : TA} {E : L2.St → XK}
def tMethE (C : Addr) (m : Str) (sp : Sp) (E : L2.St → XK) (ta : TE) (t : TA) : TE := fun σ H Q => ta σ H fun x H1 => ∃ a dx fs, x = .ref a ∧ H1 a = some (.ins C dx fs) ∧ fs.lookup m = none ∧ t σ H1 fun vs H2 => sp (x :: vs) H2 Q (E σ)
/-- a method that may raise, in a try: what is wished depends on the slots -/
theorem pe_methE {pl : Sem Bool} (he : PE X o ta) (c : Cls X.K C) (hm : Meth X.K C m f) (F : FnOk X.prog X.w X.K X.mg X.base CX k f fd ps sp) (hr : Room k X.A) (hb : Binds X.K fd ps []) (hx : ∀ σ, PassesAt CX X σ (E σ)) (ha : PA X (e :: es) t)
    (hst : starEach (e :: es) X.env = (false, eval e X.env) :: starEach es X.env := by rfl) (hpl : (backTo pos (starEach es X.env)).any (·.1) = false := by rfl)
    (ht : eval (.Call (.Attribute o m apos) (e :: es) [] pos) X.env = (do
      let ov ← eval o X.env
      standAt apos.atName
      let (f, first) ← holding [ov] (getMethod ov m pl)
      callWith pos f first (backTo pos (starEach (e :: es) X.env)) (backToKw pos (keywordEach [] X.env))) := by rfl) :
    PE X (.Call (.Attribute o m apos) (e :: es) [] pos) (tMethE C m sp E ta t) := by
  refine ⟨fun pins s0 σ H Q I0 want => ?_⟩
  refine PySem.W.methodCall_KW (pl := pl) (thn (he.run pins s0 σ H _ I0 want) fun ov s1 hov => ?_) ht
  obtain ⟨y, H1, I1, ry, a, dx, fs, rfl, hya, hno, args⟩ := hov
  cases ry
  refine getmeth_ok I1 hya c hm hno ?_
  refine PySem.W.callWith_K (first := [.ref a]) (h₀ := X.base) I1.ok.mod.kin hm.kp ?_ hst hpl
  refine thn (ha.run pos pins s1 σ H1 _ I1 args) fun us s2 ⟨ws, H2, I2, rws, q2⟩ => ⟨I2.kIn, ?_⟩
  exact run_fnS (us := .ref a :: us) (vs := .ref a :: ws) F hr hb (hx σ) I2 (.cons rfl rws) q2
end
theorem SBut.old {S : List Addr} {H H' : Hp} (s : SBut S H H') {l : Addr} (h : H' l = none) (n : l ∉ S) : H l = none := by
  cases q : H l with
  | none => rfl
  | some o =>
    have e := s l o n q
    rw [h] at e
    cases e
theorem DevA.but {K : PySem.W.Frag} {S : List Addr} {H H' : Hp} {d pl el : Addr} {D : Dev} (h : DevA K H d pl el D) (s : SBut S H H') (n : ∀ a ∈ [d, pl, el], a ∉ S) : DevA K H' d pl el D := by
  obtain ⟨⟨dx, h1⟩, h2, h3, h4⟩ := h
  exact ⟨⟨dx, s _ _ (n d (by simp)) h1⟩, s _ _ (n pl (by simp)) h2, s _ _ (n el (by simp)) h3, h4⟩
theorem DevA.new {K : PySem.W.Frag} {H : Hp} {d pl el b : Addr} {D : Dev} {o : HO} (h : DevA K H d pl el D) (e : H b = none) : DevA K (upd H b o) d pl el D := h.same ((Same.refl H).upd e)
def Dev.after (D : Dev) (wr : Wr) : Dev := match D.fail with
  | none => D.done D.cur wr
  | some z => D.cut z
section
variable {P : Program} {w : World} {K : PySem.W.Frag} {mg : Str → Option Value} {base : Heap}
def nCut : List Str := ["_law_device", "_law_write", "_law_caught", "e"]
def spLCut (K : PySem.W.Frag) : Sp := fun vs H Q _ => ∃ (d pl el : Addr) (D : Dev) (v : V) (wr : Wr), vs = [.ref d, v] ∧ DevA K H d pl el D ∧ WrA H v wr ∧ DoFit D wr ∧
  ∀ H', SBut [d, pl, el] H H' → DevA K H' d pl el (D.after wr) → Q (optV D.fail) H'
theorem sc_cut : FnScope nCut ["_law_device", "_law_write"] (defScope sCut) := ⟨rfl, rfl, rfl, by decide +kernel, rfl, by decide +kernel, by decide +kernel⟩
theorem ok_lcut (T : Txt K mg) : FnOk P w K mg base CX0 21 (a_l_cut K) (fdA K (a_l_cut K)) ["_law_device", "_law_write"] (spLCut K) := by
  refine FunD.ok T.l_cut sc_cut (fun vs H Q E h => ?_) (fun cdv A outer s H vs Q E hr h => ?_)
  · obtain ⟨d, pl, el, D, v, wr, rfl, _⟩ := h
    rfl
  · obtain ⟨d, pl, el, D, v, wr, rfl, da, hw, df, k⟩ := h
    have nd := sc_cut.nd
    have GD := ok_d_do (P := P) (w := w) (base := base) T
    refine ⟨_, pss_cons (ps_set (i := 2) nd rfl (.inl rfl) pe_non)
      (pss_cons (ps_try_asK (i := 3) (tb := fun W => tDrop (tMethE (He.ga K "Device") "do" (spDDo K) (WE W) (tVar 0) (tCons (tVar 1) tNil))) (ts := fun _ _ _ => tAsg (tVar 3) (gName 2)) (Wout := fun _ _ _ _ => False) rfl rfl rfl nd rfl rfl ⟨rfl, by decide, .inl T.g_Cut⟩ takes0
        (fun W pn xe tk _ => pss_one (ps_expr (pe_methE (pv 0) T.cD T.mDo GD hr T.n_d_do (fun σ => passAt tk σ) (pa_cons (pv 1) pa_nil))))
        (fun a oe cls d pn _ _ => pss_one (ps_set (i := 2) nd rfl (.inl rfl) (pv 3))))
      (pss_one (ps_ret (pe_ifExp (pt_cmpR op_isN (pv 2) pe_non (nomark _)) pe_non (pe_xh T.xCut T.nCut (pv 2)))))), ?_⟩
    obtain ⟨⟨dx, h1⟩, h2, h3, h4⟩ := id da
    refine ⟨_, rfl, d, dx, _, rfl, h1, rfl, _, rfl, d, pl, el, D, v, wr, rfl, da, hw, df, fun hf H' sb da' => ?_, fun z hf H' dd sb da' hd0 hd1 => ⟨true, T.eCut, fun _ a ha => ?_, fun q => nomatch q⟩⟩
    · have q := k H' sb (by unfold Dev.after; rw [hf]; exact da')
      rw [hf] at q
      exact ⟨_, rfl, rfl, _, rfl, iteT q⟩
    · have q := k (upd H' a (exh a (.ref (He.ga K "Cut")) (some dd))) (sb.updN ha) (by unfold Dev.after; rw [hf]; exact da'.new ha)
      rw [hf] at q
      refine ⟨_, rfl, fun _ => ⟨_, rfl, rfl, _, rfl, iteF ⟨_, rfl, a, dd, [("found", .str z)], .str z, rfl, upd_same, ?_, rfl, q⟩⟩⟩
      rw [upd_ne (ne_of_none hd1 ha)]
      exact hd1
end
end FB

/-! ## FBLaw8 -/
set_option Elab.async false
set_option linter.all false
set_option maxRecDepth 100000
set_option maxHeartbeats 4000000
/-! _law_step, the end: what the pattern behind the write must be. -/
namespace FB
open PySem PySem.Spec PyProof.Rows L2
section
variable {P : Program} {w : World} {K : PySem.W.Frag} {mg : Str → Option Value} {base : Heap}
def nStep : List Str := ["_law_pen_here", "_law_device", "_law_deeds", "_law_x", "_law_write", "_law_later", "_law_whole", "_law_z", "_law_found", "_law_before", "_law_behind", "_law_others", "_law_b"]
theorem sc_step : FnScope nStep ["_law_pen_here", "_law_device", "_law_deeds"] (defScope sStep) := ⟨rfl, rfl, rfl, by decide +kernel, rfl, by decide +kernel, by decide +kernel⟩
abbrev cxStep (P : Program) (w : World) (K : PySem.W.Frag) (mg : Str → Option Value) (base : Heap) (cdv : Value) (A : Around) (outer : List Env) (s : Shared) (H : Hp) (E : XK) : Cx := (cxOf CX0 P w K mg base nStep "_law_step" (defScope sStep) (a_l_step K) cdv A outer s H E).nox
theorem le_read {H : Hp} {a b : Addr} {z x : Str} {Q : VK} (ha : PatA K H a z) (hb : PatA K H b x) (fz : Fit z) (fx : Fit x) (e : sizesM z = sizesM x) (h : liesM z x = true) (k : ∀ H', Same H H' → Q (.bl true) H') : rLeO (He.ga K "Pattern") (spLiesIn K) (.ref a) (.ref b) H Q := by
  obtain ⟨dx, fs, h1, _⟩ := id ha
  obtain ⟨dy, gs, h2, _⟩ := id hb
  refine ⟨a, b, dx, dy, fs, gs, rfl, rfl, h1, h2, a, b, z, x, rfl, ha, hb, fz, fx, e, fun H' s => ⟨_, rfl, ?_⟩⟩
  rw [h]
  exact k H' s
theorem make_at {H : Hp} {x : Str} {R : Hp → Prop} {E : XK} {a dx : Addr} (na : H a = none) (nd : H dx = none) (fx : Fit x) (k : ∀ H', Same H H' → PatA K H' a x → R H') :
    spPInit K (.ref a :: ([V.str x] ++ [])) (upd (upd H dx (.own a)) a (.ins (He.ga K "Pattern") dx [])) (fun v H2 => v = .non ∧ R H2) E :=
  ⟨a, dx, x, rfl, upd_same, fx, fun H' sb pa => ⟨rfl, k H' (Same.made na nd fun b o hb ne => sb b o ne hb) pa⟩⟩
theorem blk_pat {a : List Nat} (h : okB a = true) : Pat (mk a) ∧ sizesM (mk a) = [a.length] := by
  have e : blocksL a = [a] := by
    unfold blocksL
    obtain ⟨e1, e2⟩ := take_all (p := (· != 46)) [] (okB_no h)
    rw [List.append_nil] at e1 e2
    rw [e1, e2]
    show [a ++ []] = [a]
    rw [List.append_nil]
  have p : Pat (mk a) := by
    unfold Pat isPatL
    rw [codes_mk, e]
    exact h
  exact ⟨p, by rw [p.sizes, codes_mk, e]; rfl⟩
theorem split_len {x : Str} (h : Pat x) : x.length + 2 ≤ sizeLine := by
  have e : x.length = FB.sz x := sz_eq x
  have := h.sz
  rw [e, sizeLine_eq]
  omega
theorem step_end (T : Txt K mg) {cdv : Value} {A : Around} {outer : List Env} {s : Shared} {H0 : Hp} {E : XK} (hr : Room 40 (A.deeper (envOfC "_law_step" (defScope sStep) s.heap.objs.size (a_l_step K) cdv))) :
    ∃ t, PSs (cxStep P w K mg base cdv A outer s H0 E) ((defBody sStep).drop 10) t ∧ ∀ (D : Ends) (H : Hp) (a0 a2 a5 a6 a7 a8 : Option V) (d pl el : Addr) (x : Str) (v : V) (wr : Wr) (dv : Dev), DevA K H d pl el dv → WrA H v wr → Pat x → Pat dv.cur → sizesM dv.cur = sizesM x → lawL (codes x) (codes dv.cur) wr = true →
      (∀ H', Same H H' → D.rt (.bl true) H') → t D [a0, some (.ref d), a2, some (.str x), some v, a5, a6, a7, a8, none, none, none, none] H := by
  have nd := sc_step.nd
  have GL := ok_p_le (P := P) (w := w) (base := base) T
  have GI := ok_p_init (P := P) (w := w) (base := base) T
  have GP := ok_d_pattern (P := P) (w := w) (base := base) T
  refine ⟨_, pss_cons (ps_if (pt_cmpR op_eq (pe_ix ix_tup (pv 4) pe_int (fun _ _ => rfl)) pe_str (nomark _))
      (pss_one (ps_ret (pe_cmpR (op_leO GL T.mLe.at_ T.mLe.fn T.n_p_le pass0 (hr.mono (by decide))) (pe_make T.kP GI (hr.mono (by decide)) (by rfl) T.g_Pattern T.n_p_init .nil pass0 (pa_cons (pe_prop (pv 1) T.cD T.pPattern GP (hr.mono (by decide)) T.n_d_pattern .nil pass0 rfl) pa_nil))
        (pe_make T.kP GI (hr.mono (by decide)) (by rfl) T.g_Pattern T.n_p_init .nil pass0 (pa_cons (pv 3) pa_nil)) (nomark _)))) pss_nil)
    (pss_cons (ps_asg (pe_tup (pa_cons (pe_split (pv 3) pe_str) (pa_cons (pe_split (pe_prop (pv 1) T.cD T.pPattern GP (hr.mono (by decide)) T.n_d_pattern .nil pass0 rfl) pe_str) pa_nil))) (pg_tup rfl (pgs_cons (pg_name (i := 9) nd rfl (.inr rfl)) (pgs_cons (pg_name (i := 10) nd rfl (.inr rfl)) pgs_nil))))
    (pss_cons (ps_setLc (i := 11) (own := [("_law_b", 12)]) (g := gName 12) rfl nd rfl rfl (sw_true rfl rfl rfl rfl) (pi_range1 (by rfl) T.b_range (pa_cons (pe_callB call_len_seq (by rfl) T.b_len PySem.boot_len (pa_cons (pv 9) pa_nil)) pa_nil)) (blkOk_by (N := nStep) (sc := defScope sStep) (by decide +kernel))
        (fun _ _ _ _ _ => pg_name (i := 12) nd rfl (.inl rfl))
        (fun _ _ _ _ _ => pts_one (pw_and (pt_cmpR op_ne (pv 12) (pe_ix (ix_tupK (K := K) rfl) (pv 4) pe_int (fun _ _ => rfl)) (nomark _)) (pw_and1 (pt_cmpR op_ne (pe_ix (ix_listK (K := K) rfl) (pv 9) (pv 12) (fun _ _ => rfl)) (pe_ix (ix_listK (K := K) rfl) (pv 10) (pv 12) (fun _ _ => rfl)) (nomark _)))).pt)
        (fun _ _ _ _ _ => pv 12))
    (pss_one (ps_ret (pe_and (pe_cmpR (op_eqD hr.units) (pv 11) (pe_lst pa_nil) (nomark _)) (pe_one (pe_cmpR (op_leO GL T.mLe.at_ T.mLe.fn T.n_p_le pass0 (hr.mono (by decide)))
        (pe_make T.kP GI (hr.mono (by decide)) (by rfl) T.g_Pattern T.n_p_init .nil pass0 (pa_cons (pe_ix ix_list (pv 9) (pe_ix ix_tup (pv 4) pe_int (fun _ _ => rfl)) (fun _ _ => rfl)) pa_nil))
        (pe_make T.kP GI (hr.mono (by decide)) (by rfl) T.g_Pattern T.n_p_init .nil pass0 (pa_cons (pe_ix ix_list (pv 10) (pe_ix ix_tup (pv 4) pe_int (fun _ _ => rfl)) (fun _ _ => rfl)) pa_nil)) (nomark _)))))))), ?_⟩
  intro D H a0 a2 a5 a6 a7 a8 d pl el x v wr dv da hw hx hc es hl k
  obtain ⟨⟨dx, h1⟩, h2, h3, h4⟩ := id da
  cases wr with
  | fall bs =>
    obtain ⟨T1, T2, rfl, u1, u2⟩ := hw
    refine ⟨_, rfl, T1, _, 0, .str "fall", rfl, rfl, SqT.of u1, atI_nat (j := 0) rfl, rfl, _, rfl, ?_⟩
    rw [decide_eq_true (show V.str "fall" = V.str "fall" from rfl)]
    refine iteT ⟨_, rfl, d, dx, _, rfl, h1, d, pl, el, dv, rfl, da, fun a ax na nax _ => make_at na nax hc.fit fun H1 s1 pa => ⟨_, rfl, fun b bx nb nbx _ => make_at nb nbx hx.fit fun H2 s2 pb => ?_⟩⟩
    exact le_read (pa.same s2) pb hc.fit hx.fit es hl fun H3 s3 => k H3 ((s1.trans s2).trans s3)
  | erase b =>
    obtain ⟨T1, rfl, u1⟩ := hw
    refine ⟨_, rfl, T1, _, 0, .str "erase", rfl, rfl, SqT.of u1, atI_nat (j := 0) rfl, rfl, _, rfl, ?_⟩
    rw [decide_eq_false (show ¬ V.str "erase" = V.str "fall" from fun q => by
      injection q with q
      exact absurd q (by decide +kernel))]
    refine iteF ?_
    refine ⟨_, rfl, ⟨_, rfl⟩, x, ".", rfl, rfl, by decide +kernel, split_len hx, fun p1 hp1 => ?_⟩
    have s1 : Same H (upd H p1 (.lst ((blocksOf x).map V.str))) := (Same.refl H).upd hp1
    refine ⟨_, rfl, d, dx, _, rfl, s1 _ _ h1, d, pl, el, dv, rfl, da.same s1, ⟨_, rfl⟩, dv.cur, ".", rfl, rfl, by decide +kernel, split_len hc, fun p2 hp2 => ?_⟩
    refine ⟨by show 2 ≤ sizeLine; decide, fun T2 hT2 => ⟨T2, _, rfl, SqT.of upd_same, rfl, _, _, rfl, _, _, rfl, rfl, ?_⟩⟩
    generalize hH1 : upd (upd (upd H p1 (.lst ((Txt.split x ".").map V.str))) p2 (.lst ((Txt.split dv.cur ".").map V.str))) T2 (.tup [V.ref p1, V.ref p2]) = H1
    have sH1 : Same H H1 := by rw [← hH1]; exact (s1.upd hp2).upd hT2
    have q1 : H1 p1 = some (.lst ((blocksOf x).map V.str)) := by
      rw [← hH1]
      exact ((Same.refl _).upd hT2) _ _ (((Same.refl _).upd hp2) _ _ upd_same)
    have q2 : H1 p2 = some (.lst ((blocksOf dv.cur).map V.str)) := by
      rw [← hH1]
      exact ((Same.refl _).upd hT2) _ _ upd_same
    have qT := sH1 _ _ u1
    obtain ⟨l1, l2⟩ : othersL (codes x) (codes dv.cur) b = [] ∧ b < (blocksL (codes dv.cur)).length ∧ b < (blocksL (codes x)).length ∧ liesL ((blocksL (codes x)).getD b []) ((blocksL (codes dv.cur)).getD b []) = true := by
      unfold lawL at hl
      obtain ⟨e1, hl⟩ := Bool.and_eq_true_iff.mp hl
      obtain ⟨e2, hl⟩ := Bool.and_eq_true_iff.mp hl
      obtain ⟨e3, e4⟩ := Bool.and_eq_true_iff.mp hl
      exact ⟨List.isEmpty_iff.mp e1, of_decide_eq_true e2, of_decide_eq_true e3, e4⟩
    have bx := hx.fx.2.1
    have bz := hc.fx.2.1
    refine ⟨_, rfl, p1, _, rfl, .inl (SqL.of q1), _, rfl, ?_, ?_, fun L hL => lc_range (lo := 0) (n := ((blocksOf x).map V.str).length) (fun i H' => Same H1 H' ∧ H' L = some (.lst [])) ?_ ?_ ?_⟩
    · rw [List.length_map]
      omega
    · rw [List.length_map]
      have := hx.fit.many
      omega
    · exact ⟨(Same.refl _).upd hL, upd_same⟩
    · rintro i H2 hi ⟨s2, h2⟩
      rw [List.length_map] at hi
      refine ⟨rfl, _, rfl, _, rfl, T1, _, 1, .int (b : Int), rfl, rfl, SqT.of (s2 _ _ qT), atI_nat (j := 1) rfl, rfl, _, rfl, ?_⟩
      have hi1 : i < (blocksL (codes x)).length := by
        rw [bx, List.length_map] at hi
        exact hi
      have lenE : (blocksL (codes dv.cur)).length = (blocksL (codes x)).length := by
        have e := congrArg List.length es
        rw [hc.sizes, hx.sizes, List.length_map, List.length_map] at e
        exact e
      by_cases hib : i = b
      · rw [show (!decide (V.int (0 + (i : Int)) = V.int (b : Int))) = false from by rw [decide_eq_true (by rw [hib]; congr 1; omega)]; rfl]
        exact ⟨s2, h2⟩
      · rw [show (!decide (V.int (0 + (i : Int)) = V.int (b : Int))) = true from by
          rw [decide_eq_false (fun q => hib (by injection q with q; omega))]
          rfl]
        have g1 : ((blocksOf x).map V.str)[i]? = some (.str (mk ((blocksL (codes x)).getD i []))) := by
          rw [bx, List.getElem?_map, List.getElem?_map, List.getElem?_eq_getElem hi1, List.getD_eq_getElem?_getD, List.getElem?_eq_getElem hi1]
          rfl
        have hi2 : i < (blocksL (codes dv.cur)).length := by omega
        have g2 : ((blocksOf dv.cur).map V.str)[i]? = some (.str (mk ((blocksL (codes dv.cur)).getD i []))) := by
          rw [bz, List.getElem?_map, List.getElem?_map, List.getElem?_eq_getElem hi2, List.getD_eq_getElem?_getD, List.getElem?_eq_getElem hi2]
          rfl
        have eqb : (blocksL (codes x)).getD i [] = (blocksL (codes dv.cur)).getD i [] := by
          by_cases q : (blocksL (codes x)).getD i [] = (blocksL (codes dv.cur)).getD i []
          · exact q
          · exfalso
            have m : i ∈ othersL (codes x) (codes dv.cur) b := by
              unfold othersL
              refine List.mem_filter.mpr ⟨List.mem_range.mpr hi1, ?_⟩
              rw [Bool.and_eq_true_iff]
              exact ⟨bne_iff_ne.mpr hib, bne_iff_ne.mpr q⟩
            rw [l1] at m
            cases m
        refine iteT ⟨_, rfl, _, rfl, p1, _, i, _, rfl, by rw [Int.zero_add], SqL.of (s2 _ _ q1), atI_nat g1, _, rfl, _, rfl, p2, _, i, _, rfl, by rw [Int.zero_add], SqL.of (s2 _ _ q2), atI_nat g2, rfl, _, rfl, ?_⟩
        rw [eqb, decide_eq_true rfl]
        exact ⟨s2, h2⟩
    · rintro H2 ⟨s2, h2⟩
      refine ⟨_, rfl, Nat.zero_le _, fun L2 hL2 => ⟨.list [], .list [], .lst (SqL.of ?_) .nil, .lst (SqL.of upd_same) .nil, rfl, rfl, true, rfl, ?_⟩⟩
      · exact ((Same.refl H2).upd hL2) _ _ h2
      have s3 : Same H1 (upd H2 L2 (.lst [])) := s2.upd hL2
      have n1 := l2.2.1
      have n2 := l2.1
      have m1 : (blocksL (codes x)).getD b [] ∈ blocksL (codes x) := by
        rw [List.getD_eq_getElem?_getD, List.getElem?_eq_getElem n1]
        exact List.getElem_mem n1
      have m2 : (blocksL (codes dv.cur)).getD b [] ∈ blocksL (codes dv.cur) := by
        rw [List.getD_eq_getElem?_getD, List.getElem?_eq_getElem n2]
        exact List.getElem_mem n2
      obtain ⟨w1, z1⟩ := blk_pat ((pat_blocks hx).2 _ m1)
      obtain ⟨w2, z2⟩ := blk_pat ((pat_blocks hc).2 _ m2)
      have lens : ((blocksL (codes x)).getD b []).length = ((blocksL (codes dv.cur)).getD b []).length := by
        have e : ((blocksL (codes dv.cur)).map (·.length))[b]? = ((blocksL (codes x)).map (·.length))[b]? := by rw [← hc.sizes, ← hx.sizes, es]
        rw [List.getElem?_map, List.getElem?_map, List.getElem?_eq_getElem n1, List.getElem?_eq_getElem n2] at e
        rw [List.getD_eq_getElem?_getD, List.getD_eq_getElem?_getD, List.getElem?_eq_getElem n1, List.getElem?_eq_getElem n2]
        exact (Option.some.inj e).symm
      have g1 : ((blocksOf x).map V.str)[b]? = some (.str (mk ((blocksL (codes x)).getD b []))) := by
        rw [bx, List.getElem?_map, List.getElem?_map, List.getElem?_eq_getElem n1, List.getD_eq_getElem?_getD, List.getElem?_eq_getElem n1]
        rfl
      have g2 : ((blocksOf dv.cur).map V.str)[b]? = some (.str (mk ((blocksL (codes dv.cur)).getD b []))) := by
        rw [bz, List.getElem?_map, List.getElem?_map, List.getElem?_eq_getElem n2, List.getD_eq_getElem?_getD, List.getElem?_eq_getElem n2]
        rfl
      refine iteT ⟨_, rfl, _, rfl, T1, _, 1, .int (b : Int), rfl, rfl, SqT.of (s3 _ _ qT), atI_nat (j := 1) rfl, p1, _, b, _, rfl, rfl, SqL.of (s3 _ _ q1), atI_nat g1, fun a ax na nax _ => make_at na nax w1.fit fun H4 s4 pa => ?_⟩
      refine ⟨_, rfl, _, rfl, T1, _, 1, .int (b : Int), rfl, rfl, SqT.of (s4 _ _ (s3 _ _ qT)), atI_nat (j := 1) rfl, p2, _, b, _, rfl, rfl, SqL.of (s4 _ _ (s3 _ _ q2)), atI_nat g2, fun a2 ax2 na2 nax2 _ => make_at na2 nax2 w2.fit fun H5 s5 pb => ?_⟩
      refine le_read (pa.same s5) pb w1.fit w2.fit (by rw [z1, z2, lens]) ?_ fun H6 s6 => k H6 ((((sH1.trans s3).trans s4).trans s5).trans s6)
      unfold liesM
      rw [codes_mk, codes_mk]
      exact l2.2.2
end
end FB

/-! ## FBLaw9 -/
set_option Elab.async false
set_option linter.all false
set_option maxRecDepth 100000
set_option maxHeartbeats 4000000
/-! _law_step, the middle: the deed, and what the device tells behind it. -/
namespace FB
open PySem PySem.Spec PyProof.Rows L2
theorem after_none {D : Dev} {wr : Wr} (h : D.fail = none) : D.after wr = D.done D.cur wr := by
  unfold Dev.after
  rw [h]
theorem after_some {D : Dev} {wr : Wr} {z : Str} (h : D.fail = some z) : D.after wr = D.cut z := by
  unfold Dev.after
  rw [h]
theorem after_fail {D : Dev} {wr : Wr} : (D.after wr).fail = none := by
  cases h : D.fail with
  | none => rw [after_none h]; rfl
  | some z => rw [after_some h]; rfl
theorem scal_opt (z : Option Str) : scal (optV z) (optV z) = true := by cases z <;> rfl
theorem inV_mem {z : Str} {xs : List Str} (h : z ∈ xs) : inV (.str z) (xs.map V.str) = true := by
  unfold inV
  rw [List.any_map]
  refine List.any_eq_true.mpr ⟨z, h, ?_⟩
  show (z == z) = true
  exact beq_self_eq_true z
theorem flat_strs (xs : List Str) : (xs.map V.str).all flatV = true := by
  rw [List.all_map]
  exact List.all_eq_true.mpr fun _ _ => rfl
section
variable {P : Program} {w : World} {K : PySem.W.Frag} {mg : Str → Option Value} {base : Heap}
theorem step_mid (T : Txt K mg) {cdv : Value} {A : Around} {outer : List Env} {s : Shared} {H0 : Hp} {E : XK} (hr : Room 40 (A.deeper (envOfC "_law_step" (defScope sStep) s.heap.objs.size (a_l_step K) cdv))) :
    ∃ t, PSs (cxStep P w K mg base cdv A outer s H0 E) ((defBody sStep).drop 6) t ∧ ∀ (D : Ends) (H : Hp) (a0 : Option V) (d pl el l wb : Addr) (v : V) (wr : Wr) (dv : Dev) (ds : List V), DevA K H d pl el dv → WrA H v wr → Good dv.cur wr → DoFit dv wr →
      H wb = some (.lst ((boxM dv.cur (endM dv.cur wr)).map V.str)) → H l = some (.lst ds) → l ∉ [d, pl, el] → wb ∉ [d, pl, el] → wb ≠ l → ds.length ≤ 1000 → (∀ z, dv.fail = some z → z ∈ boxM dv.cur (endM dv.cur wr)) →
      (∀ H' L, SBut [d, pl, el, l] H H' → DevA K H' d pl el (dv.after wr) → H' l = some (.lst (ds ++ [.ref L])) → H' L = some (.tup [v, optV dv.fail]) → D.rt (.bl true) H') →
      t D [a0, some (.ref d), some (.ref l), some (.str dv.cur), some v, some (.str (endM dv.cur wr)), some (.ref wb), some (optV dv.fail), none, none, none, none, none] H := by
  have nd := sc_step.nd
  have GP := ok_d_pattern (P := P) (w := w) (base := base) T
  have GA := ok_d_armed (P := P) (w := w) (base := base) T
  have GB := ok_in_box (P := P) (w := w) (base := base) T
  have GC := ok_lcut (P := P) (w := w) (base := base) T
  obtain ⟨t, pt, ht⟩ := step_end (P := P) (w := w) (base := base) (outer := outer) (H0 := H0) (E := E) T hr
  refine ⟨_, pss_cons (ps_expr (pe_bm PySem.F.plainAttrs_list PySem.F.slot_list_append PySem.F.type_list_append mt_append (pv 2) (pa_cons (pe_tup (pa_cons (pv 4) (pa_cons (pv 7) pa_nil))) pa_nil)))
    (pss_cons (ps_set (i := 8) nd rfl (.inl rfl) (pe_call GC (hr.mono (by decide)) (by rfl) T.g_l_cut T.l_cut.kp T.n_l_cut .nil pass0 (pa_cons (pv 1) (pa_cons (pv 4) pa_nil))))
    (pss_cons (ps_if (pw_or (pt_cmpR op_ne (pv 8) (pv 7) (nomark _)) (pw_or (pt_cmpR op_ne (pe_prop (pv 1) T.cD T.pPattern GP (hr.mono (by decide)) T.n_d_pattern .nil pass0 rfl) (pe_ifExp (pt_cmpR op_isN (pv 7) pe_non (nomark _)) (pv 5) (pv 7)) (nomark _))
        (pw_or1 (pt_cmpR op_notN (pe_prop (pv 1) T.cD T.pArmed GA (hr.mono (by decide)) T.n_d_armed .nil pass0 rfl) pe_non (nomark _))))).pt (pss_one (ps_ret pe_bl)) pss_nil)
    (pss_cons (ps_if (pw_or (pt_not (pt_val (pe_call GB (hr.mono (by decide)) (by rfl) T.g_in_box T.in_box.kp T.n_in_box .nil pass0 (pa_cons (pe_prop (pv 1) T.cD T.pPattern GP (hr.mono (by decide)) T.n_d_pattern .nil pass0 rfl) (pa_cons (pv 3) (pa_cons (pv 5) pa_nil))))))
        (pw_or1 (pt_cmpR op_notIn_seq (pe_prop (pv 1) T.cD T.pPattern GP (hr.mono (by decide)) T.n_d_pattern .nil pass0 rfl) (pv 6) (by rfl)))).pt (pss_one (ps_ret pe_bl)) pss_nil) pt))), ?_⟩
  intro D H a0 d pl el l wb v wr dv ds da hw hg df hwb hl nl nwb nwl hds hz k
  refine ⟨_, rfl, .inl ⟨rfl, _, SqL.of hl⟩, _, rfl, _, rfl, by show 2 ≤ sizeLine; decide, fun L hL => ?_⟩
  have nlL : l ≠ L := ne_of_none hl hL
  refine ⟨l, _, _, rfl, rfl, by rw [upd_ne nlL]; exact hl, by rw [sizeLine_eq]; omega, ?_⟩
  generalize hH1 : upd (upd H L (.tup [v, optV dv.fail])) l (.lst (ds ++ [V.ref L])) = H1
  have sb1 : SBut [l] H H1 := by rw [← hH1]; exact ((SBut.of ((Same.refl H).upd hL))).upd (by simp)
  have dd : ∀ a ∈ [d, pl, el], a ∉ [l] := fun a ha e => nl (by rw [← List.mem_singleton.mp e]; exact ha)
  have da1 := da.but sb1 dd
  have hw1 := hw.tk (TK.but sb1 fun a ha ys e => by rw [List.mem_singleton.mp ha, hl] at e; cases e)
  have l1 : H1 l = some (.lst (ds ++ [V.ref L])) := by rw [← hH1]; exact upd_same
  have L1 : H1 L = some (.tup [v, optV dv.fail]) := by rw [← hH1, upd_ne (Ne.symm nlL)]; exact upd_same
  have wb1 : H1 wb = some (.lst ((boxM dv.cur (endM dv.cur wr)).map V.str)) := sb1 _ _ (fun e => nwl (List.mem_singleton.mp e)) hwb
  refine ⟨_, rfl, _, rfl, d, pl, el, dv, v, wr, rfl, da1, hw1, df, fun H2 sb2 da2 => ?_⟩
  have l2 := sb2 _ _ nl l1
  have L2' : H2 L = some (.tup [v, optV dv.fail]) := sb2 _ _ (fun e => by
    obtain ⟨⟨dx, h1⟩, h2, h3, _⟩ := da1
    rcases List.mem_cons.mp e with e | e
    · rw [e, h1] at L1; cases L1
    · rcases List.mem_cons.mp e with e | e
      · rw [e, h2] at L1; cases L1
      · rw [List.mem_singleton.mp e, h3] at L1; cases L1) L1
  have wb2 := sb2 _ _ nwb wb1
  have sb : SBut [d, pl, el, l] H H2 := fun b o n h => sb2 b o (fun e => n (by
    rcases List.mem_cons.mp e with e | e
    · rw [e]; simp
    · rcases List.mem_cons.mp e with e | e
      · rw [e]; simp
      · rw [List.mem_singleton.mp e]; simp)) (sb1 b o (fun e => n (by rw [List.mem_singleton.mp e]; simp)) h)
  obtain ⟨⟨dx2, g1⟩, g2, g3, g4⟩ := id da2
  have box : (dv.after wr).cur ∈ boxM dv.cur (endM dv.cur wr) := by
    cases hf : dv.fail with
    | none => rw [after_none hf]; exact hg.endB
    | some z => rw [after_some hf]; exact hz z hf
  obtain ⟨b1, b2, b3, b4⟩ := hg.box _ box
  refine ⟨_, rfl, _, rfl, scal_opt _, _, rfl, ?_⟩
  rw [decide_eq_true rfl]
  refine iteF ⟨_, rfl, d, dx2, _, rfl, g1, d, pl, el, _, rfl, da2, ?_⟩
  have more : ∀ (H3 : Hp), Same H2 H3 → t D [a0, some (.ref d), some (.ref l), some (.str dv.cur), some v, some (.str (endM dv.cur wr)), some (.ref wb), some (optV dv.fail), some (optV dv.fail), none, none, none, none] H3 := fun H3 s3 =>
    ht D H3 a0 _ _ _ _ _ d pl el dv.cur v wr (dv.after wr) (da2.same s3) (((hw1.tk (TK.but sb2 fun a ha ys e => by
      obtain ⟨⟨dx, h1⟩, h2, h3, _⟩ := da1
      rcases List.mem_cons.mp ha with q | ha
      · rw [q, h1] at e; cases e
      · rcases List.mem_cons.mp ha with q | ha
        · rw [q, h2] at e; cases e
        · rw [List.mem_singleton.mp ha, h3] at e; cases e))).same s3) hg.pat b1 b2 b4 fun H4 s4 => k H4 L (fun b o n h => s4 _ _ (s3 _ _ (sb b o n h))) ((da2.same s3).same s4) (s4 _ _ (s3 _ _ l2)) (s4 _ _ (s3 _ _ L2'))
  have pick : ∀ {σ : L2.St} {R : VK}, σ[5]? = some (some (.str (endM dv.cur wr))) → σ[7]? = some (some (optV dv.fail)) → R (.str (dv.after wr).cur) H2 → (if decide (optV dv.fail = V.non) = true then tVar 5 σ H2 R else tVar 7 σ H2 R) := fun {σ R} h5 h7 hR => by
    cases hf : dv.fail with
    | none =>
      rw [after_none hf] at hR
      exact iteT ⟨_, h5, hR⟩
    | some z =>
      rw [after_some hf] at hR
      rw [hf] at h7
      exact iteF ⟨_, h7, hR⟩
  refine ⟨_, rfl, rfl, _, rfl, pick rfl rfl ⟨rfl, _, rfl, ?_⟩⟩
  rw [decide_eq_true rfl]
  refine iteF ⟨_, rfl, d, dx2, _, rfl, g1, d, pl, el, _, rfl, da2, rfl, _, rfl, ?_⟩
  rw [after_fail]
  refine iteF ?_
  refine ⟨_, rfl, d, dx2, _, rfl, g1, d, pl, el, _, rfl, da2, _, rfl, _, rfl, (dv.after wr).cur, dv.cur, endM dv.cur wr, rfl, b1.fit, hg.pat.fit, hg.endP.fit, b2.symm, hg.endFit.2.1.trans b2.symm, fun H3 s3 => ⟨_, rfl, ?_⟩⟩
  rw [b3]
  refine iteF ⟨_, rfl, d, dx2, _, rfl, s3 _ _ g1, d, pl, el, _, rfl, da2.same s3, _, rfl, wb, _, rfl, .inl (SqL.of (s3 _ _ wb2)), rfl, flat_strs _, _, rfl, ?_⟩
  rw [if_pos rfl, inV_mem box]
  exact iteF (more H3 s3)
end
end FB

/-! ## FBLaw10 -/
set_option Elab.async false
set_option linter.all false
set_option maxRecDepth 100000
set_option maxHeartbeats 4000000
/-! _law_step, whole. -/
namespace FB
open PySem PySem.Spec PyProof.Rows L2
def Dev.armed (D : Dev) (z : Option Str) : Dev := { D with fail := z }
/-- one deed: a write and its failure -/
def stepD (D : Dev) (p : Wr × Option Str) : Dev := (D.armed p.2).after p.1
def OkDeed (D : Dev) (p : Wr × Option Str) : Prop := Good D.cur p.1 ∧ ∀ z, p.2 = some z → z ∈ boxM D.cur (endM D.cur p.1)
def DeedA (H : Hp) (u : V) (p : Wr × Option Str) : Prop := ∃ (L : Addr) (v : V), u = .ref L ∧ H L = some (.tup [v, optV p.2]) ∧ WrA H v p.1
theorem DeedA.tk {H H' : Hp} {u : V} {p : Wr × Option Str} (h : DeedA H u p) (s : TK H H') : DeedA H' u p := by
  obtain ⟨L, v, e, h1, h2⟩ := h
  exact ⟨L, v, e, s _ _ h1, h2.tk s⟩
/-- what holds of a device between two deeds -/
structure Rest (D : Dev) (n : Nat) : Prop where
  pat : Pat D.cur
  er : D.er.length = (sizesM D.cur).length
  past : D.past.length = n
  fail : D.fail = none
theorem Dev.armed_none {D : Dev} (h : D.fail = none) : D.armed none = D := by
  cases D
  cases h
  rfl
theorem doFit {D : Dev} {n : Nat} {p : Wr × Option Str} (h : Rest D n) (hn : n ≤ 1000) (ok : OkDeed D p) : DoFit (D.armed p.2) p.1 := by
  obtain ⟨g, hz⟩ := ok
  refine ⟨h.pat.fit, g.fit, g.endP.fit, g.endFit.2.1, by show D.past.length ≤ 1000; rw [h.past]; exact hn, fun b e => ?_, fun z e => ?_⟩
  · show b < D.er.length
    rw [h.er]
    have q := writeM_form g.fit.ok
    rw [e] at q
    exact of_decide_eq_true q
  · obtain ⟨b1, b2, b3, _⟩ := g.box z (hz z e)
    exact ⟨b1.fit, b2, b3⟩
theorem Rest.step {D : Dev} {n : Nat} {p : Wr × Option Str} (h : Rest D n) (ok : OkDeed D p) : Rest (stepD D p) (n + 1) := by
  obtain ⟨wr, z⟩ := p
  obtain ⟨g, hz⟩ := ok
  unfold stepD
  cases z with
  | none =>
    rw [after_none (show (D.armed none).fail = none from rfl)]
    refine ⟨g.endP, ?_, ?_, rfl⟩
    · show (Dev.erOf (D.armed none) wr).length = (sizesM (endM D.cur wr)).length
      rw [g.endFit.2.1, ← h.er]
      cases wr with
      | fall bs => rfl
      | erase b => exact List.length_set
    · show (D.past ++ [D.cur]).length = n + 1
      rw [List.length_append, h.past]
      rfl
  | some z =>
    rw [after_some (show (D.armed (some z)).fail = some z from rfl)]
    obtain ⟨b1, b2, _⟩ := g.box z (hz z rfl)
    refine ⟨b1, ?_, ?_, rfl⟩
    · show D.er.length = (sizesM z).length
      rw [b2, h.er]
    · show (D.past ++ [D.cur]).length = n + 1
      rw [List.length_append, h.past]
      rfl
theorem DevA.ne3 {K : PySem.W.Frag} {H : Hp} {d pl el b : Addr} {D : Dev} (h : DevA K H d pl el D) (e : H b = none) : b ∉ [d, pl, el] := by
  obtain ⟨⟨dx, h1⟩, h2, h3, _⟩ := h
  intro m
  rcases List.mem_cons.mp m with q | m
  · rw [q, h1] at e; cases e
  · rcases List.mem_cons.mp m with q | m
    · rw [q, h2] at e; cases e
    · rw [List.mem_singleton.mp m, h3] at e; cases e
theorem DevA.ntup {K : PySem.W.Frag} {H : Hp} {d pl el : Addr} {D : Dev} (h : DevA K H d pl el D) : ∀ a ∈ [d, pl, el], ∀ ys, H a ≠ some (.tup ys) := by
  obtain ⟨⟨dx, h1⟩, h2, h3, _⟩ := h
  intro a m ys e
  rcases List.mem_cons.mp m with q | m
  · rw [q, h1] at e; cases e
  · rcases List.mem_cons.mp m with q | m
    · rw [q, h2] at e; cases e
    · rw [List.mem_singleton.mp m, h3] at e; cases e
theorem SBut.more {S S' : List Addr} {H H' : Hp} (h : SBut S H H') (s : ∀ a ∈ S, a ∈ S') : SBut S' H H' := fun b o n e => h b o (fun q => n (s b q)) e
theorem flat_le {α β : Type} {f : α → List β} : ∀ {l : List α}, (∀ a ∈ l, (f a).length ≤ 2) → (l.flatMap f).length ≤ 2 * l.length
  | [], _ => Nat.zero_le _
  | a :: l, h => by
    have h1 := h a List.mem_cons_self
    have h2 := flat_le (l := l) fun b hb => h b (List.mem_cons_of_mem _ hb)
    rw [List.flatMap_cons, List.length_append, List.length_cons]
    omega
theorem box_fold (a b : List Nat) : ∀ n, ((List.range n).foldl (boxStepL a b) [[]]).length ≤ 2 ^ n
  | 0 => Nat.le_refl 1
  | n + 1 => by
    rw [List.range_succ, List.foldl_append, List.foldl_cons, List.foldl_nil, Nat.pow_succ]
    have h := box_fold a b n
    have q : (boxStepL a b ((List.range n).foldl (boxStepL a b) [[]]) n).length ≤ 2 * ((List.range n).foldl (boxStepL a b) [[]]).length := by
      unfold boxStepL
      refine flat_le fun t _ => ?_
      rw [List.length_map]
      split
      · exact Nat.le_succ 1
      · exact Nat.le_refl 2
    omega
theorem box_len {x y : Str} (h : Pat x) : (boxM x y).length ≤ 200 := by
  unfold boxM
  rw [List.length_map]
  unfold boxL
  refine Nat.le_trans (box_fold _ _ _) ?_
  have h1 : min (codes x).length (codes y).length ≤ 7 := Nat.le_trans (Nat.min_le_left _ _) h.sz
  exact Nat.le_trans (Nat.pow_le_pow_right (by decide) h1) (by decide)
section
variable {P : Program} {w : World} {K : PySem.W.Frag} {mg : Str → Option Value} {base : Heap}
def spStep (K : PySem.W.Frag) : Sp := fun vs H Q _ => ∃ (p c d pl el l : Addr) (n m : Nat) (dv : Dev) (ds : List V), vs = [.ref p, .ref d, .ref l] ∧ PenA H p c n ∧ n ≤ 890 ∧ DevA K H d pl el dv ∧ Rest dv m ∧ m ≤ 900 ∧ H l = some (.lst ds) ∧ ds.length ≤ 900 ∧ l ∉ [d, pl, el] ∧ p ∉ [d, pl, el, l] ∧ c ∉ [d, pl, el, l] ∧
  ∀ H' q u, SBut [p, d, pl, el, l] H H' → PenA H' p c (n + 4) → DevA K H' d pl el (stepD dv q) → OkDeed dv q → H' l = some (.lst (ds ++ [u])) → DeedA H' u q → Q (.bl true) H'
theorem ok_step (T : Txt K mg) : FnOk P w K mg base CX0 41 (a_l_step K) (fdA K (a_l_step K)) ["_law_pen_here", "_law_device", "_law_deeds"] (spStep K) := by
  refine FunD.ok T.l_step sc_step (fun vs H Q E h => ?_) (fun cdv A outer s H vs Q E hr h => ?_)
  · obtain ⟨p, c, d, pl, el, l, n, m, dv, ds, rfl, _⟩ := h
    rfl
  · obtain ⟨p, c, d, pl, el, l, n, m, dv, ds, rfl, hp, hn, da, hrest, hm, hl, hds, nl, np, nc, k⟩ := h
    have nd := sc_step.nd
    have GP := ok_d_pattern (P := P) (w := w) (base := base) T
    have GH := ok_chosen (P := P) (w := w) (base := base) T
    have GE := ok_end (P := P) (w := w) (base := base) T
    have GW := ok_write_box (P := P) (w := w) (base := base) T
    have GT := ok_take (P := P) (w := w) (base := base) T
    have GA := ok_d_arm (P := P) (w := w) (base := base) T
    obtain ⟨t, pt, ht⟩ := step_mid (P := P) (w := w) (base := base) (outer := outer) (H0 := H) (E := E) T hr
    refine ⟨_, PSs.nox (pss_cons (ps_set (i := 3) nd rfl (.inl rfl) (pe_prop (pv 1) T.cD T.pPattern GP (hr.mono (by decide)) T.n_d_pattern .nil pass0 rfl))
      (pss_cons (ps_set (i := 4) nd rfl (.inr rfl) (pe_call GH (hr.mono (by decide)) (by rfl) T.g_l_chosen T.l_chosen.kp T.n_l_chosen .nil pass0 (pa_cons (pv 0) (pa_cons (pv 3) pa_nil))))
      (pss_cons (ps_set (i := 5) nd rfl (.inl rfl) (pe_call GE (hr.mono (by decide)) (by rfl) T.g_end T.end.kp T.n_end .nil pass0 (pa_cons (pv 3) (pa_cons (pv 4) pa_nil))))
      (pss_cons (ps_set (i := 6) nd rfl (.inl rfl) (pe_call GW (hr.mono (by decide)) (by rfl) T.g_write_box T.write_box.kp T.n_write_box .nil pass0 (pa_cons (pv 3) (pa_cons (pv 4) pa_nil))))
      (pss_cons (ps_set (i := 7) nd rfl (.inl rfl) pe_non)
      (pss_cons (ps_if (pt_cmpR op_eq (pe_call GT (hr.mono (by decide)) (by rfl) T.g_l_take T.l_take.kp T.n_l_take .nil pass0 (pa_cons (pv 0) (pa_cons pe_int pa_nil))) pe_int (nomark _))
        (pss_cons (ps_set (i := 7) nd rfl (.inl rfl) (pe_ix ix_list (pv 6) (pe_call GT (hr.mono (by decide)) (by rfl) T.g_l_take T.l_take.kp T.n_l_take .nil pass0 (pa_cons (pv 0) (pa_cons (pe_callB call_len_seq (by rfl) T.b_len PySem.boot_len (pa_cons (pv 6) pa_nil)) pa_nil))) (fun _ _ => rfl)))
        (pss_one (ps_expr (pe_meth (pv 1) T.cD T.mArm GA (hr.mono (by decide)) T.n_d_arm .nil pass0 (pa_cons (pv 7) pa_nil))))) pss_nil) pt)))))), ?_⟩
    have nt4 : ∀ {H' : Hp} {D' : Dev} {ys : List V}, DevA K H' d pl el D' → H' l = some (.lst ys) → ∀ a ∈ [d, pl, el, l], ∀ zs, H' a ≠ some (.tup zs) := fun {H' D' ys} h hl' a ha zs e => by
      by_cases q : a ∈ [d, pl, el]
      · exact h.ntup a q zs e
      · have e2 : a = l := by
          simp only [List.mem_cons, List.not_mem_nil, or_false] at ha q
          rcases ha with h | h | h | h
          · exact absurd (.inl h) q
          · exact absurd (.inr (.inl h)) q
          · exact absurd (.inr (.inr h)) q
          · exact h
        rw [e2, hl'] at e
        cases e
    have np3 : ∀ a ∈ [d, pl, el], a ∉ [p] := fun a ha e => np (by
      rw [← List.mem_singleton.mp e]
      rcases List.mem_cons.mp ha with q | ha
      · rw [q]; simp
      · rcases List.mem_cons.mp ha with q | ha
        · rw [q]; simp
        · rw [List.mem_singleton.mp ha]; simp)
    have npl : l ∉ [p] := fun e => np (by rw [← List.mem_singleton.mp e]; simp)
    obtain ⟨⟨dx, h1⟩, h2, h3, h4⟩ := id da
    refine ⟨_, rfl, d, dx, _, rfl, h1, d, pl, el, dv, rfl, da, _, rfl, _, rfl, p, c, n, dv.cur, rfl, hp, by omega, hrest.pat, fun H1 v wr sb1 hp1 hw1 hmem => ?_⟩
    have g := hrest.pat.good hmem
    refine ⟨_, rfl, _, rfl, v, wr, dv.cur, rfl, hw1, hrest.pat.fit, g.fit, fun H2 s2 => ?_⟩
    refine ⟨_, rfl, _, rfl, v, wr, dv.cur, rfl, hw1.same s2, hrest.pat.fit, g.fit, g.endP.fit, g.endFit.2.1.symm, Nat.le_trans hrest.pat.sz (by decide), g.few, fun H3 wb s3 hwb0 hwb => ?_⟩
    have da1 := da.but sb1 np3
    have da2 := da1.same s2
    have da3 := da2.same s3
    have hp3 := (hp1.same s2).same s3
    have hw3 := (hw1.same s2).same s3
    have l3 := s3 _ _ (s2 _ _ (sb1 _ _ npl hl))
    have wbne := da2.ne3 hwb0
    have wbl : wb ≠ l := (ne_of_none (s2 _ _ (sb1 _ _ npl hl)) hwb0).symm
    have wbp : wb ∉ [p] := fun e => hp3.nl hwb e
    have sb3 : SBut [p] H H3 := (sb1.trans (.of s2)).trans (.of s3)
    have big : ∀ a ∈ [d, pl, el, l], a ∈ [p, d, pl, el, l] := fun a ha => List.mem_cons_of_mem _ ha
    refine ⟨_, rfl, p, c, n + 2, 3, rfl, hp3, by omega, by decide, by decide, fun H4 r hr4 sb4 hp4 => ⟨rfl, _, rfl, ite2 (fun _ => ?_) (fun _ => ?_)⟩⟩
    · have da4 := da3.but sb4 np3
      have hw4 := hw3.tk (TK.but sb4 hp3.ntup)
      have wb4 := sb4 _ _ wbp hwb
      refine ⟨_, rfl, _, rfl, _, rfl, wb, _, rfl, .inl (SqL.of wb4), p, c, n + 3, _, rfl, hp4, by omega, ?_, ?_, fun H5 j hj sb5 hp5 => ?_⟩
      · rw [List.length_map]
        exact List.length_pos_of_mem g.endB
      · rw [List.length_map]
        exact Nat.le_trans (box_len hrest.pat) (by decide)
      rw [List.length_map] at hj
      have da5 := da4.but sb5 np3
      have hw5 := hw4.tk (TK.but sb5 hp4.ntup)
      have wb5 := sb5 _ _ wbp wb4
      have l5 := sb5 _ _ npl (sb4 _ _ npl l3)
      obtain ⟨zz, hzz⟩ : ∃ zz, (boxM dv.cur (endM dv.cur wr))[j]? = some zz := ⟨_, List.getElem?_eq_getElem hj⟩
      have hmz : zz ∈ boxM dv.cur (endM dv.cur wr) := List.mem_of_getElem? hzz
      obtain ⟨b1, b2, _⟩ := g.box zz hmz
      obtain ⟨⟨dx5, e1⟩, e2, e3, _⟩ := id da5
      refine ⟨_, _, j, .str zz, rfl, rfl, SqL.of wb5, atI_nat (by rw [List.getElem?_map, hzz]; rfl), _, rfl, d, dx5, _, rfl, e1, rfl, _, rfl, d, pl, el, dv, some zz, rfl, da5, fun y hy => ?_, fun H6 sb6 da6 => ?_⟩
      · cases hy
        exact ⟨b1.fit, hrest.pat.fit, b2⟩
      have nd6 : ∀ {b : Addr}, b ∉ [d, pl, el] → b ∉ [d] := fun h e => h (by rw [List.mem_singleton.mp e]; simp)
      have hw6 := hw5.tk (TK.but sb6 fun a ha ys e => by rw [List.mem_singleton.mp ha, e1] at e; cases e)
      have ok : OkDeed dv (wr, some zz) := ⟨g, fun z e => by cases e; exact hmz⟩
      have p6 := hp5.but sb6 (fun e => np (by rw [List.mem_singleton.mp e]; simp)) (fun e => nc (by rw [List.mem_singleton.mp e]; simp))
      refine ht _ H6 _ d pl el l wb v wr (dv.armed (some zz)) ds da6 hw6 g (doFit hrest (by omega) ok) (sb6 _ _ (nd6 wbne) wb5) (sb6 _ _ (nd6 nl) l5) nl wbne wbl (by omega) (fun z e => by cases e; exact hmz) fun H7 L sb7 da7 l7 L7 => ?_
      have hw7 := hw6.tk (TK.but sb7 (nt4 da6 (sb6 _ _ (nd6 nl) l5)))
      have one : ∀ a ∈ [p], a ∈ [p, d, pl, el, l] := fun a ha => by rw [List.mem_singleton.mp ha]; simp
      have two : ∀ a ∈ [d], a ∈ [p, d, pl, el, l] := fun a ha => by rw [List.mem_singleton.mp ha]; simp
      exact k H7 (wr, some zz) (.ref L) ((((sb3.more one).trans (sb4.more one)).trans (sb5.more one)).trans (sb6.more two) |>.trans (sb7.more big)) (p6.but sb7 np nc) da7 ok l7 ⟨L, v, rfl, L7, hw7⟩
    · have da4 := da3.but sb4 np3
      have hw4 := hw3.tk (TK.but sb4 hp3.ntup)
      have wb4 := sb4 _ _ wbp hwb
      have l4 := sb4 _ _ npl l3
      have ok : OkDeed dv (wr, none) := ⟨g, fun z e => nomatch e⟩
      have da5 : DevA K H4 d pl el (dv.armed none) := by rw [Dev.armed_none hrest.fail]; exact da4
      refine ht _ H4 _ d pl el l wb v wr (dv.armed none) ds da5 hw4 g (doFit hrest (by omega) ok) wb4 l4 nl wbne wbl (by omega) (fun z e => nomatch e) fun H7 L sb7 da7 l7 L7 => ?_
      have hw7 := hw4.tk (TK.but sb7 (nt4 da4 l4))
      have one : ∀ a ∈ [p], a ∈ [p, d, pl, el, l] := fun a ha => by rw [List.mem_singleton.mp ha]; simp
      exact k H7 (wr, none) (.ref L) (((sb3.more one).trans (sb4.more one)).trans (sb7.more big)) ((hp4.mono (by omega)).but sb7 np nc) da7 ok l7 ⟨L, v, rfl, L7, hw7⟩
end
end FB

/-! ## FBLaw11 -/
set_option Elab.async false
set_option linter.all false
set_option maxRecDepth 100000
set_option maxHeartbeats 4000000
/-! _law_again. -/
namespace FB
open PySem PySem.Spec PyProof.Rows L2
def initD (x : Str) : Dev := ⟨[], x, 0, 0, List.replicate (sizesM x).length 0, none⟩
def runD (D : Dev) (ps : List (Wr × Option Str)) : Dev := ps.foldl stepD D
def Okds (D : Dev) (ps : List (Wr × Option Str)) : Prop := ∀ (i : Nat) p, ps[i]? = some p → OkDeed (runD D (ps.take i)) p
theorem run_snoc (D : Dev) (ps : List (Wr × Option Str)) (p : Wr × Option Str) : runD D (ps ++ [p]) = stepD (runD D ps) p := by
  unfold runD
  rw [List.foldl_append]
  rfl
theorem Okds.snoc {D : Dev} {ps : List (Wr × Option Str)} {p : Wr × Option Str} (h : Okds D ps) (ok : OkDeed (runD D ps) p) : Okds D (ps ++ [p]) := fun i q e => by
  by_cases hi : i < ps.length
  · rw [List.getElem?_append_left hi] at e
    rw [List.take_append_of_le_length (Nat.le_of_lt hi)]
    exact h i q e
  · rw [List.getElem?_append_right (by omega)] at e
    have hi2 : i - ps.length = 0 := by
      rcases Nat.eq_zero_or_pos (i - ps.length) with q | q
      · exact q
      · rw [List.getElem?_eq_none (by rw [List.length_singleton]; omega)] at e
        cases e
    rw [hi2] at e
    have e2 : p = q := by simpa using e
    have hi3 : i = ps.length := by omega
    rw [← e2, hi3, List.take_append_of_le_length (Nat.le_refl _), List.take_length]
    exact ok
theorem take_succ_get {α : Type} {xs : List α} {i : Nat} {x : α} (h : xs[i]? = some x) : xs.take (i + 1) = xs.take i ++ [x] := by
  have q := take_succ_map id h
  rw [List.map_id, List.map_id] at q
  exact q
theorem rest_init {x : Str} (h : Pat x) : Rest (initD x) 0 := ⟨h, List.length_replicate, rfl, rfl⟩
theorem rest_run {x : Str} {ps : List (Wr × Option Str)} (h : Pat x) (ok : Okds (initD x) ps) : ∀ i, i ≤ ps.length → Rest (runD (initD x) (ps.take i)) i
  | 0, _ => by
    rw [List.take_zero]
    exact rest_init h
  | i + 1, hi => by
    have hi2 : i < ps.length := by omega
    have e : ps[i]? = some ps[i] := List.getElem?_eq_getElem hi2
    rw [take_succ_get e, run_snoc]
    exact (rest_run h ok i (by omega)).step (ok i _ e)
def DeedsA (H : Hp) (us : List V) (ps : List (Wr × Option Str)) : Prop := us.length = ps.length ∧ ∀ (i : Nat) p, ps[i]? = some p → ∃ u, us[i]? = some u ∧ DeedA H u p
theorem DeedsA.tk {H H' : Hp} {us : List V} {ps : List (Wr × Option Str)} (h : DeedsA H us ps) (s : TK H H') : DeedsA H' us ps := ⟨h.1, fun i p e => by
  obtain ⟨u, e1, e2⟩ := h.2 i p e
  exact ⟨u, e1, e2.tk s⟩⟩
theorem TK.same {H H' : Hp} (s : Same H H') : TK H H' := fun _ _ h => s _ _ h
theorem upd_none {H : Hp} {a b : Addr} {o : HO} (h : upd H a o b = none) : b ≠ a ∧ H b = none := by
  have n : b ≠ a := fun e => by
    rw [e, upd_same] at h
    cases h
  rw [upd_ne n] at h
  exact ⟨n, h⟩
section
variable {P : Program} {w : World} {K : PySem.W.Frag} {mg : Str → Option Value} {base : Heap}
def nAgain : List Str := ["_law_x", "_law_deeds", "_law_device", "_law_write", "_law_z"]
theorem init_at {H : Hp} {x : Str} {R : Hp → Prop} {E : XK} {a dx : Addr} (na : H a = none) (nd : H dx = none) (hx : Pat x) (k : ∀ H' pl el, Same H H' → H a = none → H pl = none → H el = none → DevA K H' a pl el (initD x) → R H') :
    spDInit K (.ref a :: ([V.str x] ++ [])) (upd (upd H dx (.own a)) a (.ins (He.ga K "Device") dx [])) (fun v H2 => v = .non ∧ R H2) E :=
  ⟨a, dx, x, rfl, upd_same, hx.fit, by rw [hx.sizes, List.length_map]; exact Nat.le_trans (pat_blocks hx).1 (by decide), fun H' pl el sb h1 h2 da => ⟨rfl, k H' pl el (Same.made na nd fun b o hb ne => sb b o ne hb) na (upd_none (upd_none h1).2).2 (upd_none (upd_none h2).2).2 da⟩⟩
def spAgain (K : PySem.W.Frag) : Sp := fun vs H Q _ => ∃ (l : Addr) (x : Str) (us : List V) (ps : List (Wr × Option Str)), vs = [.str x, .ref l] ∧ Pat x ∧ H l = some (.lst us) ∧ DeedsA H us ps ∧ Okds (initD x) ps ∧ ps.length ≤ 900 ∧
  ∀ H' d pl el, Same H H' → DevA K H' d pl el (runD (initD x) ps) → Q (.ref d) H'
theorem sc_again : FnScope nAgain ["_law_x", "_law_deeds"] (defScope sAgain) := ⟨rfl, rfl, rfl, by decide +kernel, rfl, by decide +kernel, by decide +kernel⟩
theorem ok_again (T : Txt K mg) : FnOk P w K mg base CX0 22 (a_l_again K) (fdA K (a_l_again K)) ["_law_x", "_law_deeds"] (spAgain K) := by
  refine FunD.ok T.l_again sc_again (fun vs H Q E h => ?_) (fun cdv A outer s H vs Q E hr h => ?_)
  · obtain ⟨l, x, us, ps, rfl, _⟩ := h
    rfl
  · obtain ⟨l, x, us, ps, rfl, hx, hl, hd, hok, hlen, k⟩ := h
    have nd := sc_again.nd
    have GI := ok_d_init (P := P) (w := w) (base := base) T
    have GA := ok_d_arm (P := P) (w := w) (base := base) T
    have GC := ok_lcut (P := P) (w := w) (base := base) T
    refine ⟨_, PSs.nox (pss_cons (ps_set (i := 2) nd rfl (.inl rfl) (pe_make T.kD GI (hr.mono (by decide)) (by rfl) T.g_Device T.n_d_init .nil pass0 (pa_cons (pv 0) pa_nil)))
      (pss_cons (ps_for PassesOwn.never rfl (pi_list (pv 1)) (pg_tup rfl (pgs_cons (pg_name (i := 3) nd rfl (.inl rfl)) (pgs_cons (pg_name (i := 4) nd rfl (.inl rfl)) pgs_nil)))
        (pss_cons (ps_expr (pe_meth (pv 2) T.cD T.mArm GA (hr.mono (by decide)) T.n_d_arm .nil pass0 (pa_cons (pv 4) pa_nil)))
        (pss_one (ps_expr (pe_call GC (hr.mono (by decide)) (by rfl) T.g_l_cut T.l_cut.kp T.n_l_cut .nil pass0 (pa_cons (pv 2) (pa_cons (pv 3) pa_nil)))))))
      (pss_one (ps_ret (pv 2))))), ?_⟩
    refine ⟨_, rfl, fun d ax na nax _ => init_at na nax hx fun H1 pl el s1 _ hpl hel da => ?_⟩
    have nl : l ∉ [d, pl, el] := fun e => by
      rcases List.mem_cons.mp e with e | e
      · rw [e, na] at hl; cases hl
      · rcases List.mem_cons.mp e with e | e
        · rw [e, hpl] at hl; cases hl
        · rw [List.mem_singleton.mp e, hel] at hl; cases hl
    have l1 := s1 _ _ hl
    have dtk : ∀ {H2 : Hp} {D : Dev}, DevA K H1 d pl el D → SBut [d, pl, el] H1 H2 → DeedsA H2 us ps := fun da' sb => (hd.tk (.same s1)).tk (TK.but sb da'.ntup)
    refine ⟨_, rfl, l, rfl, ⟨_, SqL.of l1⟩, for_list (K := K) (a := l) (xs := us) (fun i σ H' => ∃ v3 v4, σ = [some (.str x), some (.ref l), some (.ref d), v3, v4] ∧ SBut [d, pl, el] H1 H' ∧ DevA K H' d pl el (runD (initD x) (ps.take i))) ?_ ?_ ?_ ?_⟩
    · exact ⟨none, none, rfl, SBut.refl, by rw [List.take_zero]; exact da⟩
    · rintro i σ H' _ ⟨v3, v4, _, sb, _⟩
      exact SqL.of (sb _ _ nl l1)
    · rintro i u σ H' hu ⟨v3, v4, rfl, sb, di⟩
      have hi : i < ps.length := by rw [← hd.1]; exact (List.getElem?_eq_some_iff.mp hu).1
      have hp : ps[i]? = some ps[i] := List.getElem?_eq_getElem hi
      generalize ps[i] = q at hp
      have ri := rest_run hx hok i (Nat.le_of_lt hi)
      have oi := hok i q hp
      obtain ⟨u2, eu, L, v, rfl, hL, hw⟩ := (dtk da sb).2 i q hp
      rw [hu] at eu
      cases eu
      refine ⟨L, _, rfl, SqT.of hL, rfl, _, _, rfl, _, _, rfl, rfl, ?_⟩
      obtain ⟨⟨dx, h1⟩, h2, h3, h4⟩ := id di
      refine ⟨_, rfl, d, dx, _, rfl, h1, rfl, _, rfl, d, pl, el, _, q.2, rfl, di, fun y hy => ?_, fun H2 sb2 da2 => ?_⟩
      · obtain ⟨b1, b2, _⟩ := oi.1.box y (oi.2 y hy)
        exact ⟨b1.fit, ri.pat.fit, b2⟩
      have hw2 := hw.tk (TK.but sb2 fun a ha ys e => by rw [List.mem_singleton.mp ha, h1] at e; cases e)
      refine ⟨_, rfl, _, rfl, d, pl, el, (runD (initD x) (ps.take i)).armed q.2, v, q.1, rfl, da2, hw2, doFit ri (by omega) oi, fun H3 sb3 da3 => ?_⟩
      refine ⟨_, _, rfl, (sb.trans (sb2.more fun a ha => by rw [List.mem_singleton.mp ha]; simp)).trans sb3, ?_⟩
      rw [take_succ_get hp, run_snoc]
      exact da3
    · rintro σ H' ⟨v3, v4, rfl, sb, di⟩
      rw [hd.1, List.take_length] at di
      refine ⟨_, rfl, k H' d pl el (fun b o hb => sb b o (fun e => ?_) (s1 _ _ hb)) di⟩
      rcases List.mem_cons.mp e with e | e
      · rw [e, na] at hb; cases hb
      · rcases List.mem_cons.mp e with e | e
        · rw [e, hpl] at hb; cases hb
        · rw [List.mem_singleton.mp e, hel] at hb; cases hb
end
end FB

/-! ## FBLaw12 -/
set_option Elab.async false
set_option linter.all false
set_option maxRecDepth 100000
set_option maxHeartbeats 4000000
/-! law, the end of a turn: what is asked of twenty deeds. -/
namespace FB
open PySem PySem.Spec PyProof.Rows L2
def forSuite : Stmt → List Stmt
  | .For (body := b) .. => b
  | _ => []
def suiteLaw : List Stmt := match (defBody sLaw)[1]? with
  | some st => forSuite st
  | none => []
def isEra : Wr → Bool
  | .fall _ => false
  | .erase _ => true
def cutsN (ps : List (Wr × Option Str)) : Nat := (ps.filter fun p => p.2.isSome).length
def eraN (ps : List (Wr × Option Str)) : Nat := (ps.filter fun p => p.2.isNone && isEra p.1).length
theorem cutsN_snoc (ps : List (Wr × Option Str)) (p : Wr × Option Str) : cutsN (ps ++ [p]) = cutsN ps + if p.2.isSome then 1 else 0 := by
  unfold cutsN
  rw [List.filter_append, List.length_append]
  cases h : p.2.isSome <;> simp [List.filter_cons, h]
theorem eraN_snoc (ps : List (Wr × Option Str)) (p : Wr × Option Str) : eraN (ps ++ [p]) = eraN ps + if (p.2.isNone && isEra p.1) = true then 1 else 0 := by
  unfold eraN
  rw [List.filter_append, List.length_append]
  cases h : (p.2.isNone && isEra p.1) <;> simp only [List.filter_cons, List.filter_nil, h] <;> rfl
theorem sum_set : ∀ (l : List Nat) (b : Nat), b < l.length → (l.set b (l.getD b 0 + 1)).sum = l.sum + 1
  | [], b, h => by simp at h
  | a :: l, 0, _ => by
    simp
    omega
  | a :: l, b + 1, h => by
    have := sum_set l b (by simpa using h)
    rw [List.set_cons_succ, List.sum_cons, List.sum_cons, List.getD_cons_succ, this]
    omega
structure Tally (x : Str) (D : Dev) (ps : List (Wr × Option Str)) : Prop where
  both : D.ended + D.cuts = ps.length
  cuts : D.cuts = cutsN ps
  er : D.er.sum = eraN ps
  head : (D.past ++ [D.cur])[0]? = some x
  pats : ∀ z ∈ D.past ++ [D.cur], Pat z
theorem Tally.step {x : Str} {D : Dev} {ps : List (Wr × Option Str)} {n : Nat} {p : Wr × Option Str} (t : Tally x D ps) (r : Rest D n) (ok : OkDeed D p) : Tally x (stepD D p) (ps ++ [p]) := by
  obtain ⟨wr, z⟩ := p
  have head : ∀ y, ((D.past ++ [D.cur]) ++ [y])[0]? = some x := fun y => by
    rw [List.getElem?_append_left (by rw [List.length_append, List.length_singleton]; omega)]
    exact t.head
  have pats : ∀ {y}, Pat y → ∀ u ∈ (D.past ++ [D.cur]) ++ [y], Pat u := fun {y} hy u hu => by
    rcases List.mem_append.mp hu with h | h
    · exact t.pats u h
    · rw [List.mem_singleton.mp h]
      exact hy
  have r2 := (r.step ok).pat
  unfold stepD at r2 ⊢
  cases z with
  | none =>
    rw [after_none (show (D.armed none).fail = none from rfl)] at r2 ⊢
    refine ⟨?_, ?_, ?_, head _, pats r2⟩
    · rw [List.length_append, List.length_singleton, ← t.both]
      show D.ended + 1 + D.cuts = _
      omega
    · rw [cutsN_snoc, ← t.cuts]
      rfl
    · rw [eraN_snoc, ← t.er]
      cases wr with
      | fall bs => rfl
      | erase b =>
        show (D.er.set b (D.er.getD b 0 + 1)).sum = D.er.sum + 1
        refine sum_set _ _ ?_
        rw [r.er]
        exact of_decide_eq_true (writeM_form ok.1.fit.ok)
  | some z =>
    rw [after_some (show (D.armed (some z)).fail = some z from rfl)] at r2 ⊢
    refine ⟨?_, ?_, ?_, head _, pats r2⟩
    · rw [List.length_append, List.length_singleton, ← t.both]
      show D.ended + (D.cuts + 1) = _
      omega
    · rw [cutsN_snoc, ← t.cuts]
      rfl
    · rw [eraN_snoc, ← t.er]
      rfl
theorem sum_zeros : ∀ n : Nat, (List.replicate n 0).sum = 0
  | 0 => rfl
  | n + 1 => by rw [List.replicate_succ, List.sum_cons, sum_zeros n]
theorem tally {x : Str} {ps : List (Wr × Option Str)} (hx : Pat x) (ok : Okds (initD x) ps) : ∀ i, i ≤ ps.length → Tally x (runD (initD x) (ps.take i)) (ps.take i)
  | 0, _ => by
    rw [List.take_zero]
    exact ⟨rfl, rfl, sum_zeros _, rfl, fun z hz => by
      have e : z = x := by simpa [initD, runD] using hz
      rw [e]
      exact hx⟩
  | i + 1, hi => by
    have hi2 : i < ps.length := by omega
    have e : ps[i]? = some ps[i] := List.getElem?_eq_getElem hi2
    rw [take_succ_get e, run_snoc]
    exact (tally hx ok i (by omega)).step (rest_run hx ok i (by omega)) (ok i _ e)
theorem cast_sum : ∀ l : List Nat, (l.map fun n : Nat => (n : Int)).sum = ((l.sum : Nat) : Int)
  | [] => rfl
  | a :: r => by
    rw [List.map_cons, List.sum_cons, List.sum_cons, cast_sum r]
    omega
theorem pats_ok : patsL.all (fun l => l.all fun c => decide (c < 0x110000)) = true := by decide +kernel
theorem Pat.strOk {x : Str} (h : Pat x) : PySem.PyData.strOk x = true := by
  have q := List.all_eq_true.mp pats_ok _ (pat_mem h)
  show x.cps.all (fun c => decide (c < 0x110000)) = true
  rw [← Array.all_toList]
  exact q
theorem strs_data : ∀ {xs : List Str}, (∀ z ∈ xs, Pat z) → PyData.canLayAll0 (xs.map PyData.str) = true ∧ PyData.depthAll (xs.map PyData.str) = 0
  | [], _ => ⟨rfl, rfl⟩
  | z :: r, h => by
    obtain ⟨h1, h2⟩ := strs_data (xs := r) fun y hy => h y (List.mem_cons_of_mem _ hy)
    have hz := (h z List.mem_cons_self).strOk
    refine ⟨?_, ?_⟩
    · show (PySem.PyData.strOk z && PyData.canLayAll0 (r.map PyData.str)) = true
      rw [hz, h1]
      rfl
    · show max 0 (PyData.depthAll (r.map PyData.str)) = 0
      rw [h2]
      rfl
theorem dpAll_strs {K : PySem.W.Frag} {H : Hp} : ∀ xs : List Str, DpAll K H (xs.map V.str) (xs.map PyData.str)
  | [] => .nil
  | x :: xs => .cons (.str x) (dpAll_strs xs)
def devD (D : Dev) : PyData := .list [.list ((D.past ++ [D.cur]).map PyData.str), .int D.ended, .int D.cuts, .tuple (D.er.map intD)]
theorem dev_data {x : Str} {D : Dev} {ps : List (Wr × Option Str)} (t : Tally x D ps) : SeqAt.shaped (devD D) = true ∧ PyData.eqv (devD D) (devD D) = true := by
  obtain ⟨h1, h2⟩ := strs_data t.pats
  obtain ⟨h3, h4⟩ := shaped_flat (f := intD) (xs := D.er) (fun x => ⟨rfl, rfl⟩)
  have lay : (devD D).canLay0 = true := by
    show (PyData.canLayAll0 ((D.past ++ [D.cur]).map PyData.str) && (true && (true && (PyData.canLayAll0 (D.er.map intD) && true)))) = true
    rw [h1, h3]
    rfl
  refine ⟨?_, SeqAt.eqv_refl _ lay⟩
  unfold SeqAt.shaped
  rw [lay]
  have dep : (devD D).depth = 2 := by
    show max (PyData.depthAll ((D.past ++ [D.cur]).map PyData.str) + 1) (max 0 (max 0 (max (PyData.depthAll (D.er.map intD) + 1) 0))) + 1 = 2
    rw [h2, h4]
    rfl
  rw [dep]
  rfl
section
variable {P : Program} {w : World} {K : PySem.W.Frag} {mg : Str → Option Value} {base : Heap}
def nLaw : List Str := ["_law_script", "_law_pen_here", "_law_turn", "_law_x", "_law_device", "_law_deeds", "_law_k", "_law_stood", "_law_other", "_law_ended", "_law_write", "_law_z"]
theorem sc_law : FnScope nLaw ["_law_script"] (defScope sLaw) := ⟨rfl, rfl, rfl, by decide +kernel, rfl, by decide +kernel, by decide +kernel⟩
abbrev cxLaw (P : Program) (w : World) (K : PySem.W.Frag) (mg : Str → Option Value) (base : Heap) (cdv : Value) (A : Around) (outer : List Env) (s : Shared) (H : Hp) (E : XK) : Cx := (cxOf CX0 P w K mg base nLaw "law" (defScope sLaw) (a_l_law K) cdv A outer s H E).nox
theorem turn_end (T : Txt K mg) {cdv : Value} {A : Around} {outer : List Env} {s : Shared} {H0 : Hp} {E : XK} (hr : Room 45 (A.deeper (envOfC "law" (defScope sLaw) s.heap.objs.size (a_l_law K) cdv))) :
    ∃ t, PSs (cxLaw P w K mg base cdv A outer s H0 E) (suiteLaw.drop 4) t ∧ ∀ (D : Ends) (H : Hp) (a0 a1 a2 a6 a7 a8 a9 : Option V) (d pl el l : Addr) (x : Str) (us : List V) (ps : List (Wr × Option Str)), Pat x → Okds (initD x) ps → ps.length = 20 → DevA K H d pl el (runD (initD x) ps) → H l = some (.lst us) → DeedsA H us ps →
      (∀ H' b7 b8 b9, Same H H' → D.nx [a0, a1, a2, some (.str x), some (.ref d), some (.ref l), a6, b7, b8, b9, none, none] H') → t D [a0, a1, a2, some (.str x), some (.ref d), some (.ref l), a6, a7, a8, a9, none, none] H := by
  have nd := sc_law.nd
  have GS := ok_d_stood (P := P) (w := w) (base := base) T
  have GP := ok_d_pattern (P := P) (w := w) (base := base) T
  have GE := ok_d_ended (P := P) (w := w) (base := base) T
  have GC := ok_d_cuts (P := P) (w := w) (base := base) T
  have GR := ok_d_erases (P := P) (w := w) (base := base) T
  have GA := ok_again (P := P) (w := w) (base := base) T
  refine ⟨_, pss_cons (ps_set (i := 7) nd rfl (.inl rfl) (pe_meth0 (pv 4) T.cD T.mStood GS (hr.mono (by decide)) T.n_d_stood .nil pass0))
    (pss_cons (ps_if (pw_or (pt_cmpR op_ne (pe_ix ix_list (pv 7) pe_int (fun _ _ => rfl)) (pv 3) (nomark _)) (pw_or (pt_cmpR op_ne (pe_ix ix_list (pv 7) (pe_op op_sub (pe_callB call_len_seq (by rfl) T.b_len PySem.boot_len (pa_cons (pv 7) pa_nil)) pe_int) (fun _ _ => rfl)) (pe_prop (pv 4) T.cD T.pPattern GP (hr.mono (by decide)) T.n_d_pattern .nil pass0 rfl) (nomark _))
        (pw_or1 (pt_cmpR op_ne (pe_callB call_len_seq (by rfl) T.b_len PySem.boot_len (pa_cons (pv 7) pa_nil)) pe_int (nomark _))))).pt (pss_one (ps_ret pe_bl)) pss_nil)
    (pss_cons (ps_if (pw_or (pt_cmpR op_ne (pe_op op_add (pe_prop (pv 4) T.cD T.pEnded GE (hr.mono (by decide)) T.n_d_ended .nil pass0 rfl) (pe_prop (pv 4) T.cD T.pCuts GC (hr.mono (by decide)) T.n_d_cuts .nil pass0 rfl)) pe_int (nomark _))
        (pw_or1 (pt_cmpR op_ne (pe_prop (pv 4) T.cD T.pCuts GC (hr.mono (by decide)) T.n_d_cuts .nil pass0 rfl) (pe_callB call_len_seq (by rfl) T.b_len PySem.boot_len (pa_cons
          (pe_lc (own := [("_law_write", 10), ("_law_z", 11)]) (g := gTup K 2 (gCons (gName 10) (gCons (gName 11) gNil))) rfl nd (pi_list (pv 5)) (blkOk_by (N := nLaw) (sc := defScope sLaw) (by decide +kernel))
            (fun _ _ _ _ _ => pg_tupK (K := K) rfl rfl (pgs_cons (pg_name (i := 10) nd rfl (.inl rfl)) (pgs_cons (pg_name (i := 11) nd rfl (.inl rfl)) pgs_nil))) (fun _ _ _ _ _ => pts_one (pt_cmpR op_notN (pv 11) pe_non (nomark _))) (fun _ _ _ _ _ => pv 11)) pa_nil)) (nomark _)))).pt (pss_one (ps_ret pe_bl)) pss_nil)
    (pss_cons (ps_set (i := 8) nd rfl (.inl rfl) (pe_call GA (hr.mono (by decide)) (by rfl) T.g_l_again T.l_again.kp T.n_l_again .nil pass0 (pa_cons (pv 3) (pa_cons (pv 5) pa_nil))))
    (pss_cons (ps_if (pt_cmpR (op_neD hr.units) (pe_lst (pa_cons (pe_meth0 (pv 8) T.cD T.mStood GS (hr.mono (by decide)) T.n_d_stood .nil pass0) (pa_cons (pe_prop (pv 8) T.cD T.pEnded GE (hr.mono (by decide)) T.n_d_ended .nil pass0 rfl) (pa_cons (pe_prop (pv 8) T.cD T.pCuts GC (hr.mono (by decide)) T.n_d_cuts .nil pass0 rfl) (pa_cons (pe_prop (pv 8) T.cD T.pErases GR (hr.mono (by decide)) T.n_d_erases .nil pass0 rfl) pa_nil)))))
        (pe_lst (pa_cons (pv 7) (pa_cons (pe_prop (pv 4) T.cD T.pEnded GE (hr.mono (by decide)) T.n_d_ended .nil pass0 rfl) (pa_cons (pe_prop (pv 4) T.cD T.pCuts GC (hr.mono (by decide)) T.n_d_cuts .nil pass0 rfl) (pa_cons (pe_prop (pv 4) T.cD T.pErases GR (hr.mono (by decide)) T.n_d_erases .nil pass0 rfl) pa_nil))))) (nomark _)) (pss_one (ps_ret pe_bl)) pss_nil)
    (pss_cons (ps_setLc (i := 9) (own := [("_law_write", 10), ("_law_z", 11)]) (g := gTup K 2 (gCons (gName 10) (gCons (gName 11) gNil))) rfl nd rfl rfl (sw_true rfl rfl rfl rfl) (pi_list (pv 5)) (blkOk_by (N := nLaw) (sc := defScope sLaw) (by decide +kernel))
        (fun _ _ _ _ _ => pg_tupK (K := K) rfl rfl (pgs_cons (pg_name (i := 10) nd rfl (.inl rfl)) (pgs_cons (pg_name (i := 11) nd rfl (.inl rfl)) pgs_nil)))
        (fun _ _ _ _ _ => pts_one (pw_and (pt_cmpR op_isN (pv 11) pe_non (nomark _)) (pw_and1 (pt_cmpR op_eq (pe_ix (ix_tupK (K := K) rfl) (pv 10) pe_int (fun _ _ => rfl)) pe_str (nomark _)))).pt) (fun _ _ _ _ _ => pv 10))
    (pss_one (ps_if (pt_cmpR op_ne (pe_callB (cr_sum rfl) (by rfl) T.b_sum bt_sum (pa_cons (pe_callTy call_list_of (by rfl) T.b_list bt_list (pa_cons (pe_prop (pv 4) T.cD T.pErases GR (hr.mono (by decide)) T.n_d_erases .nil pass0 rfl) pa_nil)) pa_nil)) (pe_callB call_len_seq (by rfl) T.b_len PySem.boot_len (pa_cons (pv 9) pa_nil)) (nomark _)) (pss_one (ps_ret pe_bl)) pss_nil))))))), ?_⟩
  intro D H a0 a1 a2 a6 a7 a8 a9 d pl el l x us ps hx hok hlen da hl hd k
  have tl : Tally x (runD (initD x) ps) ps := by
    have q := tally hx hok ps.length (Nat.le_refl _)
    rw [List.take_length] at q
    exact q
  have rs : Rest (runD (initD x) ps) 20 := by
    have q := rest_run hx hok ps.length (Nat.le_refl _)
    rw [List.take_length, hlen] at q
    exact q
  generalize hDv : runD (initD x) ps = Dv at da tl rs
  obtain ⟨⟨dx, h1⟩, h2, h3, h4⟩ := id da
  have n21 : ((Dv.past ++ [Dv.cur]).map V.str).length = 21 := by
    rw [List.length_map, List.length_append, rs.past]
    rfl
  refine ⟨_, rfl, d, dx, _, rfl, h1, rfl, d, pl, el, Dv, rfl, da, fun H1 ls s1 hls0 hls => ?_⟩
  refine ⟨_, rfl, ls, _, 0, .str x, rfl, rfl, SqL.of hls, atI_nat (j := 0) (by rw [List.getElem?_map, tl.head]; rfl), _, rfl, rfl, _, rfl, ?_⟩
  rw [decide_eq_true rfl]
  refine iteF ⟨_, rfl, _, rfl, ls, _, rfl, .inl (SqL.of hls), _, 1, rfl, rfl, ls, _, _, .str Dv.cur, rfl, rfl, SqL.of hls, ?_, ?_⟩
  · rw [n21]
    refine atI_nat (j := 20) ?_
    rw [List.getElem?_map, List.getElem?_append_right (by rw [rs.past]; exact Nat.le_refl _), rs.past]
    rfl
  refine ⟨_, rfl, d, dx, _, rfl, s1 _ _ h1, d, pl, el, Dv, rfl, da.same s1, rfl, _, rfl, ?_⟩
  rw [decide_eq_true rfl]
  refine iteF ⟨_, rfl, ls, _, rfl, .inl (SqL.of hls), rfl, _, rfl, ?_⟩
  rw [n21, decide_eq_true (show V.int ((21 : Nat) : Int) = V.int 21 from rfl)]
  refine iteF ?_
  have da1 := da.same s1
  refine ⟨_, rfl, d, dx, _, rfl, s1 _ _ h1, d, pl, el, Dv, rfl, da1, _, rfl, d, dx, _, rfl, s1 _ _ h1, d, pl, el, Dv, rfl, da1, _, _, rfl, rfl, rfl, _, rfl, ?_⟩
  rw [decide_eq_true (show (fun i j : Int => V.int (i + j)) (Dv.ended : Int) (Dv.cuts : Int) = V.int 20 from by
    have q := tl.both
    rw [hlen] at q
    show V.int _ = V.int _
    congr 1
    omega)]
  refine iteF ⟨_, rfl, d, dx, _, rfl, s1 _ _ h1, d, pl, el, Dv, rfl, da1, ?_⟩
  have l1 := s1 _ _ hl
  have hd1 := hd.tk (.same s1)
  refine ⟨_, rfl, l, rfl, ⟨_, SqL.of l1⟩, fun La hLa => lc_list (K := K) (a := l) (xs := us) (fun i H' => ∃ acc : List V, Same H1 H' ∧ H' La = some (.lst acc) ∧ acc.length = cutsN (ps.take i)) ?_ ?_ ?_ ?_⟩
  · exact ⟨[], (Same.refl _).upd hLa, upd_same, by rw [List.take_zero]; rfl⟩
  · rintro i H' _ ⟨acc, sm, _⟩
    exact SqL.of (sm _ _ l1)
  · rintro i u H' hu ⟨acc, sm, hacc, hn⟩
    have hi : i < ps.length := by rw [← hd1.1]; exact (List.getElem?_eq_some_iff.mp hu).1
    have hp : ps[i]? = some ps[i] := List.getElem?_eq_getElem hi
    generalize ps[i] = q at hp
    obtain ⟨u2, eu, L, v, rfl, hL, hw⟩ := (hd1.tk (.same sm)).2 i q hp
    rw [hu] at eu
    cases eu
    refine ⟨L, _, rfl, SqT.of hL, rfl, _, _, rfl, _, _, rfl, rfl, rfl, _, rfl, rfl, _, rfl, ?_⟩
    have hn2 : cutsN (ps.take (i + 1)) = cutsN (ps.take i) + if q.2.isSome then 1 else 0 := by rw [take_succ_get hp, cutsN_snoc]
    cases hz : q.2 with
    | none =>
      rw [hz] at hn2
      exact iteF ⟨acc, sm, hacc, by rw [hn2, hn]; rfl⟩
    | some z =>
      rw [hz] at hn2
      refine iteT ⟨_, rfl, acc, hacc, ?_, acc ++ [.str z], sm.updN hLa, upd_same, ?_⟩
      · rw [sizeLine_eq, hn]
        have : cutsN (ps.take i) ≤ (ps.take i).length := List.length_filter_le _ _
        have : (ps.take i).length ≤ ps.length := by rw [List.length_take]; omega
        omega
      · rw [List.length_append, List.length_singleton, hn2, hn]
        rfl
  · rintro H2 ⟨acc, s2, hacc, hn⟩
    rw [hd1.1, List.take_length, ← tl.cuts] at hn
    refine ⟨La, _, rfl, .inl (SqL.of hacc), rfl, _, rfl, ?_⟩
    rw [hn, decide_eq_true rfl]
    refine iteF ?_
    have s12 := s1.trans s2
    refine ⟨_, rfl, _, rfl, l, x, us, ps, rfl, hx, s12 _ _ hl, hd.tk (.same s12), hok, by omega, fun H3 e pl2 el2 s3 db => ?_⟩
    rw [hDv] at db
    have s13 := s12.trans s3
    obtain ⟨⟨ex, e1⟩, e2, e3, e4⟩ := id db
    refine ⟨_, rfl, e, ex, _, rfl, e1, rfl, e, pl2, el2, Dv, rfl, db, fun H4 lb s4 _ hlb => ?_⟩
    refine ⟨_, rfl, e, ex, _, rfl, s4 _ _ e1, e, pl2, el2, Dv, rfl, db.same s4, _, rfl, e, ex, _, rfl, s4 _ _ e1, e, pl2, el2, Dv, rfl, db.same s4, ?_⟩
    refine ⟨_, rfl, e, ex, _, rfl, s4 _ _ e1, e, pl2, el2, Dv, rfl, db.same s4, fun H5 tb s5 _ htb => ?_⟩
    refine ⟨by show 4 ≤ sizeLine; decide, fun A1 hA1 => ?_⟩
    have s16 : Same H (upd H5 A1 (.lst [.ref lb, .int Dv.ended, .int Dv.cuts, .ref tb])) := ((s13.trans s4).trans s5).upd hA1
    have hA1' : (upd H5 A1 (.lst [.ref lb, .int Dv.ended, .int Dv.cuts, .ref tb])) A1 = some (.lst [.ref lb, .int Dv.ended, .int Dv.cuts, .ref tb]) := upd_same
    have hlb' : (upd H5 A1 (.lst [.ref lb, .int Dv.ended, .int Dv.cuts, .ref tb])) lb = some (.lst ((Dv.past ++ [Dv.cur]).map V.str)) := (s5.upd hA1) _ _ hlb
    have htb' : (upd H5 A1 (.lst [.ref lb, .int Dv.ended, .int Dv.cuts, .ref tb])) tb = some (.tup (Dv.er.map natV)) := ((Same.refl _).upd hA1) _ _ htb
    have hls' : (upd H5 A1 (.lst [.ref lb, .int Dv.ended, .int Dv.cuts, .ref tb])) ls = some (.lst ((Dv.past ++ [Dv.cur]).map V.str)) := (((s2.trans s3).trans s4).trans s5).upd hA1 _ _ hls
    generalize upd H5 A1 (.lst [.ref lb, .int Dv.ended, .int Dv.cuts, .ref tb]) = H6 at s16 hA1' hlb' htb' hls' ⊢
    have da6 := da.same s16
    refine ⟨_, rfl, _, rfl, d, dx, _, rfl, s16 _ _ h1, d, pl, el, Dv, rfl, da6, _, rfl, d, dx, _, rfl, s16 _ _ h1, d, pl, el, Dv, rfl, da6, ?_⟩
    refine ⟨_, rfl, d, dx, _, rfl, s16 _ _ h1, d, pl, el, Dv, rfl, da6, fun H7 tc s7 _ htc => ⟨by show 4 ≤ sizeLine; decide, fun A2 hA2 => ?_⟩⟩
    have s8 : Same H6 (upd H7 A2 (.lst [.ref ls, .int Dv.ended, .int Dv.cuts, .ref tc])) := s7.upd hA2
    refine ⟨devD Dv, devD Dv, .lst (SqL.of (s8 _ _ hA1')) (.cons (.lst (SqL.of (s8 _ _ hlb')) (dpAll_strs _)) (.cons (.int _) (.cons (.int _) (.cons (.tup (SqT.of (s8 _ _ htb')) (dpAll_ints _)) .nil)))),
      .lst (SqL.of upd_same) (.cons (.lst (SqL.of (s8 _ _ hls')) (dpAll_strs _)) (.cons (.int _) (.cons (.int _) (.cons (.tup (SqT.of (((Same.refl _).upd hA2) _ _ htc)) (dpAll_ints _)) .nil)))), (dev_data tl).1, (dev_data tl).1, _, rfl, ?_⟩
    rw [(dev_data tl).2]
    refine iteF ?_
    have s18 := s16.trans s8
    generalize upd H7 A2 (.lst [.ref ls, .int Dv.ended, .int Dv.cuts, .ref tc]) = H8 at s18 ⊢
    have l8 := s18 _ _ hl
    have hd8 := hd.tk (.same s18)
    refine ⟨_, rfl, l, rfl, ⟨_, SqL.of l8⟩, fun Lb hLb => lc_list (K := K) (a := l) (xs := us) (fun i H' => ∃ acc : List V, Same H8 H' ∧ H' Lb = some (.lst acc) ∧ acc.length = eraN (ps.take i)) ?_ ?_ ?_ ?_⟩
    · exact ⟨[], (Same.refl _).upd hLb, upd_same, by rw [List.take_zero]; rfl⟩
    · rintro i H' _ ⟨acc, sm, _⟩
      exact SqL.of (sm _ _ l8)
    · rintro i u H' hu ⟨acc, sm, hacc, hn⟩
      have hi : i < ps.length := by rw [← hd8.1]; exact (List.getElem?_eq_some_iff.mp hu).1
      have hp : ps[i]? = some ps[i] := List.getElem?_eq_getElem hi
      generalize ps[i] = q at hp
      obtain ⟨u2, eu, L, v, rfl, hL, hw⟩ := (hd8.tk (.same sm)).2 i q hp
      rw [hu] at eu
      cases eu
      refine ⟨L, _, rfl, SqT.of hL, rfl, _, _, rfl, _, _, rfl, rfl, rfl, _, rfl, rfl, _, rfl, ?_⟩
      have hn2 : eraN (ps.take (i + 1)) = eraN (ps.take i) + if (q.2.isNone && isEra q.1) = true then 1 else 0 := by rw [take_succ_get hp, eraN_snoc]
      have few : acc.length < sizeLine := by
        rw [sizeLine_eq, hn]
        have : eraN (ps.take i) ≤ (ps.take i).length := List.length_filter_le _ _
        have : (ps.take i).length ≤ ps.length := by rw [List.length_take]; omega
        omega
      cases hz : q.2 with
      | some z =>
        rw [hz] at hn2
        exact iteF ⟨acc, sm, hacc, by rw [hn2, hn]; rfl⟩
      | none =>
        rw [hz] at hn2
        cases hwr : q.1 with
        | fall bs =>
          rw [hwr] at hn2 hw
          obtain ⟨T1, T2, rfl, u1, u2⟩ := hw
          refine iteT ⟨_, rfl, T1, _, 0, .str "fall", rfl, rfl, SqT.of u1, atI_nat (j := 0) rfl, rfl, _, rfl, ?_⟩
          rw [ne_kind]
          exact iteF ⟨acc, sm, hacc, by rw [hn2, hn]; rfl⟩
        | erase b =>
          rw [hwr] at hn2 hw
          obtain ⟨T1, rfl, u1⟩ := hw
          refine iteT ⟨_, rfl, T1, _, 0, .str "erase", rfl, rfl, SqT.of u1, atI_nat (j := 0) rfl, rfl, _, rfl, ?_⟩
          rw [decide_eq_true (show V.str "erase" = V.str "erase" from rfl)]
          refine iteT ⟨_, rfl, acc, hacc, few, acc ++ [.ref T1], sm.updN hLb, upd_same, ?_⟩
          rw [List.length_append, List.length_singleton, hn2, hn]
          rfl
    · rintro H9 ⟨acc, s9, hacc, hn⟩
      rw [hd8.1, List.take_length, ← tl.er] at hn
      have s19 := s18.trans s9
      have da9 := da.same s19
      refine ⟨_, rfl, d, dx, _, rfl, s19 _ _ h1, d, pl, el, Dv, rfl, da9, fun Ha td sa _ htd => ?_⟩
      refine ⟨td, _, rfl, .inr (SqT.of htd), fun lq hlq => ?_⟩
      have em : Dv.er.map natV = (Dv.er.map fun n : Nat => (n : Int)).map V.int := by
        rw [List.map_map]
        rfl
      refine ⟨lq, Dv.er.map fun n : Nat => (n : Int), rfl, SqL.of (by rw [upd_same, em]), _, rfl, Lb, acc, rfl, .inl (SqL.of ((sa.upd hlq) _ _ hacc)), rfl, _, rfl, ?_⟩
      rw [cast_sum, hn, decide_eq_true rfl]
      exact iteF (k _ _ _ _ ((s19.trans sa).upd hlq))
end
end FB

/-! ## FBLaw13 -/
set_option Elab.async false
set_option linter.all false
set_option maxRecDepth 100000
set_option maxHeartbeats 4000000
/-! law. -/
namespace FB
open PySem PySem.Spec PyProof.Rows L2
theorem cut2 (ss : List Nat) : cutV (ss.map natV) none (some 2) = (ss.take 2).map natV := by
  unfold cutV
  rw [HT.sIx_none, show (2 : Int) = ((2 : Nat) : Int) from rfl, HT.sIx_nat, List.drop_zero, Nat.sub_zero, List.map_take, List.length_map]
  by_cases h : 2 ≤ ss.length
  · rw [Nat.min_eq_left h]
  · rw [Nat.min_eq_right (by omega), List.take_of_length_le (by rw [List.length_map]; omega), List.take_of_length_le (by rw [List.length_map]; omega)]
theorem DeedsA.snoc {H : Hp} {us : List V} {ps : List (Wr × Option Str)} {u : V} {p : Wr × Option Str} (h : DeedsA H us ps) (hu : DeedA H u p) : DeedsA H (us ++ [u]) (ps ++ [p]) := by
  refine ⟨by rw [List.length_append, List.length_append, h.1]; rfl, fun i q e => ?_⟩
  by_cases hi : i < ps.length
  · rw [List.getElem?_append_left hi] at e
    rw [List.getElem?_append_left (by rw [h.1]; exact hi)]
    exact h.2 i q e
  · have hi2 : i = ps.length := by
      have := (List.getElem?_eq_some_iff.mp e).1
      rw [List.length_append, List.length_singleton] at this
      omega
    subst hi2
    rw [List.getElem?_append_right (Nat.le_refl _), Nat.sub_self] at e
    have e2 : p = q := by simpa using e
    rw [← e2]
    refine ⟨u, ?_, hu⟩
    rw [List.getElem?_append_right (by rw [h.1]; exact Nat.le_refl _), h.1, Nat.sub_self]
    rfl
section
variable {P : Program} {w : World} {K : PySem.W.Frag} {mg : Str → Option Value} {base : Heap}
def spLaw (K : PySem.W.Frag) : Sp := fun vs H Q _ => ∃ (a : Addr) (ns : List Int), vs = [.ref a] ∧ SqL K H a (ns.map V.int) ∧ ∀ H', Q (.bl true) H'
theorem ok_law (T : Txt K mg) : FnOk P w K mg base CX0 46 (a_l_law K) (fdA K (a_l_law K)) ["_law_script"] (spLaw K) := by
  refine FunD.ok T.l_law sc_law (fun vs H Q E h => ?_) (fun cdv A outer s H vs Q E hr h => ?_)
  · obtain ⟨a, ns, rfl, _⟩ := h
    rfl
  · obtain ⟨a, ns, rfl, ha, k⟩ := h
    have nd := sc_law.nd
    have GP := ok_pen (P := P) (w := w) (base := base) T
    have GZ := ok_sizes (P := P) (w := w) (base := base) T
    have GD := ok_drawn (P := P) (w := w) (base := base) T
    have GI := ok_d_init (P := P) (w := w) (base := base) T
    have GS := ok_step (P := P) (w := w) (base := base) T
    obtain ⟨t, pt, ht⟩ := turn_end (P := P) (w := w) (base := base) (outer := outer) (H0 := H) (E := E) T hr
    refine ⟨_, PSs.nox (pss_cons (ps_set (i := 1) nd rfl (.inl rfl) (pe_call GP (hr.mono (by decide)) (by rfl) T.g_l_pen T.l_pen.kp T.n_l_pen .nil pass0 (pa_cons (pv 0) pa_nil)))
      (pss_cons (ps_for PassesOwn.never rfl (pi_range1 (by rfl) T.b_range (pa_cons pe_int pa_nil)) (pg_name (i := 2) nd rfl (.inl rfl))
        (pss_cons (ps_set (i := 3) nd rfl (.inl rfl) (pe_call GD (hr.mono (by decide)) (by rfl) T.g_l_drawn T.l_drawn.kp T.n_l_drawn .nil pass0 (pa_cons (pv 1) (pa_cons (pe_slice sl_list (pe_call GZ (hr.mono (by decide)) (by rfl) T.g_l_sizes T.l_sizes.kp T.n_l_sizes .nil pass0 (pa_cons (pv 1) (pa_cons pe_int pa_nil))) po_none (po_some pe_int)) pa_nil))))
        (pss_cons (ps_set (i := 4) nd rfl (.inl rfl) (pe_make T.kD GI (hr.mono (by decide)) (by rfl) T.g_Device T.n_d_init .nil pass0 (pa_cons (pv 3) pa_nil)))
        (pss_cons (ps_set (i := 5) nd rfl (.inl rfl) (pe_lst pa_nil))
        (pss_cons (ps_for PassesOwn.never rfl (pi_range1 (by rfl) T.b_range (pa_cons pe_int pa_nil)) (pg_name (i := 6) nd rfl (.inl rfl))
          (pss_one (ps_if (pt_not (pt_val (pe_call GS (hr.mono (by decide)) (by rfl) T.g_l_step T.l_step.kp T.n_l_step .nil pass0 (pa_cons (pv 1) (pa_cons (pv 4) (pa_cons (pv 5) pa_nil)))))) (pss_one (ps_ret pe_bl)) pss_nil))) pt)))))
      (pss_one (ps_ret pe_bl)))), ?_⟩
    refine ⟨_, rfl, a, ns, rfl, ha, fun H1 p c s1 hp0 hc0 hp => ?_⟩
    refine ⟨2, rfl, by decide, by decide, for_range (n := 2) (fun i σ H' => ∃ b2 b3 b4 b5 b6 b7 b8 b9 : Option V, σ = [some (.ref a), some (.ref p), b2, b3, b4, b5, b6, b7, b8, b9, none, none] ∧ PenA H' p c (90 * i)) ?_ ?_ ?_⟩
    · exact ⟨none, none, none, none, none, none, none, none, rfl, hp⟩
    · rintro i σ H' hi ⟨b2, b3, b4, b5, b6, b7, b8, b9, rfl, hp⟩
      refine ⟨_, rfl, _, rfl, p, c, 90 * i, 3, rfl, hp, by omega, by decide, by decide, fun H2 l0 ss sb2 hp2 hl0 hne hlen hall => ?_⟩
      refine ⟨2, rfl, l0, _, rfl, SqL.of hl0, fun l2 hl2 => ?_⟩
      rw [cut2]
      refine ⟨p, c, l2, 90 * i + 4, ss.take 2, rfl, hp2.new hl2, by omega, upd_same, fun e => ?_, ?_, fun z hz => hall z (List.mem_of_mem_take hz), fun H3 x sb3 hp3 hx => ?_⟩
      · cases ss with
        | nil => exact hne rfl
        | cons z r => cases e
      · rw [List.length_take]
        omega
      refine ⟨_, rfl, fun d ax na nax _ => init_at na nax hx fun H4 pl el s4 _ hpl hel da => ?_⟩
      refine ⟨Nat.zero_le _, fun l hl => ?_⟩
      have hp4 := hp3.same s4
      have nl : l ∉ [d, pl, el] := da.ne3 hl
      have mem4 : ∀ {b : Addr}, b ≠ d → b ≠ pl → b ≠ el → b ≠ l → b ∉ [d, pl, el, l] := fun n1 n2 n3 n4 e => by
        rcases List.mem_cons.mp e with e | e
        · exact n1 e
        · rcases List.mem_cons.mp e with e | e
          · exact n2 e
          · rcases List.mem_cons.mp e with e | e
            · exact n3 e
            · exact n4 (List.mem_singleton.mp e)
      have np : p ∉ [d, pl, el, l] := mem4 (hp3.neP na) (hp3.neP hpl) (hp3.neP hel) (hp4.neP hl)
      have nc : c ∉ [d, pl, el, l] := mem4 (hp3.neC na) (hp3.neC hpl) (hp3.neC hel) (hp4.neC hl)
      refine ⟨20, rfl, by decide, by decide, for_range (n := 20) (fun j σ H' => ∃ (b2 b6 b7 b8 b9 : Option V) (us : List V) (ps : List (Wr × Option Str)), σ = [some (.ref a), some (.ref p), b2, some (.str x), some (.ref d), some (.ref l), b6, b7, b8, b9, none, none] ∧ PenA H' p c (90 * i + 10 + 4 * j) ∧
        DevA K H' d pl el (runD (initD x) ps) ∧ Okds (initD x) ps ∧ ps.length = j ∧ H' l = some (.lst us) ∧ DeedsA H' us ps) ?_ ?_ ?_⟩
      · exact ⟨_, b6, b7, b8, b9, [], [], rfl, (hp4.new hl).mono (by omega), da.new hl, fun _ _ e => by simp at e, rfl, upd_same, rfl, fun _ _ e => by simp at e⟩
      · rintro j σ H5 hj ⟨c2, c6, c7, c8, c9, us, ps, rfl, hp5, da5, hok, hlen5, hl5, hd5⟩
        have rs : Rest (runD (initD x) ps) j := by
          have q := rest_run hx hok ps.length (Nat.le_refl _)
          rw [List.take_length, hlen5] at q
          exact q
        refine ⟨_, rfl, _, rfl, _, rfl, p, c, d, pl, el, l, _, j, _, us, rfl, hp5, by omega, da5, rs, by omega, hl5, by rw [hd5.1]; omega, nl, np, nc, fun H6 q u sb6 hp6 da6 ok hl6 hu => ⟨_, rfl, iteF ?_⟩⟩
        have tk : TK H5 H6 := TK.but sb6 fun b hb ys e => by
          by_cases q1 : b ∈ [d, pl, el]
          · exact da5.ntup b q1 ys e
          · rcases List.mem_cons.mp hb with z | hb
            · exact hp5.ntup b (List.mem_singleton.mpr z) ys e
            · have z : b = l := by
                simp only [List.mem_cons, List.not_mem_nil, or_false] at hb q1
                rcases hb with h | h | h | h
                · exact absurd (.inl h) q1
                · exact absurd (.inr (.inl h)) q1
                · exact absurd (.inr (.inr h)) q1
                · exact h
              rw [z, hl5] at e
              cases e
        refine ⟨_, _, c7, c8, c9, us ++ [u], ps ++ [q], rfl, hp6.mono (by omega), by rw [run_snoc]; exact da6, hok.snoc ok, by rw [List.length_append, hlen5]; rfl, hl6, (hd5.tk tk).snoc hu⟩
      · rintro σ H5 ⟨c2, c6, c7, c8, c9, us, ps, rfl, hp5, da5, hok, hlen5, hl5, hd5⟩
        exact ht _ H5 _ _ _ _ _ _ _ d pl el l x us ps hx hok hlen5 da5 hl5 hd5 fun H6 e7 e8 e9 s6 => ⟨_, _, _, _, _, e7, e8, e9, rfl, (hp5.same s6).mono (by omega)⟩
    · rintro σ H' ⟨b2, b3, b4, b5, b6, b7, b8, b9, rfl, _⟩
      exact k H'
end
end FB

/-! ## FBEnd -/
set_option Elab.async false
set_option linter.all false
set_option maxRecDepth 100000
set_option maxHeartbeats 0
/-! The head and the walk joined. -/
open PySem PySem.W PySem.Calls PyProof.Rows
theorem PySem.Challenge.cw_fallenbits_k10_whole_histories_of_device_holds : PySem.Challenge.rw_fallenbits_k10_whole_histories_of_device.Holds := by
  w_on; o_law
  refine HandSHeadRun.head_any (r := OpenLaw.row PySem.Challenge.rw_fallenbits_k10_whole_histories_of_device) (q := FB.qv) (H := FB.hk) (ob := FB.ob) (M := 6000) (loose := FB.looseN) (d := HandSHeadRun.topDef (OpenLaw.row PySem.Challenge.rw_fallenbits_k10_whole_histories_of_device).prog 53) (kwd := []) FB.ob_eq
    (by kernel_rfl) (fun s => by kernel_rfl) FB.run (by kernel_rfl) (by kernel_rfl) (by kernel_rfl) (by rfl) (by first | assumption | decide +kernel) (by decide +kernel) ⟨rfl, rfl, rfl, rfl, rfl, by decide +kernel⟩ ?hw ?hc
  case hw => w_witness2
  case hc =>
    refine L2.walk_ofE (l := PySem.Challenge.rw_fallenbits_k10_whole_histories_of_device) (n := 63) (k := 46) (x := "_law_script") (CX := L2.CX0) rfl (by decide) (by kernel_rfl) ⟨rfl, by decide, by decide⟩ ?F (fun _ _ _ _ z => z)
    intro w mg fa h Y G hmg0
    obtain ⟨K, KX, says⟩ := Y
    have T : FB.Txt K mg := ⟨says, ⟨h, KX, G⟩⟩
    have hmg : mg ("law" : PySem.Str) = some (.ref fa) := by
      have e : (HandSHeadRun.topDef (OpenLaw.row PySem.Challenge.rw_fallenbits_k10_whole_histories_of_device).prog 53).name = ("law" : PySem.Str) := by kernel_rfl
      rw [← e]
      exact hmg0
    have e := hmg.symm.trans T.g_l_law
    cases e
    have b := L2.FunD.bindsA (ps := ["_law_script"]) T.l_law fun _ _ _ _ _ _ us hl => match us, hl with | [_], _ => rfl
    exact ⟨K, FB.fdA K (FB.a_l_law K), FB.spLaw K, KX, fun s v => b s [v] rfl, fun H a ns hl _ hS => ⟨a, ns, rfl, hS, fun _ => rfl⟩, fun base _ _ => FB.ok_law T⟩
