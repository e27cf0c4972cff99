import PyProof.Rows.All
import Wide.All
import OpenK.AllK
import Wide.FinOn
import HandS.ExcCtx
import HandS.ForMost
import HandS.ForExc
import HandS.NestedK
import HandS.TryMany
import HandS.ExcInit
import HandS.ExcField
import HandS.ExcIs
import HandS.Deep
import HandS.IsInst
import HandS.TupLe
import HandS.Walk
import HandS.More
import KE.SortData
import HandS.Style
import HandS.Defaults
import HandS.Zip
import PyProof.NeKinds
import HandS.OwnEq
import PyProof.InstNe
import KE.DataCmp
import HandS.DictComp
import HandS.CallSlots
import PyProof.ReprRoads
import PyProof.ReprBulk
import HandS.EndTab
import HandS.MakeKw
import HandS.SetKeys
import HandS.ListItems
import HandS.Finally
import KE.KEqNest
import KE.KEqDict
import HandS.SetTxt0
import HandS.SetFor
import HandS.Strs
import HandS.TupAny
import HandS.HotCalls
import HandS.ExcInitHot
import HandS.ExcValue
import KE.KExcIs
import HandS.Replace
import KE.KNestM
import KE.HD2
import HandS.SetBool
import KE.KUnpackStar
import HandS.CallLocal
import HandS.Call
import KE.KItemsList
import KE.SortKeyHeap
import HandS.FStr
import KE.KCallOwn
import HandS.WideBits
import HandS.HeadHook3
import KE.DataMinMax
import HandS.TryOnly
import PyProof.EqKinds
import PyProof.NeData
import PyProof.SeqRoads2
import PyProof.MeetsIn
import PyProof.Rows.Range3
import PyProof.Rows.StrLen
import PyProof.Rows.StrCase
import PySem.Challenge.RW_allheard_k55_whole_reasons_spoilt_anywhe
set_option Elab.async false
set_option linter.all false
set_option autoImplicit false
set_option maxRecDepth 100000
namespace DL
open PySem PySem.W HeadRun PyProof.Rows
section
variable (r : OpenRow) (q : Program) (M : Nat) (loose : List PySem.Str)
noncomputable def endT (w : World) (os : OsState) : Option SharedT := endF (stepQ (denQ tabQ) r.prog w) M r.prog w os
noncomputable def sawT (s : SharedT) := seenQ q loose (importedModules r.prog.main.body) (fun s => xlAt q [] s && recOk r.toRowW.records s) s.abs
def Part1 {α : Type} (ob : SharedT → α) (v : World → α) : Prop := ∀ (w : World) (os : OsState), (endT r M w os).map (fun s => (looksF r.prog (boot_heap w.params) s.abs, ob s)) = some (true, v w)
def Part2 : Prop := ∀ (w : World) (os : OsState), (endT r M w os).map (fun s => ((sawT r q loose s).1, (sawT r q loose s).2.1, (sawT r q loose s).2.2.2.2.1)) = some (expectedOf q, bltViewBooted, pinGoodD (drecsOf q))
def Part3 : Prop := ∀ (w : World) (os : OsState), (endT r M w os).map (fun s => ((sawT r q loose s).2.2.1, (sawT r q loose s).2.2.2.1)) = some (true, true)
def Part4 : Prop := ∀ (w : World) (os : OsState), (endT r M w os).map (fun s => ((sawT r q loose s).2.2.2.2.2.1, (sawT r q loose s).2.2.2.2.2.2.1, (sawT r q loose s).2.2.2.2.2.2.2.1, (sawT r q loose s).2.2.2.2.2.2.2.2)) =
  some (plainGoodE q (looseW q loose), plainGoodD q loose, wideGood q, clsGoodW q loose)
def HLook {α : Type} (f : SharedT → α) (v : α) : Prop := ∀ (w : World) (os : OsState), (endT r M w os).map f = some v
noncomputable def hSaw3 (lw : List PySem.Str) (s : SharedT) : Bool :=
  Fast.tw10880121769531294198 s.abs.heap lw (R.mapR (fun x => x.name) (Fast.tw3399658132070893891 q)) (R.mapR (fun x => x.fst) (Fast.tw7409074990110511671 q)) (R.mapR (fun x => x.name) (Fast.tw13664370479719496447 q lw)) &&
    Fast.tw14722251495701143533 s.abs.heap (importedModules r.prog.main.body) && s.abs.heap.isNs mainGlobals && s.abs.heap.isNs builtinsNs && Fast.tw10994771534591457954 q s.abs.heap && (xlAt q [] s.abs && recOk r.toRowW.records s.abs) && (if true = true then s.abs.gens.size == 0 else !leftWithCleanup s.abs.gens)
noncomputable def hSaw6 (lw : List PySem.Str) (s : SharedT) : List (Option PlainShape) := Fast.tw2386780881361962483 q lw s.abs
noncomputable def lookAll (lw : List PySem.Str) (s : SharedT) := ((sawT r q loose s).2.1, (sawT r q loose s).2.2.2.2.1, (sawT r q loose s).2.2.2.2.2.2.1, (sawT r q loose s).2.2.2.2.2.2.2.2, hSaw3 r q lw s, hSaw6 q lw s)
variable {r q M loose}
theorem HLook.is {α : Type} {f : SharedT → α} {v : α} (h : HLook r M f v) {w : World} {os : OsState} {s : SharedT} (e : endT r M w os = some s) : f s = v := by
  have := h w os
  rw [e] at this
  exact Option.some.inj this
theorem HLook.get {α : Type} {f : SharedT → α} {v : α} (h : HLook r M f v) (w : World) (os : OsState) : ∃ s, endT r M w os = some s := by
  have := h w os
  cases e : endT r M w os with
  | none => rw [e] at this; cases this
  | some s => exact ⟨s, rfl⟩
noncomputable def hSaw1 (q : Program) (nm : List PySem.Str) (s : SharedT) : Seen := Fast.tw5160383126252970620 nm (Fast.tw5991557255702980513 q) [] { heap := s.abs.heap, drawn := s.abs.drawn, toks := s.abs.toks, os := s.abs.os }
theorem hSaw1_eq {nm : List PySem.Str} (h : R.mapR (fun x => x.name) (Fast.tw3399658132070893891 q) = nm) (s : SharedT) : (sawT r q loose s).1 = hSaw1 q nm s := by
  subst h; rfl
theorem hLook1 {nm : List PySem.Str} (h : R.mapR (fun x => x.name) (Fast.tw3399658132070893891 q) = nm) (k : HLook r M (hSaw1 q nm) (expectedOf q)) : HLook r M (fun s => (sawT r q loose s).1) (expectedOf q) := by
  have e : (fun s => (sawT r q loose s).1) = hSaw1 q nm := funext fun s => hSaw1_eq h s
  rw [e]
  exact k
theorem allR_map {α β : Type} (f : α → β) (p : β → Bool) : ∀ l : List α, R.allR l (fun a => p (f a)) = R.allR (R.mapR f l) p
  | [] => rfl
  | a :: l => by
    have ih := allR_map f p l
    have e1 : R.allR (a :: l) (fun a => p (f a)) = (p (f a) && R.allR l fun a => p (f a)) := by
      show @Bool.rec (fun _ => Bool) false (R.allR l fun a => p (f a)) (p (f a)) = _
      cases p (f a) <;> rfl
    have e2 : R.allR (R.mapR f (a :: l)) p = (p (f a) && R.allR (R.mapR f l) p) := by
      show @Bool.rec (fun _ => Bool) false (R.allR (R.mapR f l) p) (p (f a)) = _
      cases p (f a) <;> rfl
    rw [e1, e2, ih]
noncomputable def hSaw4 (q : Program) (nm : List PySem.Str) (s : SharedT) : Bool :=
  (R.allR nm fun n => Fast.tw5930804224584009831 s.abs.heap n) && Fast.tw5244371056499926238 s.abs.heap && Fast.tw2578726214315757710 q s.abs.heap && (!Fast.tw2458874890965802552 q || Fast.tw9649274521512697073 s.abs.heap)
theorem hLook4 {nm : List PySem.Str} (h : R.mapR (fun x => x.name) (Fast.tw3399658132070893891 q) = nm) (k : HLook r M (hSaw4 q nm) true) : HLook r M (fun s => (sawT r q loose s).2.2.2.1) true := by
  have e : (fun s => (sawT r q loose s).2.2.2.1) = hSaw4 q nm := funext fun s => by
    subst h
    show Fast.tw479339242167458305 q s.abs = _
    unfold Fast.tw479339242167458305 hSaw4
    have z := allR_map (fun x : DefRec => x.name) (fun n => Fast.tw5930804224584009831 s.abs.heap n) (Fast.tw3399658132070893891 q)
    rw [z]
  rw [e]
  exact k
theorem hSaw3_eq {lw : List PySem.Str} (h : Fast.tw821141287760084731 q loose = lw) (s : SharedT) : (sawT r q loose s).2.2.1 = hSaw3 r q lw s := by
  subst h; rfl
theorem hSaw6_eq {lw : List PySem.Str} (h : Fast.tw821141287760084731 q loose = lw) (s : SharedT) : (sawT r q loose s).2.2.2.2.2.1 = hSaw6 q lw s := by
  subst h; rfl
section
variable {lw : List PySem.Str} (hF : Fast.tw821141287760084731 q loose = lw) (hL : looseW q loose = lw)
  (h1 : HLook r M (fun s => (sawT r q loose s).1) (expectedOf q)) (h4 : HLook r M (fun s => (sawT r q loose s).2.2.2.1) true) (h7 : HLook r M (fun s => (sawT r q loose s).2.2.2.2.2.2.2.1) (wideGood q))
  (hD : HLook r M (lookAll r q loose lw) (bltViewBooted, pinGoodD (drecsOf q), plainGoodD q loose, clsGoodW q loose, true, plainGoodE q lw))
include hF hL h1 h4 h7 hD
theorem hPart2 : Part2 r q M loose := fun w os => by
  obtain ⟨s, e⟩ := h1.get w os
  have a1 := h1.is e
  have a2 := hD.is e
  simp only [lookAll, Prod.mk.injEq] at a2
  rw [e]
  exact congrArg some (Prod.ext a1 (Prod.ext a2.1 a2.2.1))
theorem hPart3 : Part3 r q M loose := fun w os => by
  obtain ⟨s, e⟩ := h1.get w os
  have a1 := h4.is e
  have a2 := hD.is e
  simp only [lookAll, Prod.mk.injEq] at a2
  rw [e]
  exact congrArg some (Prod.ext ((hSaw3_eq hF s).trans a2.2.2.2.2.1) a1)
theorem hPart4 : Part4 r q M loose := fun w os => by
  obtain ⟨s, e⟩ := h1.get w os
  have a7 := h7.is e
  have a2 := hD.is e
  simp only [lookAll, Prod.mk.injEq] at a2
  rw [e]
  have a6 : (sawT r q loose s).2.2.2.2.2.1 = plainGoodE q (looseW q loose) := by rw [hL]; exact (hSaw6_eq hF s).trans a2.2.2.2.2.2
  exact congrArg some (Prod.ext a6 (Prod.ext a2.2.2.1 (Prod.ext a7 a2.2.2.2.1)))
end
end
theorem leftT {r : OpenRow} {q : Program} {M : Nat} {loose : List PySem.Str} {H : Hook} {ob : SharedT → H.α} (ho : ∀ s : SharedT, ob s = H.obs s.abs)
    (e : opening r.prog = plainProg r.prog.main.scope.names) (f : ∀ s, fenceModules? r.prog s = some s) (p1 : Part1 r M ob H.val) (p2 : Part2 r q M loose) (p3 : Part3 r q M loose) (p4 : Part4 r q M loose) :
    LeftO r.prog q loose (fun s => xlAt q [] s && recOk r.toRowW.records s) H.obs H.val (M + 600) true :=
  HeadRun.left_one (M := M) e (Nat.ble_eq_true_of_le (by omega)) f (Nat.ble_eq_true_of_le (by omega)) fun w os => by
    rw [endQ_eq]
    have a1 := p1 w os
    have a2 := p2 w os
    have a3 := p3 w os
    have a4 := p4 w os
    unfold endT at a1 a2 a3 a4
    cases z : endF (stepQ (denQ tabQ) r.prog w) M r.prog w os with
    | none => rw [z] at a1; cases a1
    | some s =>
      rw [z] at a1 a2 a3 a4
      have b1 := Option.some.inj a1
      have b2 := Option.some.inj a2
      have b3 := Option.some.inj a3
      have b4 := Option.some.inj a4
      obtain ⟨u1, u2⟩ := Prod.mk.inj b1
      obtain ⟨v1, v2⟩ := Prod.mk.inj b2
      obtain ⟨v3, v4⟩ := Prod.mk.inj v2
      obtain ⟨x1, x2⟩ := Prod.mk.inj b3
      obtain ⟨y1, y2⟩ := Prod.mk.inj b4
      obtain ⟨y3, y4⟩ := Prod.mk.inj y2
      obtain ⟨y5, y6⟩ := Prod.mk.inj y4
      show some (looksF r.prog (boot_heap w.params) s.abs, openSeen q loose (importedModules r.prog.main.body) (fun s => xlAt q [] s && recOk r.toRowW.records s) true s.abs, H.obs s.abs) = some (true, openGood q loose, H.val w)
      rw [u1, ← ho s, u2, seenQ_eq]
      have g : sawT r q loose s = openGood q loose := Prod.ext v1 (Prod.ext v3 (Prod.ext x1 (Prod.ext x2 (Prod.ext v4 (Prod.ext y1 (Prod.ext y3 (Prod.ext y5 y6)))))))
      exact congrArg some (congrArg (Prod.mk true) (congrArg (fun t => (t, H.val w)) g))
theorem headT {r : OpenRow} {q : Program} {H : Hook} {ob : SharedT → H.α} {M : Nat} {loose : List PySem.Str} {d : DefRec} {kwd : List (PySem.Str × PySem.Expr)} (ho : ∀ s : SharedT, ob s = H.obs s.abs)
    (e : opening r.prog = plainProg r.prog.main.scope.names) (f : ∀ s, fenceModules? r.prog s = some s) (p1 : Part1 r M ob H.val) (p2 : Part2 r q M loose) (p3 : Part3 r q M loose) (p4 : Part4 r q M loose)
    (hd : defOf q r.name = some (d, kwd)) (ht : r.prog.theDef r.name = some (d.params, d.body, d.scope)) (hk : kwWritten? d.params.kwonlyargs d.params.kw_defaults = some kwd) (hw : (!r.writes || r.records.isEmpty) = true)
    (ws : r.wellSaid = true) (ok : (chainsOk q && opensWell r.prog && (frees r.toRowW && r.within.isEmpty)) = true) (hb : r.prog.bare) (pr : r.toRowW.promised)
    (go : WalkO q loose (XL q []) H.says r.toRowW d kwd fun f vs => PySem.call f vs) : r.Holds :=
  holds_open (leftT ho e f p1 p2 p3 p4) H.of H.keeps (fun s z => xl_of s (Bool.and_eq_true_iff.mp z).1) XL.keeps hd ht hk (fun s z => recFacts_of (Bool.and_eq_true_iff.mp z).2) hw ws ok hb pr go
def obT (as ts : List Addr) (s : SharedT) : List (Option Obj) × List (Option Obj) := (as.map (getT s), ts.map (getT s))
theorem obT_eq {K : Params → Frag} {as : List Addr} {e : ∀ P, as = (K P).map (·.1)} {ts : List Addr} (s : SharedT) : obT as ts s = (kmHook K as e ts).obs s.abs :=
  Prod.ext (List.map_congr_left fun a _ => getT_eq s a) (List.map_congr_left fun a _ => getT_eq s a)
def obK (as : List Addr) (s : SharedT) : List (Option Obj) := as.map (getT s)
theorem obK_eq {K : Params → Frag} {as : List Addr} {e : ∀ P, as = (K P).map (·.1)} (s : SharedT) : obK as s = (kHook K as e).obs s.abs := List.map_congr_left fun a _ => getT_eq s a
end DL
section
namespace LW
open PySem PySem.W HeadRun PyProof.Rows
abbrev viewQ : Program := view (PySem.W.OpenLaw.row PySem.Challenge.rw_allheard_k55_whole_reasons_spoilt_anywhe).prog [1,2,3,4,6,7,8,9,10,11,13,14,15,16,17,18,20,21,22,23,24,25,26,27,28,29,30,31,32,33,34,35,36,37,38,39]
def looseQ : List PySem.Str := []
def nmA : List PySem.Str := ("is_name" : PySem.Str) :: ("last_heard" : PySem.Str) :: ("step_thing" : PySem.Str) :: ("rows_to_miss" : PySem.Str) :: ("absent_person" : PySem.Str) :: ("step_for" : PySem.Str) :: ("reason" : PySem.Str) :: ("is_index" : PySem.Str) :: ("is_tuple_of" : PySem.Str) :: ("are_names" : PySem.Str) :: ("absent_hold" : PySem.Str) :: ("step_holds" : PySem.Str) :: ("reason_holds" : PySem.Str) :: ("_law_bag" : PySem.Str) :: ("_law_take" : PySem.Str) :: ("_law_names" : PySem.Str) :: ("_law_some" : PySem.Str) :: ("_law_hearers" : PySem.Str) :: ("_law_thing" : PySem.Str) :: ("_law_rows" : PySem.Str) :: ("_law_copy" : PySem.Str) :: ("_law_is_name" : PySem.Str) :: []
def nmB : List PySem.Str := ("_law_are_names" : PySem.Str) :: ("_law_absent_good" : PySem.Str) :: ("_law_step_good" : PySem.Str) :: ("_law_reason_good" : PySem.Str) :: ("_law_ground" : PySem.Str) :: ("_law_other_step" : PySem.Str) :: ("_law_other_reason" : PySem.Str) :: ("_law_odd" : PySem.Str) :: ("_law_bent" : PySem.Str) :: ("_law_judged" : PySem.Str) :: ("law" : PySem.Str) :: []
theorem nmF : PySem.W.R.mapR (fun x => x.name) (PySem.W.Fast.tw3399658132070893891 viewQ) = nmA ++ nmB := by kernel_rfl
def lwQ : List PySem.Str := []
theorem lwF : PySem.W.Fast.tw821141287760084731 viewQ looseQ = lwQ := by kernel_rfl
theorem lwL : looseW viewQ looseQ = lwQ := by kernel_rfl
theorem look1Q : DL.HLook (PySem.W.OpenLaw.row PySem.Challenge.rw_allheard_k55_whole_reasons_spoilt_anywhe) 1197 (DL.hSaw1 viewQ (nmA ++ nmB)) (expectedOf viewQ) := by
  unfold DL.HLook; intro w os; kernel_rfl
theorem look4Q : DL.HLook (PySem.W.OpenLaw.row PySem.Challenge.rw_allheard_k55_whole_reasons_spoilt_anywhe) 1197 (DL.hSaw4 viewQ (nmA ++ nmB)) true := by
  unfold DL.HLook; intro w os; kernel_rfl
theorem look7Q : DL.HLook (PySem.W.OpenLaw.row PySem.Challenge.rw_allheard_k55_whole_reasons_spoilt_anywhe) 1197 (fun s => (DL.sawT (PySem.W.OpenLaw.row PySem.Challenge.rw_allheard_k55_whole_reasons_spoilt_anywhe) viewQ looseQ s).2.2.2.2.2.2.2.1) (wideGood viewQ) := by
  unfold DL.HLook; intro w os; kernel_rfl
theorem lookDQ : DL.HLook (PySem.W.OpenLaw.row PySem.Challenge.rw_allheard_k55_whole_reasons_spoilt_anywhe) 1197 (DL.lookAll (PySem.W.OpenLaw.row PySem.Challenge.rw_allheard_k55_whole_reasons_spoilt_anywhe) viewQ looseQ lwQ) (bltViewBooted, pinGoodD (drecsOf viewQ), plainGoodD viewQ looseQ, clsGoodW viewQ looseQ, true, plainGoodE viewQ lwQ) := by
  unfold DL.HLook; intro w os; kernel_rfl
theorem part2Q : DL.Part2 (PySem.W.OpenLaw.row PySem.Challenge.rw_allheard_k55_whole_reasons_spoilt_anywhe) viewQ 1197 looseQ := DL.hPart2 lwF lwL (DL.hLook1 nmF look1Q) (DL.hLook4 nmF look4Q) look7Q lookDQ
theorem part3Q : DL.Part3 (PySem.W.OpenLaw.row PySem.Challenge.rw_allheard_k55_whole_reasons_spoilt_anywhe) viewQ 1197 looseQ := DL.hPart3 lwF lwL (DL.hLook1 nmF look1Q) (DL.hLook4 nmF look4Q) look7Q lookDQ
theorem part4Q : DL.Part4 (PySem.W.OpenLaw.row PySem.Challenge.rw_allheard_k55_whole_reasons_spoilt_anywhe) viewQ 1197 looseQ := DL.hPart4 lwF lwL (DL.hLook1 nmF look1Q) (DL.hLook4 nmF look4Q) look7Q lookDQ
end LW
open PySem PySem.W PyProof.Rows
local macro_rules
  | `(tactic| o_head ($_f $K $as $e $ts)) => `(tactic| refine DL.headT (r := (PySem.W.OpenLaw.row PySem.Challenge.rw_allheard_k55_whole_reasons_spoilt_anywhe)) (q := LW.viewQ) (H := PySem.W.kmHook $K $as $e $ts) (ob := DL.obT $as $ts) (M := 1197) (kwd := []) (d := HeadRun.topDef (PySem.W.OpenLaw.row PySem.Challenge.rw_allheard_k55_whole_reasons_spoilt_anywhe).prog 39) (loose := LW.looseQ) (fun s => DL.obT_eq s) (by kernel_rfl) (fun s => by kernel_rfl)
    (by intro w os; kernel_rfl) LW.part2Q LW.part3Q LW.part4Q (by kernel_rfl) (by kernel_rfl) (by kernel_rfl) (by kernel_rfl) (by first | assumption | decide +kernel) (by decide +kernel) ⟨rfl, rfl, rfl, rfl, rfl, by decide +kernel⟩ ?_ ?_)
  | `(tactic| o_head ($_f $K $as $e)) => `(tactic| refine DL.headT (r := (PySem.W.OpenLaw.row PySem.Challenge.rw_allheard_k55_whole_reasons_spoilt_anywhe)) (q := LW.viewQ) (H := PySem.W.kHook $K $as $e) (ob := DL.obK $as) (M := 1197) (kwd := []) (d := HeadRun.topDef (PySem.W.OpenLaw.row PySem.Challenge.rw_allheard_k55_whole_reasons_spoilt_anywhe).prog 39) (loose := LW.looseQ) (fun s => DL.obK_eq s) (by kernel_rfl) (fun s => by kernel_rfl)
    (by intro w os; kernel_rfl) LW.part2Q LW.part3Q LW.part4Q (by kernel_rfl) (by kernel_rfl) (by kernel_rfl) (by kernel_rfl) (by first | assumption | decide +kernel) (by decide +kernel) ⟨rfl, rfl, rfl, rfl, rfl, by decide +kernel⟩ ?_ ?_)
set_option maxRecDepth 100000 in
set_option maxHeartbeats 0 in
noncomputable def LW.headQ : PSigma fun T : Prop => T → PySem.Challenge.rw_allheard_k55_whole_reasons_spoilt_anywhe.Holds := by
  apply PSigma.mk
  intro h
  w_on; o_law; k_head
  · w_witness2
  exact h
end
namespace DL
open PySem L2
inductive D where
  | non | bl (b : Bool) | int (i : Int) | str (s : Str)
  | tup (ds : List D) | lst (ds : List D) | dct (kvs : List (Key × D))
  | lsk (ds : List D)
  | dlk (kvs : List (Key × D))
  | ins (c : Str) (fs : List (Str × D))
  | ref (l : Nat)
  | glb (x : Str)
  | typ (n : String)
inductive Cell where
  | lst (ds : List D) | dct (kvs : List (Key × D)) | ins (c : Str) (fs : List (Str × D)) | dead
  | tab (q nm : Str)
abbrev Store := List Cell
inductive Sl where
  | no | val (d : D) | ml (ds : List D) | fn | exv (c : Str) (fs : List (Str × D))
abbrev En := List Sl
structure Ex where
  c : Str
  fs : List (Str × D)
inductive R where
  | ok (d : D) (ρ : En) (st : Store)
  | exc (c : Ex) (ρ : En) (st : Store)
  | bad
inductive Fl where
  | nx (ρ : En) (st : Store)
  | rt (d : D) (ρ : En) (st : Store)
  | bk (ρ : En) (st : Store)
  | ct (ρ : En) (st : Store)
  | exc (c : Ex) (ρ : En) (st : Store)
  | bad
@[simp] def R.bind (r : R) (f : D → En → Store → R) : R := match r with
  | .ok d ρ st => f d ρ st
  | .exc c ρ st => .exc c ρ st
  | .bad => .bad
abbrev DEx := En → Store → R
abbrev DSx := En → Store → Fl
structure Low where
  G : Hp
  ι : List Addr
  fn : Option Addr
  ex : Option (Addr × Str × Option Addr)
def Low.no : Low := ⟨fun _ => none, [], none, none⟩
structure MG where
  f : Str → Option Value
  b : Low
instance : CoeFun MG (fun _ => Str → Option Value) := ⟨MG.f⟩
structure WB where
  x : WX
  b : Low
instance : CoeFun WB (fun _ => WX) := ⟨WB.x⟩
instance : Coe WB WX := ⟨WB.x⟩
abbrev MGx (X : Cx) (b : Low) : MG := ⟨X.mg, b⟩
section
variable (K : PySem.W.Frag) (mg : MG)
mutual
inductive Rep (G : Hp) (ι : List Addr) : V → D → Prop
  | non : Rep G ι .non .non
  | bl (b : Bool) : Rep G ι (.bl b) (.bl b)
  | int (i : Int) : Rep G ι (.int i) (.int i)
  | str (x : Str) : Rep G ι (.str x) (.str x)
  | lst {a : Addr} {vs : List V} {ds : List D} : G a = some (.lst vs) → vs.length ≤ sizeLine → Reps G ι vs ds → Rep G ι (.ref a) (.lst ds)
  | lsk {a : Addr} {vs : List V} {ds : List D} : SqL K G a vs → vs.length ≤ sizeLine → Reps G ι vs ds → Rep G ι (.ref a) (.lsk ds)
  | tup {a : Addr} {vs : List V} {ds : List D} : SqT K G a vs → vs.length ≤ sizeLine → Reps G ι vs ds → Rep G ι (.ref a) (.tup ds)
  | dct {a : Addr} {vs : List (Key × V)} {ds : List (Key × D)} : Rd G a (.dK vs) → RepK G ι vs ds → Rep G ι (.ref a) (.dct ds)
  | dlk {a : Addr} {o : Obj} {vs : List (Key × V)} {ds : List (Key × D)} : G a = some (.frz o (.dK vs)) → RepK G ι vs ds → Rep G ι (.ref a) (.dlk ds)
  | ins {a C dx : Addr} {c : Str} {vs : List (Str × V)} {ds : List (Str × D)} : mg c = some (.ref C) → G a = some (.ins C dx vs) → G dx = some (.own a) → RepF G ι vs ds → Rep G ι (.ref a) (.ins c ds)
  | ref {a : Addr} {l : Nat} : ι[l]? = some a → Rep G ι (.ref a) (.ref l)
  | glb {v : V} {x : Str} {u : Value} : mg x = some u → RelV v u → Rep G ι v (.glb x)
  | typ (n : String) : Rep G ι (.ty n) (.typ n)
inductive Reps (G : Hp) (ι : List Addr) : List V → List D → Prop
  | nil : Reps G ι [] []
  | cons {v : V} {d : D} {vs : List V} {ds : List D} : Rep G ι v d → Reps G ι vs ds → Reps G ι (v :: vs) (d :: ds)
inductive RepK (G : Hp) (ι : List Addr) : List (Key × V) → List (Key × D) → Prop
  | nil : RepK G ι [] []
  | cons {k : Key} {v : V} {d : D} {vs : List (Key × V)} {ds : List (Key × D)} : Rep G ι v d → RepK G ι vs ds → RepK G ι ((k, v) :: vs) ((k, d) :: ds)
inductive RepF (G : Hp) (ι : List Addr) : List (Str × V) → List (Str × D) → Prop
  | nil : RepF G ι [] []
  | cons {k : Str} {v : V} {d : D} {vs : List (Str × V)} {ds : List (Str × D)} : Rep G ι v d → RepF G ι vs ds → RepF G ι ((k, v) :: vs) ((k, d) :: ds)
end
end
theorem Rd.mono {G G' : Hp} {a : Addr} {u : HO} (e : Same G G') (h : Rd G a u) : Rd G' a u := by
  rcases h with h | ⟨o, h⟩
  · exact .inl (e _ _ h)
  · exact .inr ⟨o, e _ _ h⟩
theorem SqT.mono {K : PySem.W.Frag} {G G' : Hp} {a : Addr} {xs : List V} (e : Same G G') (h : SqT K G a xs) : SqT K G' a xs := by
  rcases h with h | h
  · exact .inl (Rd.mono e h)
  · exact .inr h
theorem SqL.mono {K : PySem.W.Frag} {G G' : Hp} {a : Addr} {xs : List V} (e : Same G G') (h : SqL K G a xs) : SqL K G' a xs := by
  rcases h with h | h
  · exact .inl (Rd.mono e h)
  · exact .inr h
def LeI (ι ι' : List Addr) : Prop := ∀ (l : Nat) (a : Addr), ι[l]? = some a → ι'[l]? = some a
theorem LeI.refl (ι : List Addr) : LeI ι ι := fun _ _ h => h
theorem LeI.trans {a b c : List Addr} (x : LeI a b) (y : LeI b c) : LeI a c := fun l q h => y l q (x l q h)
section
variable {K : PySem.W.Frag} {mg : MG} {G G' : Hp} {ι ι' : List Addr}
mutual
theorem Rep.mono (e : Same G G') (i : LeI ι ι') : ∀ {v : V} {d : D}, Rep K mg G ι v d → Rep K mg G' ι' v d
  | _, _, .non => .non
  | _, _, .bl b => .bl b
  | _, _, .int i => .int i
  | _, _, .str x => .str x
  | _, _, .lst h l r => .lst (e _ _ h) l (Reps.mono e i r)
  | _, _, .lsk h l r => .lsk (SqL.mono e h) l (Reps.mono e i r)
  | _, _, .tup h l r => .tup (SqT.mono e h) l (Reps.mono e i r)
  | _, _, .dct h r => .dct (Rd.mono e h) (RepK.mono e i r)
  | _, _, .dlk h r => .dlk (e _ _ h) (RepK.mono e i r)
  | _, _, .ins c h1 h2 r => .ins c (e _ _ h1) (e _ _ h2) (RepF.mono e i r)
  | _, _, .ref h => .ref (i _ _ h)
  | _, _, .glb h r => .glb h r
  | _, _, .typ n => .typ n
theorem Reps.mono (e : Same G G') (i : LeI ι ι') : ∀ {v : List V} {d : List D}, Reps K mg G ι v d → Reps K mg G' ι' v d
  | _, _, .nil => .nil
  | _, _, .cons h r => .cons (Rep.mono e i h) (Reps.mono e i r)
theorem RepK.mono (e : Same G G') (i : LeI ι ι') : ∀ {v : List (Key × V)} {d : List (Key × D)}, RepK K mg G ι v d → RepK K mg G' ι' v d
  | _, _, .nil => .nil
  | _, _, .cons h r => .cons (Rep.mono e i h) (RepK.mono e i r)
theorem RepF.mono (e : Same G G') (i : LeI ι ι') : ∀ {v : List (Str × V)} {d : List (Str × D)}, RepF K mg G ι v d → RepF K mg G' ι' v d
  | _, _, .nil => .nil
  | _, _, .cons h r => .cons (Rep.mono e i h) (RepF.mono e i r)
end
mutual
theorem Rep.reb (b b' : Low) : ∀ {f : Str → Option Value} {v : V} {d : D}, Rep K ⟨f, b⟩ G ι v d → Rep K ⟨f, b'⟩ G ι v d
  | _, _, _, .non => .non
  | _, _, _, .bl b => .bl b
  | _, _, _, .int i => .int i
  | _, _, _, .str x => .str x
  | _, _, _, .lst h l r => .lst h l (Reps.reb b b' r)
  | _, _, _, .lsk h l r => .lsk h l (Reps.reb b b' r)
  | _, _, _, .tup h l r => .tup h l (Reps.reb b b' r)
  | _, _, _, .dct h r => .dct h (RepK.reb b b' r)
  | _, _, _, .dlk h r => .dlk h (RepK.reb b b' r)
  | _, _, _, .ins c h1 h2 r => .ins c h1 h2 (RepF.reb b b' r)
  | _, _, _, .ref h => .ref h
  | _, _, _, .glb h r => .glb h r
  | _, _, _, .typ n => .typ n
theorem Reps.reb (b b' : Low) : ∀ {f : Str → Option Value} {v : List V} {d : List D}, Reps K ⟨f, b⟩ G ι v d → Reps K ⟨f, b'⟩ G ι v d
  | _, _, _, .nil => .nil
  | _, _, _, .cons h r => .cons (Rep.reb b b' h) (Reps.reb b b' r)
theorem RepK.reb (b b' : Low) : ∀ {f : Str → Option Value} {v : List (Key × V)} {d : List (Key × D)}, RepK K ⟨f, b⟩ G ι v d → RepK K ⟨f, b'⟩ G ι v d
  | _, _, _, .nil => .nil
  | _, _, _, .cons h r => .cons (Rep.reb b b' h) (RepK.reb b b' r)
theorem RepF.reb (b b' : Low) : ∀ {f : Str → Option Value} {v : List (Str × V)} {d : List (Str × D)}, RepF K ⟨f, b⟩ G ι v d → RepF K ⟨f, b'⟩ G ι v d
  | _, _, _, .nil => .nil
  | _, _, _, .cons h r => .cons (Rep.reb b b' h) (RepF.reb b b' r)
end
theorem Reps.len : ∀ {v : List V} {d : List D}, Reps K mg G ι v d → v.length = d.length
  | _, _, .nil => rfl
  | _, _, .cons _ r => by simp [Reps.len r]
theorem Reps.get : ∀ {vs : List V} {ds : List D} {i : Nat} {d : D}, Reps K mg G ι vs ds → ds[i]? = some d → ∃ v, vs[i]? = some v ∧ Rep K mg G ι v d
  | _, _, _, _, .nil, h => by simp at h
  | _, _, 0, _, .cons r _, h => by simp at h; subst h; exact ⟨_, rfl, r⟩
  | _, _, i + 1, d, .cons _ t, h => by
    obtain ⟨v, h1, h2⟩ := Reps.get (i := i) (d := d) t (by simpa using h)
    exact ⟨v, by simpa using h1, h2⟩
theorem Reps.getV : ∀ {vs : List V} {ds : List D} {i : Nat} {v : V}, Reps K mg G ι vs ds → vs[i]? = some v → ∃ d, ds[i]? = some d ∧ Rep K mg G ι v d
  | _, _, _, _, .nil, h => by simp at h
  | _, _, 0, _, .cons r _, h => by simp at h; subst h; exact ⟨_, rfl, r⟩
  | _, _, i + 1, d, .cons _ t, h => by
    obtain ⟨v, h1, h2⟩ := Reps.getV (i := i) (v := d) t (by simpa using h)
    exact ⟨v, by simpa using h1, h2⟩
theorem Reps.append : ∀ {vs ws : List V} {ds es : List D}, Reps K mg G ι vs ds → Reps K mg G ι ws es → Reps K mg G ι (vs ++ ws) (ds ++ es)
  | _, _, _, _, .nil, s => s
  | _, _, _, _, .cons r t, s => .cons r (Reps.append t s)
theorem Reps.take : ∀ {vs : List V} {ds : List D} (n : Nat), Reps K mg G ι vs ds → Reps K mg G ι (vs.take n) (ds.take n)
  | _, _, 0, _ => .nil
  | _, _, _ + 1, .nil => .nil
  | _, _, n + 1, .cons r t => .cons r (Reps.take n t)
theorem Reps.drop : ∀ {vs : List V} {ds : List D} (n : Nat), Reps K mg G ι vs ds → Reps K mg G ι (vs.drop n) (ds.drop n)
  | _, _, 0, r => r
  | _, _, _ + 1, .nil => .nil
  | _, _, n + 1, .cons _ t => Reps.drop n t
theorem Reps.set {v : V} {d : D} (r : Rep K mg G ι v d) : ∀ {vs : List V} {ds : List D} (n : Nat), Reps K mg G ι vs ds → Reps K mg G ι (vs.set n v) (ds.set n d)
  | _, _, _, .nil => .nil
  | _, _, 0, .cons _ t => .cons r t
  | _, _, n + 1, .cons q t => .cons q (Reps.set r n t)
theorem Reps.reverse : ∀ {vs : List V} {ds : List D}, Reps K mg G ι vs ds → Reps K mg G ι vs.reverse ds.reverse
  | _, _, .nil => .nil
  | _, _, .cons r t => by simpa using Reps.append (Reps.reverse t) (.cons r .nil)
theorem Reps.eraseIdx : ∀ {vs : List V} {ds : List D} (n : Nat), Reps K mg G ι vs ds → Reps K mg G ι (vs.eraseIdx n) (ds.eraseIdx n)
  | _, _, _, .nil => .nil
  | _, _, 0, .cons _ t => t
  | _, _, n + 1, .cons q t => .cons q (Reps.eraseIdx n t)
theorem Reps.mem : ∀ {vs : List V} {ds : List D} {v : V}, Reps K mg G ι vs ds → v ∈ vs → ∃ d ∈ ds, Rep K mg G ι v d
  | _, _, _, .nil, h => by simp at h
  | _, _, v, .cons r t, h => by
    rcases List.mem_cons.mp h with rfl | h
    · exact ⟨_, by simp, r⟩
    · obtain ⟨d, h1, h2⟩ := Reps.mem t h
      exact ⟨d, by simp [h1], h2⟩
end
structure Ws where
  ρ : En
  σ : L2.St
  G : Hp
  ι : List Addr
  H : Hp
  st : Store
def TabOf (K : PySem.W.Frag) (mg : Str → Option Value) (q : Str) (P : Addr) : Prop := ∀ (f c : Addr) (fd : FuncData) (oc : Value) (od : Option Addr) (osl : Array (Option Value)), mg q = some (.ref f) → K.lookup f = some ⟨oc, od, .func fd, osl⟩ → fd.code = .ref c → PySem.W.codeHdIn K c P = true
def TabG (G H : Hp) (P : Addr) (nm : Str) : Prop := ∃ ps : Array Value, H P = some (.tbl ps) ∧ TriplesOk ps.toList ∧ ∀ (pos : Pos) (cv : Value), codeAmong pos ps.toList = some cv → ∃ c, cv = .ref c ∧ G c = some (LamX.CodeO c nm)
def CellAt (K : PySem.W.Frag) (mg : MG) (w : Ws) (a : Addr) : Cell → Prop
  | .dead => True
  | .tab q nm => w.G a = none ∧ TabOf K mg q a ∧ TabG w.G w.H a nm
  | .lst ds => w.G a = none ∧ ∃ vs, w.H a = some (.lst vs) ∧ vs.length ≤ sizeLine ∧ Reps K mg w.G w.ι vs ds
  | .dct ds => w.G a = none ∧ ∃ vs, w.H a = some (.dK vs) ∧ RepK K mg w.G w.ι vs ds
  | .ins c ds => w.G a = none ∧ ∃ C dx vs, mg c = some (.ref C) ∧ w.H a = some (.ins C dx vs) ∧ w.H dx = some (.own a) ∧ w.G dx = some (.own a) ∧ RepF K mg w.G w.ι vs ds
def SlotAt (K : PySem.W.Frag) (mg : MG) (w : Ws) (x : Option (Option V)) : Sl → Prop
  | .no => True
  | .val d => ∃ v, x = some (some v) ∧ Rep K mg w.G w.ι v d
  | .ml ds => ∃ a vs, x = some (some (.ref a)) ∧ w.G a = none ∧ w.H a = some (.lst vs) ∧ vs.length ≤ sizeLine ∧ Reps K mg w.G w.ι vs ds
  | .fn => ∃ a, x = some (some (.ref a)) ∧ mg.b.fn = some a
  | .exv c fs => ∃ a od vs, x = some (some (.ref a)) ∧ mg.b.ex = some (a, c, od) ∧ (∀ d, od = some d → w.G d = some (.xd vs)) ∧ (od = none → vs = []) ∧ RepF K mg w.G w.ι vs fs
def OwnS (w : Ws) (i : Nat) (a : Addr) : Prop := ∃ ds, w.ρ[i]? = some (.ml ds) ∧ w.σ[i]? = some (some (V.ref a))
def Liv (w : Ws) (l : Nat) (a : Addr) : Prop := ∃ c, w.st[l]? = some c ∧ c ≠ .dead ∧ w.ι[l]? = some a
def Mt (w : Ws) (a : Addr) : Prop := (∃ l, Liv w l a) ∨ ∃ i, OwnS w i a
structure Sts (K : PySem.W.Frag) (mg : MG) (w : Ws) : Prop where
  lowG : Same mg.b.G w.G
  lowI : LeI mg.b.ι w.ι
  sub : Same w.G w.H
  ln : w.ρ.length = w.σ.length
  len : w.st.length = w.ι.length
  cel : ∀ (l : Nat) c a, w.st[l]? = some c → w.ι[l]? = some a → CellAt K mg w a c
  inj : ∀ l l' a, Liv w l a → Liv w l' a → l = l'
  slo : ∀ (i : Nat) s, w.ρ[i]? = some s → SlotAt K mg w w.σ[i]? s
  sep : ∀ i l a, OwnS w i a → Liv w l a → False
  dis : ∀ i j a, OwnS w i a → OwnS w j a → i = j
theorem Sts.mtG {K : PySem.W.Frag} {mg : MG} {w : Ws} (s : Sts K mg w) {a : Addr} (h : Mt w a) : w.G a = none := by
  rcases h with ⟨l, c, h1, h2, h3⟩ | ⟨i, ds, h1, h2⟩
  · have := s.cel l c a h1 h3
    cases c with
    | dead => exact absurd rfl h2
    | lst ds => exact this.1
    | dct ds => exact this.1
    | ins c ds => exact this.1
    | tab q nm => exact this.1
  · obtain ⟨b, vs, e, g, _⟩ := s.slo i _ h1
    rw [h2] at e
    cases e
    exact g
theorem Sts.mtH {K : PySem.W.Frag} {mg : MG} {w : Ws} (s : Sts K mg w) {a : Addr} (h : Mt w a) : ∃ o, w.H a = some o := by
  rcases h with ⟨l, c, h1, h2, h3⟩ | ⟨i, ds, h1, h2⟩
  · have := s.cel l c a h1 h3
    cases c with
    | dead => exact absurd rfl h2
    | lst ds => obtain ⟨_, vs, e, _⟩ := this; exact ⟨_, e⟩
    | dct ds => obtain ⟨_, vs, e, _⟩ := this; exact ⟨_, e⟩
    | ins c ds => obtain ⟨_, C, dx, vs, _, e, _⟩ := this; exact ⟨_, e⟩
    | tab q nm => obtain ⟨_, _, ps, e, _⟩ := this; exact ⟨_, e⟩
  · obtain ⟨b, vs, e, g, e2, _⟩ := s.slo i _ h1
    rw [h2] at e
    cases e
    exact ⟨_, e2⟩
structure Aft (K : PySem.W.Frag) (mg : MG) (w w' : Ws) : Prop where
  s : Sts K mg w'
  g : Same w.G w'.G
  i : LeI w.ι w'.ι
  kp : ∀ a o, w.H a = some o → ¬ Mt w a → w'.H a = some o
  nw : ∀ a, Mt w' a → Mt w a ∨ w.H a = none
  gn : ∀ a, w'.G a ≠ none → w.G a ≠ none ∨ Mt w a ∨ w.H a = none
  al : ∀ a, w'.H a = none → w.H a = none
section
variable {K : PySem.W.Frag} {mg : MG} {w w' w'' : Ws}
theorem Aft.refl (s : Sts K mg w) : Aft K mg w w := ⟨s, Same.refl _, LeI.refl _, fun _ _ h _ => h, fun _ h => .inl h, fun _ h => .inl h, fun _ h => h⟩
theorem Aft.trans (x : Aft K mg w w') (y : Aft K mg w' w'') : Aft K mg w w'' where
  s := y.s
  g := x.g.trans y.g
  i := x.i.trans y.i
  kp := fun a o h n => y.kp a o (x.kp a o h n) fun q => by
    rcases x.nw a q with q | q
    · exact n q
    · rw [h] at q; cases q
  nw := fun a h => by
    rcases y.nw a h with h | h
    · exact x.nw a h
    · by_cases n : Mt w a
      · exact .inl n
      · refine .inr ?_
        cases e : w.H a with
        | none => rfl
        | some o => rw [x.kp a o e n] at h; cases h
  gn := fun a h => by
    rcases y.gn a h with h | h | h
    · exact x.gn a h
    · rcases x.nw a h with h | h
      · exact .inr (.inl h)
      · exact .inr (.inr h)
    · by_cases n : Mt w a
      · exact .inr (.inl n)
      · refine .inr (.inr ?_)
        cases e : w.H a with
        | none => rfl
        | some o => rw [x.kp a o e n] at h; cases h
  al := fun a h => x.al a (y.al a h)
end
def ExcAt (K : PySem.W.Frag) (mg : MG) (w : Ws) (c : Ex) (cls : Value) (dx : Option Addr) : Prop :=
  (mg c.c = some cls ∨ (mg c.c = none ∧ bootBuiltins c.c = some cls)) ∧
    match c.fs with
    | [] => dx = none
    | fs => ∃ d vs, dx = some d ∧ w.G d = some (.xd vs) ∧ RepF K mg w.G w.ι vs fs
def OkR (K : PySem.W.Frag) (mg : MG) (W : WB) (w : Ws) (Q : VK) : R → Prop
  | .ok d ρ st => ∀ (w' : Ws) (v : V), w'.ρ = ρ → w'.st = st → w'.σ = w.σ → Aft K mg w w' → Rep K mg w'.G w'.ι v d → Q v w'.H
  | .exc c ρ st => ∀ (w' : Ws) (cls : Value) (dx : Option Addr), w'.ρ = ρ → w'.st = st → w'.σ = w.σ → Aft K mg w w' → ExcAt K mg w' c cls dx → W cls dx w'.σ w'.H
  | .bad => False
def Loose (w : Ws) (a : Addr) : Prop := w.G a = none ∧ ¬ Mt w a
def OkO (K : PySem.W.Frag) (mg : MG) (W : WB) (w : Ws) (Q : VK) : R → Prop
  | .ok (.lst ds) ρ st => ∀ (w' : Ws) (a : Addr) (vs : List V), w'.ρ = ρ → w'.st = st → w'.σ = w.σ → Aft K mg w w' → w.H a = none → Loose w' a → w'.H a = some (.lst vs) → vs.length ≤ sizeLine → Reps K mg w'.G w'.ι vs ds → Q (.ref a) w'.H
  | .ok _ _ _ => False
  | .exc c ρ st => ∀ (w' : Ws) (cls : Value) (dx : Option Addr), w'.ρ = ρ → w'.st = st → w'.σ = w.σ → Aft K mg w w' → ExcAt K mg w' c cls dx → W cls dx w'.σ w'.H
  | .bad => False
def OkF (K : PySem.W.Frag) (mg : MG) (W : WB) (w : Ws) (E : Ends) : Fl → Prop
  | .nx ρ st => ∀ w' : Ws, w'.ρ = ρ → w'.st = st → Aft K mg w w' → E.nx w'.σ w'.H
  | .rt d ρ st => ∀ (w' : Ws) (v : V), w'.ρ = ρ → w'.st = st → Aft K mg w w' → Rep K mg w'.G w'.ι v d → E.rt v w'.H
  | .bk ρ st => ∀ w' : Ws, w'.ρ = ρ → w'.st = st → Aft K mg w w' → E.bk w'.σ w'.H
  | .ct ρ st => ∀ w' : Ws, w'.ρ = ρ → w'.st = st → Aft K mg w w' → E.ct w'.σ w'.H
  | .exc c ρ st => ∀ (w' : Ws) (cls : Value) (dx : Option Addr), w'.ρ = ρ → w'.st = st → Aft K mg w w' → ExcAt K mg w' c cls dx → W cls dx w'.σ w'.H
  | .bad => False
section
variable {K : PySem.W.Frag} {mg : MG} {W : WB} {w w1 : Ws}
theorem OkR.aft {Q : VK} {r : R} (h : OkR K mg W w Q r) (a : Aft K mg w w1) (e : w1.σ = w.σ) : OkR K mg W w1 Q r := by
  cases r with
  | ok d ρ st => exact fun w' v h1 h2 h3 h4 h5 => h w' v h1 h2 (h3.trans e) (a.trans h4) h5
  | exc c ρ st => exact fun w' cls dx h1 h2 h3 h4 h5 => h w' cls dx h1 h2 (h3.trans e) (a.trans h4) h5
  | bad => exact h
theorem OkF.aft {E : Ends} {r : Fl} (h : OkF K mg W w E r) (a : Aft K mg w w1) : OkF K mg W w1 E r := by
  cases r with
  | nx ρ st => exact fun w' h1 h2 h4 => h w' h1 h2 (a.trans h4)
  | rt d ρ st => exact fun w' v h1 h2 h4 h5 => h w' v h1 h2 (a.trans h4) h5
  | bk ρ st => exact fun w' h1 h2 h4 => h w' h1 h2 (a.trans h4)
  | ct ρ st => exact fun w' h1 h2 h4 => h w' h1 h2 (a.trans h4)
  | exc c ρ st => exact fun w' cls dx h1 h2 h4 h5 => h w' cls dx h1 h2 (a.trans h4) h5
  | bad => exact h
end
def RefE (K : PySem.W.Frag) (mg : MG) (W : WB) (t : TE) (f : DEx) : Prop :=
  ∀ (w : Ws) (Q : VK), Sts K mg w → OkR K mg W w Q (f w.ρ w.st) → t w.σ w.H Q
def RefO (K : PySem.W.Frag) (mg : MG) (W : WB) (t : TE) (f : DEx) : Prop :=
  ∀ (w : Ws) (Q : VK), Sts K mg w → OkO K mg W w Q (f w.ρ w.st) → t w.σ w.H Q
def RefS (K : PySem.W.Frag) (mg : MG) (W : WB) (t : TS) (f : DSx) : Prop :=
  ∀ (w : Ws) (E : Ends), Sts K mg w → OkF K mg W w E (f w.ρ w.st) → t E w.σ w.H
def DE (X : Cx) (W : WB) (e : Expr) (f : DEx) : Prop := ∃ t, PE X e t ∧ RefE X.K (MGx X W.b) W t f
def IsL (f : DEx) : Prop := ∀ ρ st d ρ' st', f ρ st = .ok d ρ' st' → ∃ ds, d = .lst ds
def DO (X : Cx) (W : WB) (e : Expr) (f : DEx) : Prop := (∃ t, PE X e t ∧ RefO X.K (MGx X W.b) W t f) ∧ IsL f
def DS (X : Cx) (W : WB) (s : Stmt) (f : DSx) : Prop := ∃ t, PS X s t ∧ RefS X.K (MGx X W.b) W t f
def DSs (X : Cx) (W : WB) (s : List Stmt) (f : DSx) : Prop := ∃ t, PSs X s t ∧ RefS X.K (MGx X W.b) W t f
def OkT (K : PySem.W.Frag) (mg : MG) (W : WB) (w : Ws) (Q : Bool → Hp → Prop) : R → Prop
  | .ok (.bl b) ρ st => ∀ (w' : Ws), w'.ρ = ρ → w'.st = st → w'.σ = w.σ → Aft K mg w w' → Q b w'.H
  | .ok _ _ _ => False
  | .exc c ρ st => ∀ (w' : Ws) (cls : Value) (dx : Option Addr), w'.ρ = ρ → w'.st = st → w'.σ = w.σ → Aft K mg w w' → ExcAt K mg w' c cls dx → W cls dx w'.σ w'.H
  | .bad => False
def RefT (K : PySem.W.Frag) (mg : MG) (W : WB) (t : TT) (f : DEx) : Prop :=
  ∀ (w : Ws) (Q : Bool → Hp → Prop), Sts K mg w → OkT K mg W w Q (f w.ρ w.st) → t w.σ w.H Q
def DT (X : Cx) (W : WB) (e : Expr) (f : DEx) : Prop := ∃ t, PT X e t ∧ RefT X.K (MGx X W.b) W t f
def OkA (K : PySem.W.Frag) (mg : MG) (W : WB) (w : Ws) (Q : List V → Hp → Prop) : R → Prop
  | .ok (.tup ds) ρ st => ∀ (w' : Ws) (vs : List V), w'.ρ = ρ → w'.st = st → w'.σ = w.σ → Aft K mg w w' → Reps K mg w'.G w'.ι vs ds → Q vs w'.H
  | .ok _ _ _ => False
  | .exc c ρ st => ∀ (w' : Ws) (cls : Value) (dx : Option Addr), w'.ρ = ρ → w'.st = st → w'.σ = w.σ → Aft K mg w w' → ExcAt K mg w' c cls dx → W cls dx w'.σ w'.H
  | .bad => False
def RefA (K : PySem.W.Frag) (mg : MG) (W : WB) (t : TA) (f : DEx) : Prop :=
  ∀ (w : Ws) (Q : List V → Hp → Prop), Sts K mg w → OkA K mg W w Q (f w.ρ w.st) → t w.σ w.H Q
def DA (X : Cx) (W : WB) (es : List Expr) (f : DEx) : Prop := ∃ t, PA X es t ∧ RefA X.K (MGx X W.b) W t f
section
variable {K : PySem.W.Frag} {mg : MG} {W : WB} {w w1 : Ws}
theorem OkT.aft {Q : Bool → Hp → Prop} {r : R} (h : OkT K mg W w Q r) (a : Aft K mg w w1) (e : w1.σ = w.σ) : OkT K mg W w1 Q r := by
  cases r with
  | ok d ρ st =>
    cases d with
    | bl b => exact fun w' h1 h2 h3 h4 => h w' h1 h2 (h3.trans e) (a.trans h4)
    | _ => exact h
  | exc c ρ st => exact fun w' cls dx h1 h2 h3 h4 h5 => h w' cls dx h1 h2 (h3.trans e) (a.trans h4) h5
  | bad => exact h
theorem OkA.aft {Q : List V → Hp → Prop} {r : R} (h : OkA K mg W w Q r) (a : Aft K mg w w1) (e : w1.σ = w.σ) : OkA K mg W w1 Q r := by
  cases r with
  | ok d ρ st =>
    cases d with
    | tup ds => exact fun w' v h1 h2 h3 h4 h5 => h w' v h1 h2 (h3.trans e) (a.trans h4) h5
    | _ => exact h
  | exc c ρ st => exact fun w' cls dx h1 h2 h3 h4 h5 => h w' cls dx h1 h2 (h3.trans e) (a.trans h4) h5
  | bad => exact h
end
end DL
namespace DL
open PySem L2
section
variable {K : PySem.W.Frag} {mg : MG} {w : Ws}
theorem same_upd {H : Hp} {p : Addr} {o : HO} (h : H p = none) : Same H (upd H p o) := fun b u e => by
  rw [upd_ne (ne_of_none e h)]; exact e
theorem CellAt.keep {w w' : Ws} {a : Addr} {c : Cell} (h : CellAt K mg w a c) (g : Same w.G w'.G) (i : LeI w.ι w'.ι) (ha : c ≠ .dead → w'.G a = none ∧ ∀ o, w.H a = some o → w'.H a = some o)
    (hd : Same w'.G w'.H) : CellAt K mg w' a c := by
  cases c with
  | dead => trivial
  | lst ds => obtain ⟨_, vs, e, l, r⟩ := h; have := ha (by simp); exact ⟨this.1, vs, this.2 _ e, l, r.mono g i⟩
  | dct ds => obtain ⟨_, vs, e, r⟩ := h; have := ha (by simp); exact ⟨this.1, vs, this.2 _ e, r.mono g i⟩
  | ins c ds =>
    obtain ⟨_, C, dx, vs, m, e, o, o', r⟩ := h
    have := ha (by simp)
    exact ⟨this.1, C, dx, vs, m, this.2 _ e, hd _ _ (g _ _ o'), g _ _ o', r.mono g i⟩
  | tab q nm =>
    obtain ⟨_, t, ps, e, h1, h2⟩ := h
    have := ha (by simp)
    exact ⟨this.1, t, ps, this.2 _ e, h1, fun pos cv hc => let ⟨c, e1, e2⟩ := h2 pos cv hc; ⟨c, e1, g _ _ e2⟩⟩
theorem SlotAt.keep {w w' : Ws} {x : Option (Option V)} {s : Sl} (h : SlotAt K mg w x s) (g : Same w.G w'.G) (i : LeI w.ι w'.ι) (ha : ∀ a, (∃ ds, s = .ml ds) → x = some (some (.ref a)) → w'.G a = none ∧ ∀ o, w.H a = some o → w'.H a = some o) : SlotAt K mg w' x s := by
  cases s with
  | no => trivial
  | val d => obtain ⟨v, e, r⟩ := h; exact ⟨v, e, r.mono g i⟩
  | ml ds => obtain ⟨a, vs, e, _, e2, l, r⟩ := h; have := ha a ⟨ds, rfl⟩ e; exact ⟨a, vs, e, this.1, this.2 _ e2, l, r.mono g i⟩
  | fn => exact h
  | exv c fs => obtain ⟨a, od, vs, e, e1, e2, e3, r⟩ := h; exact ⟨a, od, vs, e, e1, fun d q => g _ _ (e2 d q), e3, r.mono g i⟩
theorem Liv.mt {l : Nat} {a : Addr} (h : Liv w l a) : Mt w a := .inl ⟨l, h⟩
theorem OwnS.mt {i : Nat} {a : Addr} (h : OwnS w i a) : Mt w a := .inr ⟨i, h⟩
theorem Sts.heap {G' H' : Hp} (s : Sts K mg w) (g : Same w.G G') (sub : Same G' H') (m : ∀ a, Mt w a → G' a = none ∧ ∀ o, w.H a = some o → H' a = some o) : Sts K mg { w with G := G', H := H' } where
  lowG := s.lowG.trans g
  lowI := s.lowI
  sub := sub
  ln := s.ln
  len := s.len
  cel := fun l c a h1 h2 => (s.cel l c a h1 h2).keep (w' := { w with G := G', H := H' }) g (LeI.refl _) (fun n => m a (.inl ⟨l, c, h1, n, h2⟩)) sub
  inj := s.inj
  slo := fun i x h => (s.slo i x h).keep (w' := { w with G := G', H := H' }) g (LeI.refl _) fun a ⟨ds, e⟩ h2 => m a (.inr ⟨i, ds, by rw [h, e], h2⟩)
  sep := s.sep
  dis := s.dis
theorem Sts.alloc (s : Sts K mg w) {p : Addr} {o : HO} (hp : w.H p = none) : Sts K mg { w with G := upd w.G p o, H := upd w.H p o } := by
  have gp : w.G p = none := s.sub.free hp
  refine s.heap (same_upd gp) (fun b u e => ?_) fun a m => ?_
  · by_cases h : b = p
    · subst h; rw [upd_same] at e ⊢; exact e
    · rw [upd_ne h] at e ⊢; exact s.sub _ _ e
  · obtain ⟨u, hu⟩ := s.mtH m
    have np : a ≠ p := ne_of_none hu hp
    rw [upd_ne np]
    exact ⟨s.mtG m, fun o e => by rw [upd_ne np]; exact e⟩
theorem Aft.alloc (s : Sts K mg w) {p : Addr} {o : HO} (hp : w.H p = none) : Aft K mg w { w with G := upd w.G p o, H := upd w.H p o } where
  s := s.alloc hp
  g := same_upd (s.sub.free hp)
  i := LeI.refl _
  kp := fun a u h _ => by show upd w.H p o a = some u; rw [upd_ne (ne_of_none h hp)]; exact h
  nw := fun a h => .inl h
  gn := fun a h => by
    by_cases e : a = p
    · subst e; exact .inr (.inr hp)
    · refine .inl ?_
      have h' : upd w.G p o a ≠ none := h
      rwa [upd_ne e] at h'
  al := fun a h => by
    by_cases e : a = p
    · rw [e]; exact hp
    · have h' : upd w.H p o a = none := h
      rwa [upd_ne e] at h'
theorem Aft.loose (s : Sts K mg w) {p : Addr} {o : HO} (hp : w.H p = none) : Aft K mg w { w with H := upd w.H p o } where
  s := s.heap (G' := w.G) (H' := upd w.H p o) (Same.refl _) (fun b u e => by rw [upd_ne (ne_of_none (s.sub _ _ e) hp)]; exact s.sub _ _ e) fun a m => ⟨s.mtG m, fun u e => by rw [upd_ne (ne_of_none e hp)]; exact e⟩
  g := Same.refl _
  i := LeI.refl _
  kp := fun a u h _ => by show upd w.H p o a = some u; rw [upd_ne (ne_of_none h hp)]; exact h
  nw := fun a h => .inl h
  gn := fun a h => .inl h
  al := fun a h => by
    by_cases e : a = p
    · rw [e]; exact hp
    · have h' : upd w.H p o a = none := h
      rwa [upd_ne e] at h'
theorem Sts.looseAt (s : Sts K mg w) {p : Addr} {o : HO} (hp : w.H p = none) : Loose { w with H := upd w.H p o } p :=
  ⟨s.sub.free hp, fun m => by
    obtain ⟨u, hu⟩ := s.mtH (w := w) (a := p) m
    rw [hp] at hu; cases hu⟩
theorem Aft.freeze {w0 : Ws} (A : Aft K mg w0 w) {a : Addr} {o : HO} (hf : w0.H a = none) (hl : Loose w a) (ha : w.H a = some o) : Aft K mg w0 { w with G := upd w.G a o } where
  s := A.s.heap (G' := upd w.G a o) (H' := w.H) (same_upd hl.1) (fun b u e => by
      by_cases h : b = a
      · subst h; rw [upd_same] at e; rw [ha]; exact e
      · rw [upd_ne h] at e; exact A.s.sub _ _ e) fun b m => ⟨by rw [upd_ne (fun e : b = a => hl.2 (e ▸ m))]; exact A.s.mtG m, fun u e => e⟩
  g := A.g.trans (same_upd hl.1)
  i := A.i
  kp := A.kp
  nw := A.nw
  gn := fun b h => by
    by_cases e : b = a
    · subst e; exact .inr (.inr hf)
    · refine A.gn b ?_
      have h' : upd w.G a o b ≠ none := h
      rwa [upd_ne e] at h'
  al := A.al
theorem getElem?_set_ite {α : Type} {l : List α} {i j : Nat} {x y : α} (h : (l.set i x)[j]? = some y) : (j = i ∧ y = x ∧ i < l.length) ∨ (j ≠ i ∧ l[j]? = some y) := by
  by_cases e : i = j
  · subst e
    by_cases q : i < l.length
    · rw [List.getElem?_set_self q] at h; exact .inl ⟨rfl, (Option.some.inj h).symm, q⟩
    · rw [List.getElem?_eq_none (by simp; omega)] at h; cases h
  · rw [List.getElem?_set_ne e] at h; exact .inr ⟨fun q => e q.symm, h⟩
theorem OwnS.of_set {i j : Nat} {s : Sl} {x : Option V} {a : Addr} (hs : ∀ ds, s ≠ .ml ds) (h : OwnS { w with ρ := w.ρ.set i s, σ := w.σ.set i x } j a) : OwnS w j a := by
  obtain ⟨ds, h1, h2⟩ := h
  rcases getElem?_set_ite h1 with ⟨_, e, _⟩ | ⟨ne, e⟩
  · exact absurd e.symm (hs ds)
  · rcases getElem?_set_ite h2 with ⟨e', _⟩ | ⟨_, e2⟩
    · exact absurd e' ne
    · exact ⟨ds, e, e2⟩
theorem Aft.setVal (s : Sts K mg w) {i : Nat} {v : V} {d : D} (r : Rep K mg w.G w.ι v d) : Aft K mg w { w with ρ := w.ρ.set i (.val d), σ := w.σ.set i (some v) } := by
  have ow : ∀ j a, OwnS { w with ρ := w.ρ.set i (.val d), σ := w.σ.set i (some v) } j a → OwnS w j a := fun j a h => h.of_set (fun ds e => by cases e)
  refine ⟨⟨s.lowG, s.lowI, s.sub, by simpa using s.ln, s.len, s.cel, s.inj, fun j x h => ?_, fun j l a h1 h2 => s.sep j l a (ow j a h1) h2, fun j k a h1 h2 => s.dis j k a (ow j a h1) (ow k a h2)⟩, Same.refl _, LeI.refl _, fun _ _ h _ => h, fun a h => .inl ?_, fun _ h => .inl h, fun _ h => h⟩
  · rcases getElem?_set_ite h with ⟨e, e2, hl⟩ | ⟨ne, e⟩
    · subst e; subst e2
      exact ⟨v, List.getElem?_set_self (by rw [← s.ln]; exact hl), r⟩
    · have := s.slo j x e
      show SlotAt K mg { w with ρ := w.ρ.set i (.val d), σ := w.σ.set i (some v) } (w.σ.set i (some v))[j]? x
      rw [List.getElem?_set_ne (Ne.symm ne)]
      exact this
  · rcases h with h | ⟨j, h⟩
    · exact .inl h
    · exact .inr ⟨j, ow j a h⟩
theorem Aft.setNo (s : Sts K mg w) {i : Nat} {x : Option V} : Aft K mg w { w with ρ := w.ρ.set i .no, σ := w.σ.set i x } := by
  have ow : ∀ j a, OwnS { w with ρ := w.ρ.set i .no, σ := w.σ.set i x } j a → OwnS w j a := fun j a h => h.of_set (fun ds e => by cases e)
  refine ⟨⟨s.lowG, s.lowI, s.sub, by simpa using s.ln, s.len, s.cel, s.inj, fun j x' h => ?_, fun j l a h1 h2 => s.sep j l a (ow j a h1) h2, fun j k a h1 h2 => s.dis j k a (ow j a h1) (ow k a h2)⟩, Same.refl _, LeI.refl _, fun _ _ h _ => h, fun a h => .inl ?_, fun _ h => .inl h, fun _ h => h⟩
  · rcases getElem?_set_ite h with ⟨e, e2, hl⟩ | ⟨ne, e⟩
    · subst e; subst e2; trivial
    · have := s.slo j x' e
      show SlotAt K mg { w with ρ := w.ρ.set i .no, σ := w.σ.set i x } (w.σ.set i x)[j]? x'
      rw [List.getElem?_set_ne (Ne.symm ne)]
      exact this
  · rcases h with h | ⟨j, h⟩
    · exact .inl h
    · exact .inr ⟨j, ow j a h⟩
theorem Aft.setMl {w0 : Ws} (A : Aft K mg w0 w) {i : Nat} {a : Addr} {vs : List V} {ds : List D} (hf : w0.H a = none) (hl : Loose w a) (ha : w.H a = some (.lst vs)) (hz : vs.length ≤ sizeLine) (r : Reps K mg w.G w.ι vs ds) :
    Aft K mg w0 { w with ρ := w.ρ.set i (.ml ds), σ := w.σ.set i (some (.ref a)) } := by
  have s := A.s
  have ow : ∀ j b, OwnS { w with ρ := w.ρ.set i (.ml ds), σ := w.σ.set i (some (.ref a)) } j b → (j = i ∧ b = a) ∨ (j ≠ i ∧ OwnS w j b) := fun j b h => by
    obtain ⟨es, h1, h2⟩ := h
    rcases getElem?_set_ite h1 with ⟨e, _, _⟩ | ⟨ne, e⟩
    · rcases getElem?_set_ite h2 with ⟨_, e2, _⟩ | ⟨ne, _⟩
      · cases e2; exact .inl ⟨e, rfl⟩
      · exact absurd e ne
    · rcases getElem?_set_ite h2 with ⟨e', _⟩ | ⟨_, e2⟩
      · exact absurd e' ne
      · exact .inr ⟨ne, es, e, e2⟩
  refine ⟨⟨s.lowG, s.lowI, s.sub, by simpa using s.ln, s.len, s.cel, s.inj, fun j x h => ?_, fun j l b h1 h2 => ?_, fun j k b h1 h2 => ?_⟩, A.g, A.i, A.kp, fun b h => ?_, A.gn, A.al⟩
  · rcases getElem?_set_ite h with ⟨e, e2, hl'⟩ | ⟨ne, e⟩
    · subst e; subst e2
      exact ⟨a, vs, List.getElem?_set_self (by rw [← s.ln]; exact hl'), hl.1, ha, hz, r⟩
    · have := s.slo j x e
      show SlotAt K mg { w with ρ := w.ρ.set i (.ml ds), σ := w.σ.set i (some (.ref a)) } (w.σ.set i (some (.ref a)))[j]? x
      rw [List.getElem?_set_ne (Ne.symm ne)]
      exact this
  · rcases ow j b h1 with ⟨_, e⟩ | ⟨_, h1⟩
    · subst e; exact hl.2 (.inl ⟨l, h2⟩)
    · exact s.sep j l b h1 h2
  · rcases ow j b h1 with ⟨e1, e⟩ | ⟨_, q1⟩ <;> rcases ow k b h2 with ⟨e2, e'⟩ | ⟨_, q2⟩
    · rw [e1, e2]
    · subst e; exact (hl.2 (.inr ⟨k, q2⟩)).elim
    · subst e'; exact (hl.2 (.inr ⟨j, q1⟩)).elim
    · exact s.dis j k b q1 q2
  · rcases h with h | ⟨j, h⟩
    · exact A.nw b (.inl h)
    · rcases ow j b h with ⟨_, e⟩ | ⟨_, h⟩
      · subst e; exact .inr hf
      · exact A.nw b (.inr ⟨j, h⟩)
theorem Aft.mutMl (s : Sts K mg w) {i : Nat} {a : Addr} {ds0 ds : List D} {vs : List V} (h0 : w.ρ[i]? = some (.ml ds0)) (h1 : w.σ[i]? = some (some (.ref a))) (hz : vs.length ≤ sizeLine) (r : Reps K mg w.G w.ι vs ds) :
    Aft K mg w { w with ρ := w.ρ.set i (.ml ds), H := upd w.H a (.lst vs) } := by
  have own : OwnS w i a := ⟨ds0, h0, h1⟩
  have ga : w.G a = none := s.mtG own.mt
  have hi : i < w.ρ.length := by
    rcases List.getElem?_eq_some_iff.mp h0 with ⟨h, _⟩; exact h
  have ow : ∀ j b, OwnS { w with ρ := w.ρ.set i (.ml ds), H := upd w.H a (.lst vs) } j b → OwnS w j b := fun j b h => by
    obtain ⟨es, h1', h2⟩ := h
    rcases getElem?_set_ite h1' with ⟨e, _, _⟩ | ⟨ne, e⟩
    · exact ⟨ds0, by rw [e]; exact h0, h2⟩
    · exact ⟨es, e, h2⟩
  have lv : ∀ l b, Liv w l b → b ≠ a := fun l b h e => s.sep i l a own (e ▸ h)
  refine ⟨⟨s.lowG, s.lowI, fun b u e => ?_, by simpa using s.ln, s.len, fun l c b h1 h2 => ?_, s.inj, fun j x h => ?_, fun j l b h1 h2 => s.sep j l b (ow j b h1) h2, fun j k b h1 h2 => s.dis j k b (ow j b h1) (ow k b h2)⟩, Same.refl _, LeI.refl _, fun b u h n => ?_, fun b h => .inl ?_, fun _ h => .inl h, fun b h => ?_⟩
  · show upd w.H a (.lst vs) b = some u
    have e' : w.G b = some u := e
    rw [upd_ne (fun q => by rw [q, ga] at e'; cases e')]
    exact s.sub _ _ e'
  · exact (s.cel l c b h1 h2).keep (w' := { w with ρ := w.ρ.set i (.ml ds), H := upd w.H a (.lst vs) }) (Same.refl _) (LeI.refl _) (fun n => ⟨s.mtG (.inl ⟨l, c, h1, n, h2⟩), fun o e => by
      show upd w.H a (.lst vs) b = some o
      rw [upd_ne (lv l b ⟨c, h1, n, h2⟩)]; exact e⟩) (fun b u e => by
      show upd w.H a (.lst vs) b = some u
      have e' : w.G b = some u := e
      rw [upd_ne (fun q => by rw [q, ga] at e'; cases e')]
      exact s.sub _ _ e')
  · rcases getElem?_set_ite h with ⟨e, e2, hl'⟩ | ⟨ne, e⟩
    · subst e; subst e2
      exact ⟨a, vs, h1, ga, upd_same, hz, r⟩
    · refine (s.slo j x e).keep (w' := { w with ρ := w.ρ.set i (.ml ds), H := upd w.H a (.lst vs) }) (Same.refl _) (LeI.refl _) fun b ⟨es, e3⟩ h2 => ?_
      have o2 : OwnS w j b := ⟨es, by rw [e, e3], h2⟩
      refine ⟨s.mtG o2.mt, fun o e4 => ?_⟩
      show upd w.H a (.lst vs) b = some o
      rw [upd_ne (fun q : b = a => ne (s.dis j i b o2 (q ▸ own)))]
      exact e4
  · show upd w.H a (.lst vs) b = some u
    rw [upd_ne (fun q : b = a => n (q ▸ own.mt))]
    exact h
  · rcases h with h | ⟨j, h⟩
    · exact .inl h
    · exact .inr ⟨j, ow j b h⟩
  · have h' : upd w.H a (.lst vs) b = none := h
    by_cases e : b = a
    · rw [e, upd_same] at h'; cases h'
    · rwa [upd_ne e] at h'
theorem getElem?_append_one {α : Type} {l : List α} {x y : α} {i : Nat} (h : (l ++ [x])[i]? = some y) : l[i]? = some y ∨ (i = l.length ∧ y = x) := by
  by_cases q : i < l.length
  · rw [List.getElem?_append_left q] at h; exact .inl h
  · rw [List.getElem?_append_right (by omega)] at h
    by_cases e : i = l.length
    · subst e; simp at h; exact .inr ⟨rfl, h.symm⟩
    · rw [List.getElem?_eq_none (by simp; omega)] at h; cases h
theorem leI_append (ι : List Addr) (a : Addr) : LeI ι (ι ++ [a]) := fun l b h => by
  rw [List.getElem?_append_left (List.getElem?_eq_some_iff.mp h).1]; exact h
theorem Aft.newCell {w0 : Ws} (A : Aft K mg w0 w) {a : Addr} {vs : List V} {ds : List D} (hf : w0.H a = none) (hl : Loose w a) (ha : w.H a = some (.lst vs)) (hz : vs.length ≤ sizeLine) (r : Reps K mg w.G w.ι vs ds) :
    Aft K mg w0 { w with ι := w.ι ++ [a], st := w.st ++ [.lst ds] } := by
  have s := A.s
  have le := leI_append w.ι a
  have lv : ∀ l b, Liv { w with ι := w.ι ++ [a], st := w.st ++ [.lst ds] } l b → (l = w.st.length ∧ b = a) ∨ Liv w l b := fun l b h => by
    obtain ⟨c, h1, h2, h3⟩ := h
    rcases getElem?_append_one h1 with h1 | ⟨h1, _⟩
    · rcases getElem?_append_one h3 with h3 | ⟨h3, _⟩
      · exact .inr ⟨c, h1, h2, h3⟩
      · have := (List.getElem?_eq_some_iff.mp h1).1
        rw [s.len] at this; omega
    · rcases getElem?_append_one h3 with h3 | ⟨_, h3⟩
      · have := (List.getElem?_eq_some_iff.mp h3).1
        rw [← s.len] at this; omega
      · exact .inl ⟨h1, h3⟩
  refine ⟨⟨s.lowG, s.lowI.trans le, s.sub, s.ln, by simp [s.len], fun l c b h1 h2 => ?_, fun l l' b h1 h2 => ?_, fun i x h => ?_, fun i l b h1 h2 => ?_, s.dis⟩, A.g, A.i.trans le, A.kp, fun b h => ?_, A.gn, A.al⟩
  · rcases getElem?_append_one h1 with h1 | ⟨h1, e⟩
    · rcases getElem?_append_one h2 with h2 | ⟨h2, _⟩
      · exact (s.cel l c b h1 h2).keep (w' := { w with ι := w.ι ++ [a], st := w.st ++ [.lst ds] }) (Same.refl _) le (fun n => ⟨s.mtG (.inl ⟨l, c, h1, n, h2⟩), fun _ e => e⟩) s.sub
      · have := (List.getElem?_eq_some_iff.mp h1).1
        rw [s.len] at this; omega
    · rcases getElem?_append_one h2 with h2 | ⟨_, h2⟩
      · have := (List.getElem?_eq_some_iff.mp h2).1
        rw [← s.len] at this; omega
      · subst e; subst h2
        exact ⟨hl.1, vs, ha, hz, r.mono (Same.refl _) le⟩
  · rcases lv l b h1 with ⟨e1, e⟩ | q1 <;> rcases lv l' b h2 with ⟨e2, e'⟩ | q2
    · rw [e1, e2]
    · subst e; exact (hl.2 (.inl ⟨l', q2⟩)).elim
    · subst e'; exact (hl.2 (.inl ⟨l, q1⟩)).elim
    · exact s.inj l l' b q1 q2
  · exact (s.slo i x h).keep (w' := { w with ι := w.ι ++ [a], st := w.st ++ [.lst ds] }) (Same.refl _) le fun b ⟨es, e⟩ h2 => ⟨s.mtG (.inr ⟨i, es, by rw [h, e], h2⟩), fun _ e => e⟩
  · rcases lv l b h2 with ⟨_, e⟩ | q2
    · subst e; exact hl.2 (.inr ⟨i, h1⟩)
    · exact s.sep i l b h1 q2
  · rcases h with ⟨l, h⟩ | h
    · rcases lv l b h with ⟨_, e⟩ | q
      · subst e; exact .inr hf
      · exact A.nw b (.inl ⟨l, q⟩)
    · exact A.nw b (.inr h)
theorem Aft.mutCell (s : Sts K mg w) {l : Nat} {a : Addr} {c0 c : Cell} {o : HO} (h0 : w.st[l]? = some c0) (hd : c0 ≠ .dead) (h1 : w.ι[l]? = some a) (hc : c ≠ .dead)
    (r : CellAt K mg { w with H := upd w.H a o, st := w.st.set l c } a c) : Aft K mg w { w with H := upd w.H a o, st := w.st.set l c } := by
  have own : Liv w l a := ⟨c0, h0, hd, h1⟩
  have ga : w.G a = none := s.mtG own.mt
  have sub' : Same w.G (upd w.H a o) := fun b u e => by
    rw [upd_ne (fun q => by rw [q, ga] at e; cases e)]
    exact s.sub _ _ e
  have lv : ∀ k b, Liv { w with H := upd w.H a o, st := w.st.set l c } k b → Liv w k b := fun k b h => by
    obtain ⟨c', q1, q2, q3⟩ := h
    rcases getElem?_set_ite q1 with ⟨e, _, _⟩ | ⟨_, e⟩
    · subst e; exact ⟨c0, h0, hd, q3⟩
    · exact ⟨c', e, q2, q3⟩
  refine ⟨⟨s.lowG, s.lowI, sub', s.ln, by simpa using s.len, fun k c' b q1 q2 => ?_, fun k k' b q1 q2 => s.inj k k' b (lv k b q1) (lv k' b q2), fun i x h => ?_, fun i k b q1 q2 => s.sep i k b q1 (lv k b q2), s.dis⟩, Same.refl _, LeI.refl _, fun b u h n => ?_, fun b h => .inl ?_, fun _ h => .inl h, fun b h => ?_⟩
  · rcases getElem?_set_ite q1 with ⟨e, e2, _⟩ | ⟨ne, e⟩
    · subst e; subst e2
      have : b = a := Option.some.inj (q2.symm.trans h1)
      subst this; exact r
    · refine (s.cel k c' b e q2).keep (w' := { w with H := upd w.H a o, st := w.st.set l c }) (Same.refl _) (LeI.refl _) (fun n => ⟨s.mtG (.inl ⟨k, c', e, n, q2⟩), fun u e4 => ?_⟩) sub'
      show upd w.H a o b = some u
      rw [upd_ne (fun q : b = a => ne (s.inj k l b ⟨c', e, n, q2⟩ (q ▸ own)))]
      exact e4
  · refine (s.slo i x h).keep (w' := { w with H := upd w.H a o, st := w.st.set l c }) (Same.refl _) (LeI.refl _) fun b ⟨es, e3⟩ h2 => ?_
    have o2 : OwnS w i b := ⟨es, by rw [h, e3], h2⟩
    refine ⟨s.mtG o2.mt, fun u e4 => ?_⟩
    show upd w.H a o b = some u
    rw [upd_ne (fun q : b = a => s.sep i l b o2 (q ▸ own))]
    exact e4
  · show upd w.H a o b = some u
    rw [upd_ne (fun q : b = a => n (q ▸ own.mt))]
    exact h
  · rcases h with ⟨k, h⟩ | h
    · exact .inl ⟨k, lv k b h⟩
    · exact .inr h
  · have h' : upd w.H a o b = none := h
    by_cases e : b = a
    · rw [e, upd_same] at h'; cases h'
    · rwa [upd_ne e] at h'
def Ws.strip (w : Ws) : Ws := { w with ρ := [], σ := [] }
theorem mt_strip {a : Addr} (h : Mt w.strip a) : ∃ l, Liv w l a := by
  rcases h with ⟨l, h⟩ | ⟨i, ds, h, _⟩
  · exact ⟨l, h⟩
  · simp [Ws.strip] at h
theorem Sts.strip (s : Sts K mg w) : Sts K mg w.strip where
  lowG := s.lowG
  lowI := s.lowI
  sub := s.sub
  ln := rfl
  len := s.len
  cel := s.cel
  inj := s.inj
  slo := fun i x h => by simp [Ws.strip] at h
  sep := fun i l a h _ => by obtain ⟨ds, h, _⟩ := h; simp [Ws.strip] at h
  dis := fun i j a h _ => by obtain ⟨ds, h, _⟩ := h; simp [Ws.strip] at h
theorem Aft.back {w' : Ws} (s : Sts K mg w) (A : Aft K mg w.strip w') : Aft K mg w { w' with ρ := w.ρ, σ := w.σ } := by
  have nm : ∀ i a, OwnS w i a → ¬ Mt w.strip a := fun i a h m => by
    obtain ⟨l, hl⟩ := mt_strip m
    exact s.sep i l a h hl
  have nm' : ∀ i a, OwnS w i a → ¬ Mt w' a := fun i a h m => by
    rcases A.nw a m with m | m
    · exact nm i a h m
    · obtain ⟨o, ho⟩ := s.mtH h.mt
      have m' : w.H a = none := m
      rw [m'] at ho; cases ho
  have ng : ∀ i a, OwnS w i a → w'.G a = none := fun i a h => by
    cases e : w'.G a with
    | none => rfl
    | some u =>
      rcases A.gn a (by rw [e]; simp) with q | q | q
      · exact absurd (s.mtG h.mt) q
      · exact absurd q (nm i a h)
      · obtain ⟨o, ho⟩ := s.mtH h.mt
        have m' : w.H a = none := q
        rw [m'] at ho; cases ho
  refine ⟨⟨A.s.lowG, A.s.lowI, A.s.sub, s.ln, A.s.len, A.s.cel, A.s.inj, fun i x h => ?_, fun i l a h1 h2 => nm' i a h1 (.inl ⟨l, h2⟩), s.dis⟩, A.g, A.i, fun a o h n => A.kp a o h fun m => n ?_, fun a h => ?_, fun a h => ?_, A.al⟩
  · exact (s.slo i x h).keep (w' := { w' with ρ := w.ρ, σ := w.σ }) A.g A.i fun a ⟨ds, e⟩ h2 => by
      have o2 : OwnS w i a := ⟨ds, by rw [h, e], h2⟩
      exact ⟨ng i a o2, fun o ho => A.kp a o ho (nm i a o2)⟩
  · obtain ⟨l, hl⟩ := mt_strip m; exact .inl ⟨l, hl⟩
  · rcases h with ⟨l, h⟩ | h
    · rcases A.nw a (.inl ⟨l, h⟩) with q | q
      · obtain ⟨l, hl⟩ := mt_strip q; exact .inl (.inl ⟨l, hl⟩)
      · exact .inr q
    · exact .inl (.inr h)
  · rcases A.gn a h with q | q | q
    · exact .inl q
    · obtain ⟨l, hl⟩ := mt_strip q; exact .inr (.inl (.inl ⟨l, hl⟩))
    · exact .inr (.inr q)
theorem Aft.out {w' : Ws} (s : Sts K mg w.strip) {ρ : En} {σ : L2.St} (hρ : ∀ (i : Nat) ds, ρ[i]? ≠ some (Sl.ml ds)) (A : Aft K mg { w with ρ := ρ, σ := σ } w') : Aft K mg w.strip w'.strip := by
  have m0 : ∀ a, Mt { w with ρ := ρ, σ := σ } a → Mt w.strip a := fun a h => by
    rcases h with h | ⟨i, ds, h, _⟩
    · exact .inl h
    · exact absurd h (hρ i ds)
  refine ⟨A.s.strip, A.g, A.i, fun a o h n => A.kp a o h fun m => n (m0 a m), fun a h => ?_, fun a h => ?_, A.al⟩
  · obtain ⟨l, hl⟩ := mt_strip h
    rcases A.nw a (.inl ⟨l, hl⟩) with q | q
    · exact .inl (m0 a q)
    · exact .inr q
  · rcases A.gn a h with q | q | q
    · exact .inl q
    · exact .inr (.inl (m0 a q))
    · exact .inr (.inr q)
end
section
variable {K : PySem.W.Frag} {f : Str → Option Value} {b b' : Low} {w : Ws}
theorem CellAt.reb (b b' : Low) {a : Addr} {c : Cell} (h : CellAt K ⟨f, b⟩ w a c) : CellAt K ⟨f, b'⟩ w a c := by
  cases c with
  | dead => trivial
  | lst ds => obtain ⟨h1, vs, e, l, r⟩ := h; exact ⟨h1, vs, e, l, r.reb b b'⟩
  | dct ds => obtain ⟨h1, vs, e, r⟩ := h; exact ⟨h1, vs, e, r.reb b b'⟩
  | ins c ds => obtain ⟨h1, C, dx, vs, m, e, o, o', r⟩ := h; exact ⟨h1, C, dx, vs, m, e, o, o', r.reb b b'⟩
  | tab q nm => exact h
theorem Sts.reb (s : Sts K ⟨f, b⟩ w) (hρ : w.ρ = []) (hG : Same b'.G w.G) (hI : LeI b'.ι w.ι) : Sts K ⟨f, b'⟩ w where
  lowG := hG
  lowI := hI
  sub := s.sub
  ln := s.ln
  len := s.len
  cel := fun l c a h1 h2 => (s.cel l c a h1 h2).reb b b'
  inj := s.inj
  slo := fun i x h => by rw [hρ] at h; simp at h
  sep := s.sep
  dis := s.dis
theorem Aft.reb {w' : Ws} (s : Sts K ⟨f, b'⟩ w) (A : Aft K ⟨f, b⟩ w w') (hρ : w'.ρ = []) : Aft K ⟨f, b'⟩ w w' :=
  ⟨A.s.reb hρ (s.lowG.trans A.g) (s.lowI.trans A.i), A.g, A.i, A.kp, A.nw, A.gn, A.al⟩
theorem Sts.noB (s : Sts K ⟨f, b⟩ w) (hρ : w.ρ = []) : Sts K ⟨f, Low.no⟩ w := s.reb hρ (fun _ _ z => by cases z) (fun _ _ z => by cases z)
end
end DL
namespace DL
open PySem L2
section
variable {K : PySem.W.Frag} {mg : MG} {W : WB} {G : Hp} {ι : List Addr}
theorem Rep.int_inv {v : V} {i : Int} (h : Rep K mg G ι v (.int i)) : v = .int i := by cases h; rfl
theorem Rep.str_inv {v : V} {i : Str} (h : Rep K mg G ι v (.str i)) : v = .str i := by cases h; rfl
theorem Rep.bl_inv {v : V} {i : Bool} (h : Rep K mg G ι v (.bl i)) : v = .bl i := by cases h; rfl
theorem Rep.non_inv {v : V} (h : Rep K mg G ι v .non) : v = .non := by cases h; rfl
end
def RepV (K : PySem.W.Frag) (mg : MG) (w : Ws) (v : V) (d : D) : Prop :=
  Rep K mg w.G w.ι v d ∨ (∃ a vs ds, v = .ref a ∧ d = .lst ds ∧ w.H a = some (.lst vs) ∧ vs.length ≤ sizeLine ∧ Reps K mg w.G w.ι vs ds) ∨
    ∃ a vs ds, v = .ref a ∧ d = .dct ds ∧ w.H a = some (.dK vs) ∧ RepK K mg w.G w.ι vs ds
def OkV (K : PySem.W.Frag) (mg : MG) (W : WB) (w : Ws) (Q : VK) : R → Prop
  | .ok d ρ st => ∀ (w' : Ws) (v : V), w'.ρ = ρ → w'.st = st → w'.σ = w.σ → Aft K mg w w' → RepV K mg w' v d → Q v w'.H
  | .exc c ρ st => ∀ (w' : Ws) (cls : Value) (dx : Option Addr), w'.ρ = ρ → w'.st = st → w'.σ = w.σ → Aft K mg w w' → ExcAt K mg w' c cls dx → W cls dx w'.σ w'.H
  | .bad => False
def RefV (K : PySem.W.Frag) (mg : MG) (W : WB) (t : TE) (f : DEx) : Prop :=
  ∀ (w : Ws) (Q : VK), Sts K mg w → OkV K mg W w Q (f w.ρ w.st) → t w.σ w.H Q
def DV (X : Cx) (W : WB) (e : Expr) (f : DEx) : Prop := ∃ t, PE X e t ∧ RefV X.K (MGx X W.b) W t f
abbrev DPx := En → Store → Option D
@[simp] def pureE (p : DPx) (ρ : En) (st : Store) : R := match p ρ st with
  | some d => .ok d ρ st
  | none => .bad
def RefP (K : PySem.W.Frag) (mg : MG) (t : TE) (p : DPx) : Prop :=
  ∀ (w : Ws) (Q : VK) (d : D), Sts K mg w → p w.ρ w.st = some d → (∀ v, Rep K mg w.G w.ι v d → Q v w.H) → t w.σ w.H Q
def RefPv (K : PySem.W.Frag) (mg : MG) (t : TE) (p : DPx) : Prop :=
  ∀ (w : Ws) (Q : VK) (d : D), Sts K mg w → p w.ρ w.st = some d → (∀ v, RepV K mg w v d → Q v w.H) → t w.σ w.H Q
def DP (X : Cx) (e : Expr) (p : DPx) : Prop := ∃ t, PE X e t ∧ ∀ b, RefP X.K (MGx X b) t p
def DPv (X : Cx) (e : Expr) (p : DPx) : Prop := ∃ t, PE X e t ∧ ∀ b, RefPv X.K (MGx X b) t p
section
variable {K : PySem.W.Frag} {mg : MG} {W : WB} {X : Cx} {ee : Expr} {f : DEx} {p : DPx}
theorem RefE.v {t : TE} (h : RefE K mg W t f) : RefV K mg W t f := fun w Q s q => h w Q s (by
  cases r : f w.ρ w.st with
  | ok d ρ st => rw [r] at q; exact fun w' v h1 h2 h3 h4 h5 => q w' v h1 h2 h3 h4 (.inl h5)
  | exc c ρ st => rw [r] at q; exact q
  | bad => rw [r] at q; exact q)
theorem DE.v (h : DE X W ee f) : DV X W ee f := let ⟨t, p, r⟩ := h; ⟨t, p, r.v⟩
theorem DP.e (h : DP X ee p) : DE X W ee (pureE p) := by
  obtain ⟨t, pt, r⟩ := h
  refine ⟨t, pt, fun w Q s q => ?_⟩
  unfold pureE at q
  split at q
  · rename_i d hd
    exact r _ w Q d s hd fun v rv => q w v rfl rfl rfl (Aft.refl s) rv
  · exact q.elim
theorem DPv.v (h : DPv X ee p) : DV X W ee (pureE p) := by
  obtain ⟨t, pt, r⟩ := h
  refine ⟨t, pt, fun w Q s q => ?_⟩
  unfold pureE at q
  split at q
  · rename_i d hd
    exact r _ w Q d s hd fun v rv => q w v rfl rfl rfl (Aft.refl s) rv
  · exact q.elim
theorem DP.pv (h : DP X ee p) : DPv X ee p := let ⟨t, pt, r⟩ := h; ⟨t, pt, fun b w Q d s hd k => r b w Q d s hd fun v rv => k v (.inl rv)⟩
theorem RepV.h {w : Ws} {v : V} {d : D} (s : Sts K mg w) (h : RepV K mg w v d) : Rep K mg w.H w.ι v d := by
  rcases h with h | ⟨a, vs, ds, rfl, rfl, h1, h2, h3⟩ | ⟨a, vs, ds, rfl, rfl, h1, h3⟩
  · exact h.mono s.sub (LeI.refl _)
  · exact .lst h1 h2 (h3.mono s.sub (LeI.refl _))
  · exact .dct (.inl h1) (h3.mono s.sub (LeI.refl _))
theorem RepV.int_inv {w : Ws} {v : V} {i : Int} (h : RepV K mg w v (.int i)) : v = .int i := by
  rcases h with h | ⟨a, vs, ds, _, e, _⟩ | ⟨a, vs, ds, _, e, _⟩
  · cases h; rfl
  · cases e
  · cases e
theorem RepV.str_inv {w : Ws} {v : V} {i : Str} (h : RepV K mg w v (.str i)) : v = .str i := by
  rcases h with h | ⟨a, vs, ds, _, e, _⟩ | ⟨a, vs, ds, _, e, _⟩
  · cases h; rfl
  · cases e
  · cases e
theorem RepV.bl_inv {w : Ws} {v : V} {i : Bool} (h : RepV K mg w v (.bl i)) : v = .bl i := by
  rcases h with h | ⟨a, vs, ds, _, e, _⟩ | ⟨a, vs, ds, _, e, _⟩
  · cases h; rfl
  · cases e
  · cases e
theorem RepV.lst_inv {w : Ws} {v : V} {ds : List D} (s : Sts K mg w) (h : RepV K mg w v (.lst ds)) : ∃ a vs, v = .ref a ∧ w.H a = some (.lst vs) ∧ vs.length ≤ sizeLine ∧ Reps K mg w.G w.ι vs ds := by
  rcases h with h | ⟨a, vs, ds, rfl, e, h1, h2, h3⟩ | ⟨a, vs, ds, _, e, _⟩
  · cases h with
    | lst h l r => exact ⟨_, _, rfl, s.sub _ _ h, l, r⟩
  · cases e; exact ⟨a, vs, rfl, h1, h2, h3⟩
  · cases e
theorem RepV.lsk_inv {w : Ws} {v : V} {ds : List D} (s : Sts K mg w) (h : RepV K mg w v (.lsk ds)) : ∃ a vs, v = .ref a ∧ SqL K w.H a vs ∧ vs.length ≤ sizeLine ∧ Reps K mg w.G w.ι vs ds := by
  rcases h with h | ⟨a, vs, ds, rfl, e, h1, h2, h3⟩ | ⟨a, vs, ds, _, e, _⟩
  · cases h with
    | lsk h l r => exact ⟨_, _, rfl, SqL.mono s.sub h, l, r⟩
  · cases e
  · cases e
theorem RepV.tup_inv {w : Ws} {v : V} {ds : List D} (s : Sts K mg w) (h : RepV K mg w v (.tup ds)) : ∃ a vs, v = .ref a ∧ SqT K w.H a vs ∧ vs.length ≤ sizeLine ∧ Reps K mg w.G w.ι vs ds := by
  rcases h with h | ⟨a, vs, ds, rfl, e, h1, h2, h3⟩ | ⟨a, vs, ds, _, e, _⟩
  · cases h with
    | tup h l r => exact ⟨_, _, rfl, SqT.mono s.sub h, l, r⟩
  · cases e
  · cases e
end
section
variable {K : PySem.W.Frag} {mg : MG} {W : WB} {G : Hp} {ι : List Addr}
theorem RefE.bind {t : TE} {f : DEx} (h : RefE K mg W t f) {w : Ws} {Q1 : VK} {r : D → En → Store → R} (s : Sts K mg w) {P : R → Prop}
    (hP : P ((f w.ρ w.st).bind r))
    (hx : ∀ c ρ st, P (.exc c ρ st) → ∀ (w' : Ws) (cls : Value) (dx : Option Addr), w'.ρ = ρ → w'.st = st → w'.σ = w.σ → Aft K mg w w' → ExcAt K mg w' c cls dx → W cls dx w'.σ w'.H)
    (hb : P .bad → False)
    (k : ∀ (w1 : Ws) (v : V) (d : D), w1.σ = w.σ → Aft K mg w w1 → Rep K mg w1.G w1.ι v d → P (r d w1.ρ w1.st) → Q1 v w1.H) : t w.σ w.H Q1 := by
  refine h w Q1 s ?_
  cases e : f w.ρ w.st with
  | ok d ρ st =>
    rw [e] at hP
    intro w' v h1 h2 h3 h4 h5
    subst h1; subst h2
    exact k w' v d h3 h4 h5 hP
  | exc c ρ st =>
    rw [e] at hP
    exact hx c ρ st hP
  | bad => rw [e] at hP; exact (hb hP).elim
theorem RefE.bindR {t : TE} {f : DEx} (h : RefE K mg W t f) {w : Ws} {Q Q1 : VK} {r : D → En → Store → R} (s : Sts K mg w) (hP : OkR K mg W w Q ((f w.ρ w.st).bind r))
    (k : ∀ (w1 : Ws) (v : V) (d : D), Sts K mg w1 → w1.σ = w.σ → Aft K mg w w1 → Rep K mg w1.G w1.ι v d → OkR K mg W w1 Q (r d w1.ρ w1.st) → Q1 v w1.H) : t w.σ w.H Q1 :=
  h.bind (P := OkR K mg W w Q) s hP (fun _ _ _ q => q) (fun q => q) fun w1 v d e a rp q => k w1 v d a.s e a rp (q.aft a e)
theorem OkV.aft {Q : VK} {w w1 : Ws} {r : R} (h : OkV K mg W w Q r) (a : Aft K mg w w1) (e : w1.σ = w.σ) : OkV K mg W w1 Q r := by
  cases r with
  | ok d ρ st => exact fun w' v h1 h2 h3 h4 h5 => h w' v h1 h2 (h3.trans e) (a.trans h4) h5
  | exc c ρ st => exact fun w' cls dx h1 h2 h3 h4 h5 => h w' cls dx h1 h2 (h3.trans e) (a.trans h4) h5
  | bad => exact h
theorem RefV.bind {t : TE} {f : DEx} (h : RefV K mg W t f) {w : Ws} {Q1 : VK} {r : D → En → Store → R} (s : Sts K mg w) {P : R → Prop}
    (hP : P ((f w.ρ w.st).bind r))
    (hx : ∀ c ρ st, P (.exc c ρ st) → ∀ (w' : Ws) (cls : Value) (dx : Option Addr), w'.ρ = ρ → w'.st = st → w'.σ = w.σ → Aft K mg w w' → ExcAt K mg w' c cls dx → W cls dx w'.σ w'.H)
    (hb : P .bad → False)
    (k : ∀ (w1 : Ws) (v : V) (d : D), w1.σ = w.σ → Aft K mg w w1 → RepV K mg w1 v d → P (r d w1.ρ w1.st) → Q1 v w1.H) : t w.σ w.H Q1 := by
  refine h w Q1 s ?_
  cases e : f w.ρ w.st with
  | ok d ρ st =>
    rw [e] at hP
    intro w' v h1 h2 h3 h4 h5
    subst h1; subst h2
    exact k w' v d h3 h4 h5 hP
  | exc c ρ st =>
    rw [e] at hP
    exact hx c ρ st hP
  | bad => rw [e] at hP; exact (hb hP).elim
theorem RefV.bindR {t : TE} {f : DEx} (h : RefV K mg W t f) {w : Ws} {Q Q1 : VK} {r : D → En → Store → R} (s : Sts K mg w) (hP : OkR K mg W w Q ((f w.ρ w.st).bind r))
    (k : ∀ (w1 : Ws) (v : V) (d : D), Sts K mg w1 → w1.σ = w.σ → Aft K mg w w1 → RepV K mg w1 v d → OkR K mg W w1 Q (r d w1.ρ w1.st) → Q1 v w1.H) : t w.σ w.H Q1 :=
  h.bind (P := OkR K mg W w Q) s hP (fun _ _ _ q => q) (fun q => q) fun w1 v d e a rp q => k w1 v d a.s e a rp (q.aft a e)
def seen (st : Store) : Sl → Option D
  | .no => none
  | .ml ds => some (.lst ds)
  | .val (.ref l) => match st[l]? with
    | some (.lst ds) => some (.lst ds)
    | some (.dct ds) => some (.dct ds)
    | _ => none
  | .val d => some d
  | .fn => none
  | .exv _ _ => none
section
variable (st : Store)
@[simp] theorem seen_no : seen st .no = none := rfl
@[simp] theorem seen_ml (ds : List D) : seen st (.ml ds) = some (.lst ds) := rfl
@[simp] theorem seen_non : seen st (.val .non) = some .non := rfl
@[simp] theorem seen_bl (b : Bool) : seen st (.val (.bl b)) = some (.bl b) := rfl
@[simp] theorem seen_int (b : Int) : seen st (.val (.int b)) = some (.int b) := rfl
@[simp] theorem seen_str (b : Str) : seen st (.val (.str b)) = some (.str b) := rfl
@[simp] theorem seen_tup (b : List D) : seen st (.val (.tup b)) = some (.tup b) := rfl
@[simp] theorem seen_lst (b : List D) : seen st (.val (.lst b)) = some (.lst b) := rfl
@[simp] theorem seen_lsk (b : List D) : seen st (.val (.lsk b)) = some (.lsk b) := rfl
@[simp] theorem seen_dlk (b : List (Key × D)) : seen st (.val (.dlk b)) = some (.dlk b) := rfl
@[simp] theorem seen_dct (b : List (Key × D)) : seen st (.val (.dct b)) = some (.dct b) := rfl
@[simp] theorem seen_ins (c : Str) (b : List (Str × D)) : seen st (.val (.ins c b)) = some (.ins c b) := rfl
@[simp] theorem seen_ref (l : Nat) : seen st (.val (.ref l)) = match st[l]? with
    | some (.lst ds) => some (.lst ds)
    | some (.dct ds) => some (.dct ds)
    | _ => none := rfl
end
@[simp] def pvr (i : Nat) (ρ : En) (st : Store) : Option D := match ρ[i]? with
  | some (.val d) => some d
  | _ => none
@[simp] def pvw (i : Nat) (ρ : En) (st : Store) : Option D := match ρ[i]? with
  | some s => seen st s
  | _ => none
@[simp] def pcst (d : D) (ρ : En) (st : Store) : Option D := some d
theorem refP_var (i : Nat) : RefP K mg (tVar i) (pvr i) := fun w Q d s h k => by
  unfold pvr at h
  split at h
  · rename_i d' e
    cases h
    obtain ⟨v, e2, r⟩ := s.slo i _ e
    exact ⟨v, e2, k v r⟩
  · cases h
theorem refPv_var (i : Nat) : RefPv K mg (tVar i) (pvw i) := fun w Q d s h k => by
  unfold pvw at h
  split at h
  · rename_i sl e
    have sl' := s.slo i _ e
    unfold seen at h
    split at h
    · cases h
    · cases h
      obtain ⟨a, vs, e1, e2, e3, e4, e5⟩ := sl'
      exact ⟨_, e1, k _ (.inr (.inl ⟨a, vs, _, rfl, rfl, e3, e4, e5⟩))⟩
    · rename_i l
      obtain ⟨v, e2, r⟩ := sl'
      cases r with
      | ref hl =>
        rename_i a
        split at h
        · rename_i ds hs
          cases h
          obtain ⟨_, vs, e3, e4, e5⟩ := s.cel l _ a hs hl
          exact ⟨_, e2, k _ (.inr (.inl ⟨a, vs, _, rfl, rfl, e3, e4, e5⟩))⟩
        · rename_i ds hs
          cases h
          obtain ⟨_, vs, e3, e5⟩ := s.cel l _ a hs hl
          exact ⟨_, e2, k _ (.inr (.inr ⟨a, vs, _, rfl, rfl, e3, e5⟩))⟩
        · cases h
    · cases h
      obtain ⟨v, e2, r⟩ := sl'
      exact ⟨v, e2, k v (.inl r)⟩
    · cases h
    · cases h
  · cases h
theorem refP_cst {v : V} {d : D} (r : ∀ G ι, Rep K mg G ι v d) : RefP K mg (tC v) (pcst d) := fun w Q e s h k => by
  cases h; exact k v (r _ _)
@[simp] def vr (i : Nat) (ρ : En) (st : Store) : R := match ρ[i]? with
  | some (.val d) => .ok d ρ st
  | _ => .bad
@[simp] def cst (d : D) (ρ : En) (st : Store) : R := .ok d ρ st
theorem ref_var (i : Nat) : RefE K mg W (tVar i) (vr i) := fun w Q s h => by
  unfold vr at h
  split at h
  · rename_i d e
    obtain ⟨v, e2, r⟩ := s.slo i _ e
    exact ⟨v, e2, h w v rfl rfl rfl (Aft.refl s) r⟩
  · exact h.elim
theorem ref_cst {v : V} {d : D} (r : ∀ G ι, Rep K mg G ι v d) : RefE K mg W (tC v) (cst d) := fun w Q s h =>
  h w v rfl rfl rfl (Aft.refl s) (r _ _)
end
section
variable {X : Cx} {W : WB} {a b c : Expr} {f g : DEx} {pos : Pos}
theorem de_vr (i : Nat) {x : Str} (hN : X.N[i]? = some x := by rfl) (hv : Vis X.env.scope x := by first | exact Or.inl rfl | exact Or.inr (Or.inl rfl) | exact Or.inr (Or.inr rfl)) (hd : (x == ("__debug__" : Str)) = false := by decide)
    (hcd : (x == ("__classdict__" : Str)) = false := by decide) : DE X W (.Name x pos) (vr i) := ⟨_, pv i hN hv hd hcd, ref_var i⟩
theorem dp_vr (i : Nat) {x : Str} (hN : X.N[i]? = some x := by rfl) (hv : Vis X.env.scope x := by first | exact Or.inl rfl | exact Or.inr (Or.inl rfl) | exact Or.inr (Or.inr rfl)) (hd : (x == ("__debug__" : Str)) = false := by decide)
    (hcd : (x == ("__classdict__" : Str)) = false := by decide) : DP X (.Name x pos) (pvr i) := ⟨_, pv i hN hv hd hcd, fun _ => refP_var i⟩
theorem dp_vw (i : Nat) {x : Str} (hN : X.N[i]? = some x := by rfl) (hv : Vis X.env.scope x := by first | exact Or.inl rfl | exact Or.inr (Or.inl rfl) | exact Or.inr (Or.inr rfl)) (hd : (x == ("__debug__" : Str)) = false := by decide)
    (hcd : (x == ("__classdict__" : Str)) = false := by decide) : DPv X (.Name x pos) (pvw i) := ⟨_, pv i hN hv hd hcd, fun _ => refPv_var i⟩
theorem dp_int {i : Int} {j : Nat} : DP X (.Constant (.int i) j pos) (pcst (.int i)) := ⟨_, pe_int, fun _ => refP_cst fun _ _ => .int i⟩
theorem de_int {i : Int} {j : Nat} : DE X W (.Constant (.int i) j pos) (cst (.int i)) := ⟨_, pe_int, ref_cst fun _ _ => .int i⟩
theorem de_bl {i : Bool} {j : Nat} : DE X W (.Constant (.bool i) j pos) (cst (.bl i)) := ⟨_, pe_bl, ref_cst fun _ _ => .bl i⟩
theorem de_non {j : Nat} : DE X W (.Constant .none j pos) (cst .non) := ⟨_, pe_non, ref_cst fun _ _ => .non⟩
theorem de_str {i : Str} {j : Nat} : DE X W (.Constant (.str i) j pos) (cst (.str i)) := ⟨_, pe_str, ref_cst fun _ _ => .str i⟩
theorem de_gint {x : Str} {i : Int} {t : Tok} (hg : Gl X x) (hm : X.mg x = some (.int i t)) (hdb : (x == ("__debug__" : Str)) = false := by decide) : DE X W (.Name x pos) (cst (.int i)) := ⟨_, pe_glob (v := .int i) hg hm ⟨_, rfl⟩ hdb, ref_cst fun _ _ => .int i⟩
theorem de_gstr {x : Str} {i : Str} {t : Tok} (hg : Gl X x) (hm : X.mg x = some (.str i t)) (hdb : (x == ("__debug__" : Str)) = false := by decide) : DE X W (.Name x pos) (cst (.str i)) := ⟨_, pe_glob (v := .str i) hg hm ⟨_, rfl⟩ hdb, ref_cst fun _ _ => .str i⟩
end
@[simp] def lift2 (p : D → D → Option D) (f g : DEx) (ρ : En) (st : Store) : R := (f ρ st).bind fun d ρ st => (g ρ st).bind fun e ρ st => match p d e with
  | some z => .ok z ρ st
  | none => .bad
@[simp] def lift1 (p : D → Option D) (f : DEx) (ρ : En) (st : Store) : R := (f ρ st).bind fun d ρ st => match p d with
  | some z => .ok z ρ st
  | none => .bad
def Ans2 (K : PySem.W.Frag) (mg : MG) (r : R2) (p : D → D → Option D) : Prop :=
  ∀ (w : Ws) (x y : V) (d e z : D) (Q : VK), Sts K mg w → RepV K mg w x d → RepV K mg w y e → p d e = some z → (∀ v, (∀ G ι, Rep K mg G ι v z) → Q v w.H) → r x y w.H Q
def Ans1 (K : PySem.W.Frag) (mg : MG) (r : V → Hp → VK → Prop) (p : D → Option D) : Prop :=
  ∀ (w : Ws) (x : V) (d z : D) (Q : VK), Sts K mg w → RepV K mg w x d → p d = some z → (∀ v, (∀ G ι, Rep K mg G ι v z) → Q v w.H) → r x w.H Q
section
variable {K : PySem.W.Frag} {mg : MG} {W : WB}
theorem ref_op {r : R2} {p : D → D → Option D} {ta tb : TE} {f g : DEx} (hr : Ans2 K mg r p) (ha : RefE K mg W ta f) (hb : RefV K mg W tb g) : RefE K mg W (tOp r ta tb) (lift2 p f g) := fun w Q s h => by
  refine ha.bindR (Q := Q) s h fun w1 x d s1 e1 a1 r1 h1 => ?_
  show tb w.σ w1.H _
  rw [← e1]
  refine hb.bindR (Q := Q) s1 h1 fun w2 y e s2 e2 a2 r2 h2 => ?_
  cases q : p d e with
  | none => simp only [q] at h2; exact h2.elim
  | some z =>
    simp only [q] at h2
    exact hr w2 x y d e z Q s2 (.inl (r1.mono a2.g a2.i)) r2 q fun v rv => h2 w2 v rfl rfl rfl (Aft.refl s2) (rv _ _)
theorem ref_un {r : V → Hp → VK → Prop} {p : D → Option D} {ta : TE} {f : DEx} (hr : Ans1 K mg r p) (ha : RefV K mg W ta f) : RefE K mg W (tUn r ta) (lift1 p f) := fun w Q s h => by
  refine ha.bindR (Q := Q) s h fun w1 x d s1 e1 a1 r1 h1 => ?_
  cases q : p d with
  | none => simp only [q] at h1; exact h1.elim
  | some z =>
    simp only [q] at h1
    exact hr w1 x d z Q s1 r1 q fun v rv => h1 w1 v rfl rfl rfl (Aft.refl s1) (rv _ _)
theorem Ans2.or {r r' : R2} {p : D → D → Option D} (h : ∀ d e z, p d e = some z → ∃ (q : D → D → Option D), q d e = some z ∧ (Ans2 K mg r q ∨ Ans2 K mg r' q)) : Ans2 K mg (fun x y H Q => r x y H Q ∨ r' x y H Q) p := fun w x y d e z Q s rx ry q k => by
  obtain ⟨q', h1, h2⟩ := h d e z q
  rcases h2 with h2 | h2
  · exact .inl (h2 w x y d e z Q s rx ry h1 k)
  · exact .inr (h2 w x y d e z Q s rx ry h1 k)
end
theorem opR_or {X : Cx} {f : Value → Value → Sem Value} {r r' : R2} (h : OpR X f r) (h' : OpR X f r') : OpR X f (fun x y H Q => r x y H Q ∨ r' x y H Q) := fun pins s σ H x y v u Q I rx ry q => by
  rcases q with q | q
  · exact h pins s σ H x y v u Q I rx ry q
  · exact h' pins s σ H x y v u Q I rx ry q
@[simp] def iop (C : Int → Int → Prop) [∀ i j, Decidable (C i j)] (h : Int → Int → Int) : D → D → Option D
  | .int i, .int j => if C i j then some (.int (h i j)) else none
  | _, _ => none
@[simp] def iop0 (h : Int → Int → Int) : D → D → Option D
  | .int i, .int j => some (.int (h i j))
  | _, _ => none
section
variable {K : PySem.W.Frag} {mg : MG}
theorem iop_inv {C : Int → Int → Prop} [∀ i j, Decidable (C i j)] {h : Int → Int → Int} {d e z : D} (q : iop C h d e = some z) : ∃ i j, d = .int i ∧ e = .int j ∧ C i j ∧ z = .int (h i j) := by
  unfold iop at q
  split at q
  · split at q
    · cases q; exact ⟨_, _, rfl, rfl, by assumption, rfl⟩
    · cases q
  · cases q
theorem iop0_inv {h : Int → Int → Int} {d e z : D} (q : iop0 h d e = some z) : ∃ i j, d = .int i ∧ e = .int j ∧ z = .int (h i j) := by
  unfold iop0 at q
  split at q
  · cases q; exact ⟨_, _, rfl, rfl, rfl⟩
  · cases q
theorem ans_iop {C : Int → Int → Prop} [∀ i j, Decidable (C i j)] {h : Int → Int → Int} : Ans2 K mg (rI C fun i j => .int (h i j)) (iop C h) := fun w x y d e z Q s rx ry q k => by
  obtain ⟨i, j, rfl, rfl, hc, rfl⟩ := iop_inv q
  exact ⟨i, j, rx.int_inv, ry.int_inv, hc, k _ (fun _ _ => .int _)⟩
theorem ans_iop0 {h : Int → Int → Int} : Ans2 K mg (rI0 fun i j => .int (h i j)) (iop0 h) := fun w x y d e z Q s rx ry q k => by
  obtain ⟨i, j, rfl, rfl, rfl⟩ := iop0_inv q
  exact ⟨i, j, rx.int_inv, ry.int_inv, k _ (fun _ _ => .int _)⟩
end
instance (i j : Int) : Decidable (CMul i j) := by unfold CMul; infer_instance
instance (i j : Int) : Decidable (CDiv i j) := by unfold CDiv; infer_instance
instance (i j : Int) : Decidable (CPow i j) := by unfold CPow; infer_instance
@[simp] def pNeg : D → Option D
  | .int i => some (.int (-i))
  | _ => none
@[simp] def pSub := iop0 (· - ·)
@[simp] def pDiv := iop CDiv (· / ·)
@[simp] def pMod := iop (fun _ j => 0 < j) (· % ·)
def sAdd : D → D → Option D
  | .str x, .str y => if x.length + y.length ≤ sizeLine then some (.str (x ++ y)) else none
  | _, _ => none
section
variable {X : Cx} {W : WB} {a b c : Expr} {f g : DEx} {pos : Pos}
theorem ans_sadd {K : PySem.W.Frag} {mg : MG} : Ans2 K mg (fun x y H Q => ∃ i j, x = .str i ∧ y = .str j ∧ i.length + j.length ≤ sizeLine ∧ Q (.str (i ++ j)) H) sAdd := fun w x y d e z Q s rx ry q k => by
  unfold sAdd at q
  split at q
  · split at q
    · cases q; exact ⟨_, _, rx.str_inv, ry.str_inv, by assumption, k _ (fun _ _ => .str _)⟩
    · cases q
  · cases q
theorem de_bin {op : Operator} {r : R2} {p : D → D → Option D} (ho : OpR X (binaryOp op) r) (hr : Ans2 X.K (MGx X W.b) r p) (ha : DE X W a f) (hb : DV X W b g) : DE X W (.BinOp a op b pos) (lift2 p f g) := by
  obtain ⟨ta, pa, ra⟩ := ha
  obtain ⟨tb, pb, rb⟩ := hb
  exact ⟨_, pe_op ho pa pb, ref_op hr ra rb⟩
theorem de_sub (ha : DE X W a f) (hb : DE X W b g) : DE X W (.BinOp a .Sub b pos) (lift2 pSub f g) := de_bin op_sub ans_iop0 ha hb.v
theorem de_div (ha : DE X W a f) (hb : DE X W b g) : DE X W (.BinOp a .FloorDiv b pos) (lift2 pDiv f g) := de_bin op_fdiv ans_iop ha hb.v
theorem de_mod (ha : DE X W a f) (hb : DE X W b g) : DE X W (.BinOp a .Mod b pos) (lift2 pMod f g) := de_bin op_mod ans_iop ha hb.v
theorem de_neg (ha : DE X W a f) : DE X W (.UnaryOp .USub a pos) (lift1 pNeg f) := by
  obtain ⟨ta, pa, ra⟩ := ha
  refine ⟨_, pe_un un_neg pa, ref_un (fun w x d z Q s rx q k => ?_) ra.v⟩
  unfold pNeg at q
  split at q
  · cases q; exact ⟨_, rx.int_inv, k _ (fun _ _ => .int _)⟩
  · cases q
theorem de_cmp {op : CmpOp} {r : R2} {p : D → D → Option D} (ho : OpR X (compareOp op) r) (hr : Ans2 X.K (MGx X W.b) r p) (hm : behindInMarks op b = false) (ha : DE X W a f) (hb : DV X W b g) : DE X W (.Compare a [op] [b] pos) (lift2 p f g) := by
  obtain ⟨ta, pa, ra⟩ := ha
  obtain ⟨tb, pb, rb⟩ := hb
  exact ⟨_, pe_cmpR ho pa pb hm, ref_op hr ra rb⟩
end
@[simp] def plift2 (p : D → D → Option D) (f g : DPx) (ρ : En) (st : Store) : Option D := match f ρ st, g ρ st with
  | some d, some e => p d e
  | _, _ => none
@[simp] def plift1 (p : D → Option D) (f : DPx) (ρ : En) (st : Store) : Option D := match f ρ st with
  | some d => p d
  | _ => none
section
variable {K : PySem.W.Frag} {mg : MG}
theorem refP_op {r : R2} {p : D → D → Option D} {ta tb : TE} {f g : DPx} (hr : Ans2 K mg r p) (ha : RefPv K mg ta f) (hb : RefPv K mg tb g) : RefP K mg (tOp r ta tb) (plift2 p f g) := fun w Q z s h k => by
  unfold plift2 at h
  split at h
  · rename_i d e h1 h2
    exact ha w _ d s h1 fun x rx => hb w _ e s h2 fun y ry => hr w x y d e z Q s rx ry h fun v rv => k v (rv _ _)
  · cases h
theorem refP_un {r : V → Hp → VK → Prop} {p : D → Option D} {ta : TE} {f : DPx} (hr : Ans1 K mg r p) (ha : RefPv K mg ta f) : RefP K mg (tUn r ta) (plift1 p f) := fun w Q z s h k => by
  unfold plift1 at h
  split at h
  · rename_i d h1
    exact ha w _ d s h1 fun x rx => hr w x d z Q s rx h fun v rv => k v (rv _ _)
  · cases h
end
section
variable {X : Cx} {a b c : Expr} {f g : DPx} {pos : Pos}
theorem dp_bin {op : Operator} {r : R2} {p : D → D → Option D} (ho : OpR X (binaryOp op) r) (hr : ∀ {bb : Low}, Ans2 X.K (MGx X bb) r p) (ha : DPv X a f) (hb : DPv X b g) : DP X (.BinOp a op b pos) (plift2 p f g) := by
  obtain ⟨ta, pa, ra⟩ := ha
  obtain ⟨tb, pb, rb⟩ := hb
  exact ⟨_, pe_op ho pa pb, fun bb => refP_op hr (ra bb) (rb bb)⟩
theorem dp_sub (ha : DP X a f) (hb : DP X b g) : DP X (.BinOp a .Sub b pos) (plift2 pSub f g) := dp_bin op_sub ans_iop0 ha.pv hb.pv
theorem dp_add (ha : DP X a f) (hb : DP X b g) : DP X (.BinOp a .Add b pos) (plift2 (iop0 (· + ·)) f g) := dp_bin op_add ans_iop0 ha.pv hb.pv
theorem dp_mod (ha : DP X a f) (hb : DP X b g) : DP X (.BinOp a .Mod b pos) (plift2 pMod f g) := dp_bin op_mod ans_iop ha.pv hb.pv
theorem dp_neg (ha : DP X a f) : DP X (.UnaryOp .USub a pos) (plift1 pNeg f) := by
  obtain ⟨ta, pa, ra⟩ := ha.pv
  refine ⟨_, pe_un un_neg pa, fun bb => refP_un (fun w x d z Q s rx q k => ?_) (ra bb)⟩
  unfold pNeg at q
  split at q
  · cases q; exact ⟨_, rx.int_inv, k _ (fun _ _ => .int _)⟩
  · cases q
end
end DL
namespace DL
open PySem L2
mutual
def D.py : D → Option PyData
  | .non => some .none
  | .bl b => some (.bool b)
  | .int i => some (.int i)
  | .str s => some (.str s)
  | .tup ds => (pyAll ds).map .tuple
  | .lst ds => (pyAll ds).map .list
  | _ => none
def pyAll : List D → Option (List PyData)
  | [] => some []
  | d :: ds => match d.py, pyAll ds with
    | some p, some ps => some (p :: ps)
    | _, _ => none
end
section
variable {K : PySem.W.Frag} {mg : MG} {G : Hp} {ι : List Addr}
mutual
theorem Rep.dp : ∀ {v : V} {d : D} {p : PyData}, Rep K mg G ι v d → d.py = some p → Dp K G v p
  | _, _, _, .non, h => by cases h; exact .non
  | _, _, _, .bl b, h => by cases h; exact .bl b
  | _, _, _, .int i, h => by cases h; exact .int i
  | _, _, _, .str x, h => by cases h; exact .str x
  | _, .lst ds, _, .lst hs _ r, h => by
    simp only [D.py, Option.map_eq_some_iff] at h
    obtain ⟨ps, e, rfl⟩ := h
    exact .lst (.inl (.inl hs)) (Reps.dp r e)
  | _, .tup ds, _, .tup hs _ r, h => by
    simp only [D.py, Option.map_eq_some_iff] at h
    obtain ⟨ps, e, rfl⟩ := h
    exact .tup hs (Reps.dp r e)
  | _, _, _, .lsk _ _ _, h => by simp [D.py] at h
  | _, _, _, .dct _ _, h => by simp [D.py] at h
  | _, _, _, .dlk _ _, h => by simp [D.py] at h
  | _, _, _, .ins _ _ _ _, h => by simp [D.py] at h
  | _, _, _, .ref _, h => by simp [D.py] at h
  | _, _, _, .glb _ _, h => by simp [D.py] at h
  | _, _, _, .typ _, h => by simp [D.py] at h
theorem Reps.dp : ∀ {v : List V} {d : List D} {p : List PyData}, Reps K mg G ι v d → pyAll d = some p → DpAll K G v p
  | _, _, _, .nil, h => by simp only [pyAll, Option.some.injEq] at h; subst h; exact .nil
  | _, d :: ds, _, .cons r rs, h => by
    simp only [pyAll] at h
    split at h
    · rename_i p ps e1 e2
      cases h
      exact .cons (Rep.dp r e1) (Reps.dp rs e2)
    · cases h
end
mutual
theorem dp_mono {H H' : Hp} (e : Same H H') : ∀ {v : V} {p : PyData}, Dp K H v p → Dp K H' v p
  | _, _, .non => .non
  | _, _, .bl b => .bl b
  | _, _, .int i => .int i
  | _, _, .str x => .str x
  | _, _, .lst h r => .lst (SqL.mono e h) (dpAll_mono e r)
  | _, _, .tup h r => .tup (SqT.mono e h) (dpAll_mono e r)
theorem dpAll_mono {H H' : Hp} (e : Same H H') : ∀ {v : List V} {p : List PyData}, DpAll K H v p → DpAll K H' v p
  | _, _, .nil => .nil
  | _, _, .cons h r => .cons (dp_mono e h) (dpAll_mono e r)
end
end
def pEqB (d e : D) : Option Bool := match d.py, e.py with
  | some p, some q => if SeqAt.shaped p = true ∧ SeqAt.shaped q = true then some (PyData.eqv p q) else none
  | _, _ => none
def pEq (d e : D) : Option D := (pEqB d e).map .bl
def pNe (d e : D) : Option D := (pEqB d e).map fun b => .bl (!b)
theorem pEqB_inv {d e : D} {b : Bool} (h : pEqB d e = some b) : ∃ p q, d.py = some p ∧ e.py = some q ∧ SeqAt.shaped p = true ∧ SeqAt.shaped q = true ∧ b = PyData.eqv p q := by
  unfold pEqB at h
  split at h
  · split at h
    · rename_i p q e1 e2 hh
      cases h
      exact ⟨p, q, e1, e2, hh.1, hh.2, rfl⟩
    · cases h
  · cases h
section
variable {K : PySem.W.Frag} {mg : MG}
theorem ans_eq : Ans2 K mg (rEqD K) pEq := fun w x y d e z Q s rx ry q k => by
  obtain ⟨b, hb, rfl⟩ := Option.map_eq_some_iff.mp q
  obtain ⟨p, p', e1, e2, s1, s2, rfl⟩ := pEqB_inv hb
  exact ⟨p, p', (rx.h s).dp e1, (ry.h s).dp e2, s1, s2, k _ (fun _ _ => .bl _)⟩
theorem ans_ne : Ans2 K mg (rNeD K) pNe := fun w x y d e z Q s rx ry q k => by
  obtain ⟨b, hb, rfl⟩ := Option.map_eq_some_iff.mp q
  obtain ⟨p, p', e1, e2, s1, s2, rfl⟩ := pEqB_inv hb
  exact ⟨p, p', (rx.h s).dp e1, (ry.h s).dp e2, s1, s2, k _ (fun _ _ => .bl _)⟩
end
def pInB : D → D → Option Bool
  | .str x, .str z => match x.cps.toList with
    | [c] => some (decide (c ∈ z.cps.toList))
    | _ => none
  | d, .lst ds => match d.py, pyAll ds with
    | some p, some ps => if SeqAt.shaped p = true ∧ SeqAt.shaped (.list ps) = true then some (ps.any fun z => PyData.eqv z p) else none
    | _, _ => none
  | d, .tup ds => match d.py, pyAll ds with
    | some p, some ps => if SeqAt.shaped p = true ∧ SeqAt.shaped (.list ps) = true then some (ps.any fun z => PyData.eqv z p) else none
    | _, _ => none
  | _, _ => none
def rInT (K : PySem.W.Frag) (n : Bool) : R2 := fun x y H Q => ∃ d ds, Dp K H x d ∧ Dp K H y (.tuple ds) ∧ SeqAt.shaped d = true ∧ SeqAt.shaped (.list ds) = true ∧ Q (.bl (if n then !(ds.any fun z => PyData.eqv z d) else (ds.any fun z => PyData.eqv z d))) H
end DL
namespace DL
open PySem L2
section
variable {X : Cx}
theorem op_inT (hu : X.A.units + 65 < cLine) : OpR X (compareOp .In) (rInT X.K false) := by
  intro pins s σ H x y v u Q I rx ry h
  obtain ⟨d, ds, hd, he, sd, se, q⟩ := h
  obtain ⟨as, r1⟩ := Dp.reads I d x v hd rx
  obtain ⟨bs, r2⟩ := Dp.reads I (.tuple ds) y u he ry
  exact SeqAt.in_tuple_reads r2 r1 (SeqAt.canLay_of_shaped se) (SeqAt.canLay_of_shaped sd) (PyProof.Rows.room_in_shaped sd hu) ⟨.bl _, H, I, rfl, q⟩
theorem op_notInT (hu : X.A.units + 65 < cLine) : OpR X (compareOp .NotIn) (rInT X.K true) := by
  intro pins s σ H x y v u Q I rx ry h
  obtain ⟨d, ds, hd, he, sd, se, q⟩ := h
  obtain ⟨as, r1⟩ := Dp.reads I d x v hd rx
  obtain ⟨bs, r2⟩ := Dp.reads I (.tuple ds) y u he ry
  exact SeqAt.notIn_tuple_reads r2 r1 (SeqAt.canLay_of_shaped se) (SeqAt.canLay_of_shaped sd) (PyProof.Rows.room_in_shaped sd hu) ⟨.bl _, H, I, rfl, q⟩
end
def rInA (K : PySem.W.Frag) (n : Bool) : R2 := fun x y H Q =>
  (∃ (c : Nat) (z : Str), x = .str ⟨#[c]⟩ ∧ y = .str z ∧ Q (.bl (if n then !decide (c ∈ z.cps.toList) else decide (c ∈ z.cps.toList))) H) ∨
  (∃ d ds, Dp K H x d ∧ Dp K H y (.list ds) ∧ SeqAt.shaped d = true ∧ SeqAt.shaped (.list ds) = true ∧ Q (.bl (if n then !(ds.any fun z => PyData.eqv z d) else (ds.any fun z => PyData.eqv z d))) H) ∨
  rInT K n x y H Q
section
variable {X : Cx}
theorem op_inA (hu : X.A.units + 65 < cLine) : OpR X (compareOp .In) (rInA X.K false) := fun pins s σ H x y v u Q I rx ry q => by
  rcases q with q | q | q
  · exact op_in_sign pins s σ H x y v u Q I rx ry q
  · exact op_inD hu pins s σ H x y v u Q I rx ry q
  · exact op_inT hu pins s σ H x y v u Q I rx ry q
theorem op_notInA (hu : X.A.units + 65 < cLine) : OpR X (compareOp .NotIn) (rInA X.K true) := fun pins s σ H x y v u Q I rx ry q => by
  rcases q with q | q | q
  · exact op_notIn_sign pins s σ H x y v u Q I rx ry q
  · exact op_notInD hu pins s σ H x y v u Q I rx ry q
  · exact op_notInT hu pins s σ H x y v u Q I rx ry q
end
theorem str_of_one {x : Str} {c : Nat} (h : x.cps.toList = [c]) : x = ⟨#[c]⟩ := by
  cases x with
  | mk a =>
    cases a with
    | mk l => simp at h; subst h; rfl
section
variable {K : PySem.W.Frag} {mg : MG}
theorem ans_in (n : Bool) : Ans2 K mg (rInA K n) (fun d e => (pInB d e).map fun b => .bl (if n then !b else b)) := fun w x y d e z Q s rx ry q k => by
  obtain ⟨b, hb, rfl⟩ := Option.map_eq_some_iff.mp q
  unfold pInB at hb
  split at hb
  · split at hb
    · rename_i c hc
      cases hb
      refine .inl ⟨c, _, by rw [rx.str_inv, str_of_one hc], ry.str_inv, k _ fun _ _ => .bl _⟩
    · cases hb
  · split at hb
    · split at hb
      · rename_i p ps e1 e2 hh
        cases hb
        refine .inr (.inl ⟨p, ps, (rx.h s).dp e1, (ry.h s).dp (by simp [D.py, e2]), hh.1, hh.2, k _ fun _ _ => .bl _⟩)
      · cases hb
    · cases hb
  · split at hb
    · split at hb
      · rename_i p ps e1 e2 hh
        cases hb
        refine .inr (.inr ⟨p, ps, (rx.h s).dp e1, (ry.h s).dp (by simp [D.py, e2]), hh.1, hh.2, k _ fun _ _ => .bl _⟩)
      · cases hb
    · cases hb
  · cases hb
def D.isNon : D → Option Bool
  | .non => some true
  | .bl _ | .int _ | .str _ | .tup _ | .lst _ | .lsk _ | .dct _ | .ins _ _ | .ref _ | .dlk _ => some false
  | _ => none
@[simp] theorem isNon_non : D.isNon .non = some true := rfl
@[simp] theorem isNon_bl (b : Bool) : D.isNon (.bl b) = some false := rfl
@[simp] theorem isNon_int (b : Int) : D.isNon (.int b) = some false := rfl
@[simp] theorem isNon_str (b : Str) : D.isNon (.str b) = some false := rfl
@[simp] theorem isNon_tup (b : List D) : D.isNon (.tup b) = some false := rfl
@[simp] theorem isNon_lst (b : List D) : D.isNon (.lst b) = some false := rfl
@[simp] theorem isNon_lsk (b : List D) : D.isNon (.lsk b) = some false := rfl
@[simp] theorem isNon_dct (b : List (Key × D)) : D.isNon (.dct b) = some false := rfl
@[simp] theorem isNon_ins (c : Str) (b : List (Str × D)) : D.isNon (.ins c b) = some false := rfl
@[simp] theorem isNon_ref (b : Nat) : D.isNon (.ref b) = some false := rfl
@[simp] theorem isNon_dlk (b : List (Key × D)) : D.isNon (.dlk b) = some false := rfl
theorem RepV.isNon {w : Ws} {v : V} {d : D} {b : Bool} (h : RepV K mg w v d) (q : d.isNon = some b) : decide (v = .non) = b := by
  rcases h with h | ⟨a, vs, ds, rfl, rfl, h1, h2, h3⟩ | ⟨a, vs, ds, rfl, rfl, h1, h3⟩
  · cases h <;> simp [D.isNon] at q <;> subst q <;> simp
  · simp [D.isNon] at q; subst q; simp
  · simp [D.isNon] at q; subst q; simp
@[simp] def pIs (n : Bool) : D → D → Option D
  | d, .non => d.isNon.map fun b => .bl (if n then !b else b)
  | _, _ => none
theorem ans_isN : Ans2 K mg (fun x y H Q => y = .non ∧ Q (.bl (decide (x = .non))) H) (pIs false) := fun w x y d e z Q s rx ry q k => by
  unfold pIs at q
  split at q
  · obtain ⟨b, hb, rfl⟩ := Option.map_eq_some_iff.mp q
    have := rx.isNon hb
    have hy : y = .non := by
      rcases ry with h | ⟨a, vs, ds, _, e, _⟩ | ⟨a, vs, ds, _, e, _⟩
      · exact h.non_inv
      · cases e
      · cases e
    exact ⟨hy, this ▸ k _ fun _ _ => .bl _⟩
  · cases q
theorem ans_notN : Ans2 K mg (fun x y H Q => y = .non ∧ Q (.bl (!decide (x = .non))) H) (pIs true) := fun w x y d e z Q s rx ry q k => by
  unfold pIs at q
  split at q
  · obtain ⟨b, hb, rfl⟩ := Option.map_eq_some_iff.mp q
    have := rx.isNon hb
    have hy : y = .non := by
      rcases ry with h | ⟨a, vs, ds, _, e, _⟩ | ⟨a, vs, ds, _, e, _⟩
      · exact h.non_inv
      · cases e
      · cases e
    refine ⟨hy, ?_⟩
    rw [this]
    exact k _ fun _ _ => .bl _
  · cases q
end
@[simp] def notD (f : DEx) (ρ : En) (st : Store) : R := (f ρ st).bind fun d ρ st => match d with
  | .bl b => .ok (.bl (!b)) ρ st
  | _ => .bad
@[simp] def andD (f g : DEx) (ρ : En) (st : Store) : R := (f ρ st).bind fun d ρ st => match d with
  | .bl true => g ρ st
  | .bl false => .ok (.bl false) ρ st
  | _ => .bad
@[simp] def orD (f g : DEx) (ρ : En) (st : Store) : R := (f ρ st).bind fun d ρ st => match d with
  | .bl true => .ok (.bl true) ρ st
  | .bl false => g ρ st
  | _ => .bad
@[simp] def iteD (c f g : DEx) (ρ : En) (st : Store) : R := (c ρ st).bind fun d ρ st => match d with
  | .bl true => f ρ st
  | .bl false => g ρ st
  | _ => .bad
@[simp] def chainD (p p' : D → D → Option D) (f g h : DEx) (ρ : En) (st : Store) : R := (f ρ st).bind fun d ρ st => (g ρ st).bind fun e ρ st => match p d e with
  | some (.bl true) => (h ρ st).bind fun z ρ st => match p' e z with
    | some y => .ok y ρ st
    | none => .bad
  | some (.bl false) => .ok (.bl false) ρ st
  | _ => .bad
section
variable {K : PySem.W.Frag} {mg : MG} {W : WB}
theorem RefV.test {t : TE} {f : DEx} (h : RefV K mg W t f) : RefT K mg W (fun σ H Q => t σ H fun x H' => ∃ k, x = .bl k ∧ Q k H') f := fun w Q s q => by
  refine h w _ s ?_
  cases r : f w.ρ w.st with
  | ok d ρ st =>
    rw [r] at q
    cases d with
    | bl b => exact fun w' v h1 h2 h3 h4 h5 => ⟨b, h5.bl_inv, q w' h1 h2 h3 h4⟩
    | _ => exact q.elim
  | exc c ρ st => rw [r] at q; exact q
  | bad => rw [r] at q; exact q
theorem RefT.bind {t : TT} {f : DEx} (h : RefT K mg W t f) {w : Ws} {Q1 : Bool → Hp → Prop} {r : D → En → Store → R} (s : Sts K mg w) {P : R → Prop}
    (hP : P ((f w.ρ w.st).bind r)) (hd : ∀ d ρ st, (∀ b, d ≠ .bl b) → r d ρ st = .bad)
    (hx : ∀ c ρ st, P (.exc c ρ st) → ∀ (w' : Ws) (cls : Value) (dx : Option Addr), w'.ρ = ρ → w'.st = st → w'.σ = w.σ → Aft K mg w w' → ExcAt K mg w' c cls dx → W cls dx w'.σ w'.H)
    (hb : P .bad → False)
    (k : ∀ (w1 : Ws) (b : Bool), w1.σ = w.σ → Aft K mg w w1 → P (r (.bl b) w1.ρ w1.st) → Q1 b w1.H) : t w.σ w.H Q1 := by
  refine h w Q1 s ?_
  cases e : f w.ρ w.st with
  | ok d ρ st =>
    rw [e] at hP
    cases d with
    | bl b =>
      intro w' h1 h2 h3 h4
      subst h1; subst h2
      exact k w' b h3 h4 hP
    | _ =>
      refine (hb ?_).elim
      simp only [R.bind] at hP
      rw [hd _ ρ st (by intro b q; cases q)] at hP
      exact hP
  | exc c ρ st =>
    rw [e] at hP
    exact hx c ρ st hP
  | bad => rw [e] at hP; exact (hb hP).elim
theorem refT_not {t : TT} {f : DEx} (h : RefT K mg W t f) : RefT K mg W (tNot t) (notD f) := fun w Q s q => by
  refine h.bind (P := OkT K mg W w Q) s q (fun d ρ st n => by cases d <;> first | rfl | exact absurd rfl (n _)) (fun _ _ _ z => z) (fun z => z) fun w1 b e a z => ?_
  exact z w1 rfl rfl e a
theorem refT_and {t u : TT} {f g : DEx} (h : RefT K mg W t f) (h' : RefT K mg W u g) : RefT K mg W (tAnd t u) (andD f g) := fun w Q s q => by
  refine h.bind (P := OkT K mg W w Q) s q (fun d ρ st n => by cases d <;> first | rfl | exact absurd rfl (n _)) (fun _ _ _ z => z) (fun z => z) fun w1 b e a z => ?_
  cases b with
  | true =>
    refine iteT ?_
    rw [← e]
    exact h' w1 Q a.s (OkT.aft z a e)
  | false => exact iteF (z w1 rfl rfl e a)
theorem refT_or {t u : TT} {f g : DEx} (h : RefT K mg W t f) (h' : RefT K mg W u g) : RefT K mg W (tOr t u) (orD f g) := fun w Q s q => by
  refine h.bind (P := OkT K mg W w Q) s q (fun d ρ st n => by cases d <;> first | rfl | exact absurd rfl (n _)) (fun _ _ _ z => z) (fun z => z) fun w1 b e a z => ?_
  cases b with
  | false =>
    refine iteF ?_
    rw [← e]
    exact h' w1 Q a.s (OkT.aft z a e)
  | true => exact iteT (z w1 rfl rfl e a)
theorem refE_if {c : TT} {ta tb : TE} {h f g : DEx} (hc : RefT K mg W c h) (ha : RefE K mg W ta f) (hb : RefE K mg W tb g) : RefE K mg W (tIf c ta tb) (iteD h f g) := fun w Q s q => by
  refine hc.bind (P := OkR K mg W w Q) s q (fun d ρ st n => by cases d <;> first | rfl | exact absurd rfl (n _)) (fun _ _ _ z => z) (fun z => z) fun w1 b e a z => ?_
  cases b with
  | true =>
    refine iteT ?_
    rw [← e]
    exact ha w1 Q a.s (OkR.aft z a e)
  | false =>
    refine iteF ?_
    rw [← e]
    exact hb w1 Q a.s (OkR.aft z a e)
theorem refE_and {ta tb : TE} {f g : DEx} (ha : RefE K mg W ta f) (hb : RefE K mg W tb g) : RefE K mg W (tAndV ta tb) (andD f g) := fun w Q s q => by
  refine ha.bindR (Q := Q) s q fun w1 v d s1 e a r z => ?_
  cases d with
  | bl b =>
    refine ⟨b, r.bl_inv, ?_⟩
    cases b with
    | true => exact iteT (e ▸ hb w1 Q s1 z)
    | false => exact iteF (z w1 _ rfl rfl rfl (Aft.refl s1) (.bl _))
  | _ => exact z.elim
theorem refE_not {ta : TE} {f : DEx} (ha : RefE K mg W ta f) : RefE K mg W (tNotV ta) (notD f) := fun w Q s q => by
  refine ha.bindR (Q := Q) s q fun w1 v d s1 e a r z => ?_
  cases d with
  | bl b => exact ⟨b, r.bl_inv, z w1 _ rfl rfl rfl (Aft.refl s1) (.bl _)⟩
  | _ => exact z.elim
theorem refE_chain {r r' : R2} {p p' : D → D → Option D} {ta tb tc : TE} {f g h : DEx} (hr : Ans2 K mg r p) (hr' : Ans2 K mg r' p') (ha : RefE K mg W ta f) (hb : RefE K mg W tb g) (hc : RefV K mg W tc h) :
    RefE K mg W (tChain r r' ta tb tc) (chainD p p' f g h) := fun w Q s q => by
  refine ha.bindR (Q := Q) s q fun w1 x d s1 e1 a1 r1 q1 => ?_
  show tb w.σ w1.H _
  rw [← e1]
  refine hb.bindR (Q := Q) s1 q1 fun w2 y e s2 e2 a2 r2 q2 => ?_
  cases z : p d e with
  | none => simp only [z] at q2; exact q2.elim
  | some z0 =>
    simp only [z] at q2
    refine hr w2 x y d e z0 _ s2 (.inl (r1.mono a2.g a2.i)) (.inl r2) z fun v rv => ?_
    cases z0 with
    | bl b =>
      refine ⟨b, (rv w2.G w2.ι).bl_inv, ?_⟩
      cases b with
      | true =>
        refine iteT ?_
        rw [← e2]
        refine hc.bindR (Q := Q) s2 q2 fun w3 u e' s3 e3 a3 r3 q3 => ?_
        cases z' : p' e e' with
        | none => simp only [z'] at q3; exact q3.elim
        | some z1 =>
          simp only [z'] at q3
          exact hr' w3 y u e e' z1 Q s3 (.inl (r2.mono a3.g a3.i)) r3 z' fun v rv => q3 w3 v rfl rfl rfl (Aft.refl s3) (rv _ _)
      | false => exact iteF (q2 w2 _ rfl rfl rfl (Aft.refl s2) (.bl _))
    | _ => exact q2.elim
end
def DW (X : Cx) (W : WB) (e : Expr) (f : DEx) : Prop := ∃ t, PW X e t ∧ RefT X.K (MGx X W.b) W t f
section
variable {X : Cx} {W : WB} {a b c : Expr} {f g h : DEx} {pos : Pos} {rest : List Expr}
theorem dt_cmp {op : CmpOp} {r : R2} {p : D → D → Option D} (ho : OpR X (compareOp op) r) (hr : Ans2 X.K (MGx X W.b) r p) (hm : behindInMarks op b = false) (ha : DE X W a f) (hb : DV X W b g) : DT X W (.Compare a [op] [b] pos) (lift2 p f g) := by
  obtain ⟨ta, pa, ra⟩ := ha
  obtain ⟨tb, pb, rb⟩ := hb
  exact ⟨_, pt_cmpR ho pa pb hm, (ref_op hr ra rb).v.test⟩
theorem dt_val (ha : DE X W a f) (he : ∀ whole, isTrue a X.env whole = (do let v ← whole; standAt a.pos; holding [v] (truthy v)) := by intro _; rfl) : DT X W a f := by
  obtain ⟨ta, pa, ra⟩ := ha
  exact ⟨_, pt_val pa he, ra.v.test⟩
theorem dt_not (ha : DT X W a f) : DT X W (.UnaryOp .Not a pos) (notD f) := by
  obtain ⟨ta, pa, ra⟩ := ha
  exact ⟨_, pt_not pa, refT_not ra⟩
theorem dw_and1 (ha : DT X W a f) : DW X W (.BoolOp .And [a] pos) f := let ⟨_, p, r⟩ := ha; ⟨_, pw_and1 p, r⟩
theorem dw_or1 (ha : DT X W a f) : DW X W (.BoolOp .Or [a] pos) f := let ⟨_, p, r⟩ := ha; ⟨_, pw_or1 p, r⟩
theorem dw_and (ha : DT X W a f) (hb : DW X W (.BoolOp .And (b :: rest) pos) g) : DW X W (.BoolOp .And (a :: b :: rest) pos) (andD f g) := let ⟨_, p, r⟩ := ha; let ⟨_, p', r'⟩ := hb; ⟨_, pw_and p p', refT_and r r'⟩
theorem dw_or (ha : DT X W a f) (hb : DW X W (.BoolOp .Or (b :: rest) pos) g) : DW X W (.BoolOp .Or (a :: b :: rest) pos) (orD f g) := let ⟨_, p, r⟩ := ha; let ⟨_, p', r'⟩ := hb; ⟨_, pw_or p p', refT_or r r'⟩
theorem DW.t (h : DW X W a f) : DT X W a f := let ⟨_, p, r⟩ := h; ⟨_, p.pt, r⟩
theorem de_and (ha : DE X W a f) (hb : DE X W (.BoolOp .And (b :: rest) pos) g) : DE X W (.BoolOp .And (a :: b :: rest) pos) (andD f g) := let ⟨_, p, r⟩ := ha; let ⟨_, p', r'⟩ := hb; ⟨_, pe_and p p', refE_and r r'⟩
theorem de_one {op : BoolOp} (ha : DE X W a f) : DE X W (.BoolOp op [a] pos) f := let ⟨_, p, r⟩ := ha; ⟨_, pe_one p, r⟩
theorem de_not (ha : DE X W a f) : DE X W (.UnaryOp .Not a pos) (notD f) := let ⟨_, p, r⟩ := ha; ⟨_, pe_not p, refE_not r⟩
theorem de_if (hc : DT X W c h) (ha : DE X W a f) (hb : DE X W b g) : DE X W (.IfExp c a b pos) (iteD h f g) := let ⟨_, p, r⟩ := hc; let ⟨_, p1, r1⟩ := ha; let ⟨_, p2, r2⟩ := hb; ⟨_, pe_ifExp p p1 p2, refE_if r r1 r2⟩
theorem de_chain {op op' : CmpOp} {r r' : R2} {p p' : D → D → Option D} (ho : OpR X (compareOp op) r) (hr : Ans2 X.K (MGx X W.b) r p) (ho' : OpR X (compareOp op') r') (hr' : Ans2 X.K (MGx X W.b) r' p') (ha : DE X W a f) (hb : DE X W b g) (hc : DV X W c h)
    (hm : lastMarks [op, op'] [b, c] = false := by with_unfolding_all rfl) : DE X W (.Compare a [op, op'] [b, c] pos) (chainD p p' f g h) := let ⟨_, p1, r1⟩ := ha; let ⟨_, p2, r2⟩ := hb; let ⟨_, p3, r3⟩ := hc; ⟨_, pe_chain ho ho' p1 p2 p3 hm, refE_chain hr hr' r1 r2 r3⟩
theorem dt_chain {op op' : CmpOp} {r r' : R2} {p p' : D → D → Option D} (ho : OpR X (compareOp op) r) (hr : Ans2 X.K (MGx X W.b) r p) (ho' : OpR X (compareOp op') r') (hr' : Ans2 X.K (MGx X W.b) r' p') (ha : DE X W a f) (hb : DE X W b g) (hc : DV X W c h)
    (hm : lastMarks [op, op'] [b, c] = false := by with_unfolding_all rfl) : DT X W (.Compare a [op, op'] [b, c] pos) (chainD p p' f g h) := let ⟨_, p1, r1⟩ := ha; let ⟨_, p2, r2⟩ := hb; let ⟨_, p3, r3⟩ := hc; ⟨_, pt_chain ho ho' p1 p2 p3 hm, (refE_chain hr hr' r1 r2 r3).v.test⟩
end
end DL
namespace DL
open PySem L2
@[simp] def aNil (ρ : En) (st : Store) : R := .ok (.tup []) ρ st
@[simp] def aCons (f g : DEx) (ρ : En) (st : Store) : R := (f ρ st).bind fun d ρ st => (g ρ st).bind fun e ρ st => match e with
  | .tup ds => .ok (.tup (d :: ds)) ρ st
  | _ => .bad
def DAn (X : Cx) (W : WB) (es : List Expr) (f : DEx) : Prop := DA X W es f ∧ ∀ ρ st d ρ' st', f ρ st = .ok d ρ' st' → ∃ ds, d = .tup ds ∧ ds.length = es.length
section
variable {K : PySem.W.Frag} {mg : MG} {W : WB}
theorem RefA.bind {t : TA} {f : DEx} (h : RefA K mg W t f) {w : Ws} {Q1 : List V → Hp → Prop} {r : D → En → Store → R} (s : Sts K mg w) {P : R → Prop}
    (hP : P ((f w.ρ w.st).bind r)) (hd : ∀ d ρ st, (∀ b, d ≠ .tup b) → r d ρ st = .bad)
    (hx : ∀ c ρ st, P (.exc c ρ st) → ∀ (w' : Ws) (cls : Value) (dx : Option Addr), w'.ρ = ρ → w'.st = st → w'.σ = w.σ → Aft K mg w w' → ExcAt K mg w' c cls dx → W cls dx w'.σ w'.H)
    (hb : P .bad → False)
    (k : ∀ (w1 : Ws) (vs : List V) (ds : List D), w1.σ = w.σ → Aft K mg w w1 → Reps K mg w1.G w1.ι vs ds → f w.ρ w.st = .ok (.tup ds) w1.ρ w1.st → P (r (.tup ds) w1.ρ w1.st) → Q1 vs w1.H) : t w.σ w.H Q1 := by
  refine h w Q1 s ?_
  cases e : f w.ρ w.st with
  | ok d ρ st =>
    rw [e] at hP
    cases d with
    | tup b =>
      intro w' vs h1 h2 h3 h4 h5
      subst h1; subst h2
      exact k w' vs b h3 h4 h5 e hP
    | _ =>
      refine (hb ?_).elim
      simp only [R.bind] at hP
      rw [hd _ ρ st (by intro b q; cases q)] at hP
      exact hP
  | exc c ρ st =>
    rw [e] at hP
    exact hx c ρ st hP
  | bad => rw [e] at hP; exact (hb hP).elim
theorem refA_nil : RefA K mg W tNil aNil := fun w Q s q => q w [] rfl rfl rfl (Aft.refl s) .nil
theorem refA_cons {te : TE} {t : TA} {f g : DEx} (he : RefE K mg W te f) (ht : RefA K mg W t g) : RefA K mg W (tCons te t) (aCons f g) := fun w Q s q => by
  refine he.bind (P := OkA K mg W w Q) s q (fun _ _ _ z => z) (fun z => z) fun w1 v d e1 a1 r1 q1 => ?_
  show t w.σ w1.H _
  rw [← e1]
  refine ht.bind (P := OkA K mg W w1 Q) a1.s (q1.aft a1 e1) (fun d ρ st n => by cases d <;> first | rfl | exact absurd rfl (n _)) (fun _ _ _ z => z) (fun z => z) fun w2 vs ds e2 a2 r2 _ q2 => ?_
  exact q2 w2 (v :: vs) rfl rfl e2 a2 (.cons (r1.mono a2.g a2.i) r2)
end
section
variable {X : Cx} {W : WB} {e a b : Expr} {es : List Expr} {f g : DEx} {pos : Pos}
theorem da_nil : DAn X W [] aNil := ⟨⟨_, pa_nil, refA_nil⟩, fun ρ st d ρ' st' h => by cases h; exact ⟨[], rfl, rfl⟩⟩
theorem da_cons (he : DE X W e f) (ht : DAn X W es g) (hs : starEach (e :: es) X.env = (false, eval e X.env) :: starEach es X.env := by rfl) : DAn X W (e :: es) (aCons f g) := by
  obtain ⟨te, pe, re⟩ := he
  obtain ⟨⟨t, pt, rt⟩, hl⟩ := ht
  refine ⟨⟨_, pa_cons pe pt hs, refA_cons re rt⟩, fun ρ st d ρ' st' h => ?_⟩
  unfold aCons at h
  cases h1 : f ρ st with
  | ok d1 ρ1 st1 =>
    rw [h1] at h
    simp only [R.bind] at h
    cases h2 : g ρ1 st1 with
    | ok d2 ρ2 st2 =>
      rw [h2] at h
      obtain ⟨ds, rfl, l⟩ := hl _ _ _ _ _ h2
      cases h
      exact ⟨d1 :: ds, rfl, by simp [l]⟩
    | exc c ρ st => rw [h2] at h; cases h
    | bad => rw [h2] at h; cases h
  | exc c ρ st => rw [h1] at h; cases h
  | bad => rw [h1] at h; cases h
theorem de_tup {k : Nat} (ha : DAn X W es f) (hl : es.length ≤ sizeLine := by decide) : DE X W (.Tuple es k pos) f := by
  obtain ⟨⟨t, pt, rt⟩, hn⟩ := ha
  refine ⟨_, pe_tup pt, fun w Q s q => ?_⟩
  refine rt.bind (P := OkR X.K (MGx X W.b) W w Q) (r := fun d ρ st => match d with | .tup ds => .ok (.tup ds) ρ st | _ => .bad) s ?_ ?_ (fun _ _ _ z => z) (fun z => z) fun w1 vs ds e1 a1 r1 e q1 => ?_
  · cases h : f w.ρ w.st with
    | ok d ρ st =>
      obtain ⟨ds, rfl, l⟩ := hn _ _ _ _ _ h
      rw [h] at q; exact q
    | exc c ρ st => rw [h] at q; exact q
    | bad => rw [h] at q; exact q
  · intro d ρ st n; cases d <;> first | rfl | exact absurd rfl (n _)
  · have l : vs.length ≤ sizeLine := by
      obtain ⟨ds', e', l⟩ := hn _ _ _ _ _ e
      cases e'
      rw [r1.len, l]; exact hl
    refine ⟨l, fun p hp => ?_⟩
    have A := Aft.alloc (o := .tup vs) a1.s hp
    exact q1 { w1 with G := upd w1.G p (.tup vs), H := upd w1.H p (.tup vs) } (.ref p) rfl rfl e1 (a1.trans A) (.tup (.inl (.inl upd_same)) l (r1.mono A.g A.i))
end
end DL
namespace DL
open PySem L2
abbrev Den := List D → Store → R
def WEb (b : Low) (E : XK) : WB := ⟨fun cls dx _ H => E cls dx H, b⟩
abbrev WEx (E : XK) : WB := WEb Low.no E
def spD (K : PySem.W.Frag) (mg : Str → Option Value) (n : Nat) (den : Den) : Sp := fun vs H Q E => vs.length = n ∧
  ∃ (w : Ws) (ds : List D), w.ρ = [] ∧ w.σ = [] ∧ w.H = H ∧ Sts K ⟨mg, Low.no⟩ w ∧ Reps K ⟨mg, Low.no⟩ w.G w.ι vs ds ∧ OkR K ⟨mg, Low.no⟩ (WEx E) w Q (den ds w.st)
@[simp] def endR : Fl → R
  | .nx _ st => .ok .non [] st
  | .rt d _ st => .ok d [] st
  | .exc c _ st => .exc c [] st
  | _ => .bad
@[simp] def enter (n : Nat) (ds : List D) : En := ds.map .val ++ List.replicate (n - ds.length) .no
@[simp] def runD (n : Nat) (g : DSx) : Den := fun ds st => endR (g (enter n ds) st)
theorem enter_ml (n : Nat) (ds : List D) (i : Nat) (es : List D) : (enter n ds)[i]? ≠ some (.ml es) := by
  intro h
  have := List.mem_of_getElem? h
  unfold enter at this
  rcases List.mem_append.mp this with h | h
  · obtain ⟨d, _, e⟩ := List.mem_map.mp h; cases e
  · have := List.eq_of_mem_replicate h; cases this
section
variable {K : PySem.W.Frag} {mg : MG}
theorem Sts.enter {w : Ws} {n : Nat} {N : List Str} {vs : List V} {ds : List D} (s : Sts K mg w) (hn : n = N.length) (r : Reps K mg w.G w.ι vs ds) : Sts K mg { w with ρ := enter n ds, σ := start N vs } where
  lowG := s.lowG
  lowI := s.lowI
  sub := s.sub
  ln := by unfold DL.enter L2.start; simp [r.len, hn]
  len := s.len
  cel := s.cel
  inj := s.inj
  slo := fun i x h => by
    show SlotAt K mg { w with ρ := DL.enter n ds, σ := start N vs } (start N vs)[i]? x
    have h' : (DL.enter n ds)[i]? = some x := h
    unfold DL.enter at h'
    by_cases q : i < ds.length
    · rw [List.getElem?_append_left (by simpa using q)] at h'
      rw [List.getElem?_map] at h'
      cases e : ds[i]? with
      | none => rw [e] at h'; cases h'
      | some d =>
        rw [e] at h'
        cases h'
        obtain ⟨v, e1, e2⟩ := r.get e
        refine ⟨v, ?_, e2⟩
        unfold L2.start
        rw [List.getElem?_append_left (by simpa [r.len] using q), List.getElem?_map, e1]
        rfl
    · rw [List.getElem?_append_right (by simpa using q)] at h'
      have := List.eq_of_mem_replicate (List.mem_of_getElem? h')
      subst this; trivial
  sep := fun i l a ⟨es, h, _⟩ _ => absurd h (enter_ml _ _ _ _)
  dis := fun i j a ⟨es, h, _⟩ _ => absurd h (enter_ml _ _ _ _)
theorem ws_strip {w : Ws} (h1 : w.ρ = []) (h2 : w.σ = []) : w.strip = w := by
  cases w; simp at h1 h2; subst h1; subst h2; rfl
end
structure FunV (K : PySem.W.Frag) (x qual : Str) (st : Stmt) (f : Addr) (fd : FuncData) : Prop where
  ex : ∃ (oc : Value) (od : Option Addr) (dV kV doc pm : Value) (an : Option Addr) (cdv ct : Value) (osl : Array (Option Value)), fd = PySem.W.fnOf x qual (defArgs st) (defBody st) (defScope st) dV kV doc pm an cdv ct ∧ K.lookup f = some ⟨oc, od, .func fd, osl⟩ ∧ PySem.W.codeIn K cdv qual = true
theorem funV_of {K : PySem.W.Frag} {x qual : Str} {st : Stmt} {f : Addr} {fd : FuncData} (F : Fun K x qual st f fd) : FunV K x qual st f fd := by
  obtain ⟨oc, od, kV, doc, pm, an, cdv, ct, osl, e, lk, hcd⟩ := F.ex
  exact ⟨oc, od, .none, kV, doc, pm, an, cdv, ct, osl, e, lk, hcd⟩
theorem FunV.okD {P : Program} {w : World} {K : PySem.W.Frag} {mg : Str → Option Value} {base : Heap} {x qual : Str} {st : Stmt} {f : Addr} {fd : FuncData} {N ps : List Str} {k : Nat} {sp : Sp} (F : FunV K x qual st f fd) (S : FnScope N ps (defScope st)) (len : ∀ vs H Q E, sp vs H Q E → vs.length = ps.length)
    (hb : ∀ (cdv : Value) (A : Around) (outer : List Env) (s : Shared) (H : Hp) (vs : List V) (Q : VK) (E : XK), Room k (A.deeper (PyProof.Rows.envOfC qual (defScope st) s.heap.objs.size f cdv)) → sp vs H Q E →
      ∃ t, PSs (cxOf (L2N.CX P w) P w K mg base N qual (defScope st) f cdv A outer s H E) (defBody st) t ∧ t { nx := fun _ H' => Q .non H', rt := Q } (start N vs) H) : FnOk P w K mg base (L2N.CX P w) (k + 1) f fd ps sp := by
  obtain ⟨oc, od, dV, kV, doc, pm, an, cdv, ct, osl, rfl, lk, hcd⟩ := F.ex
  exact fn_of lk hcd S len fun A outer s H vs Q E hr hsp => hb cdv A outer s H vs Q E hr hsp
theorem fn_D {P : Program} {wd : World} {K : PySem.W.Frag} {mg : Str → Option Value} {base : Heap} {x qual : Str} {st : Stmt} {f : Addr} {fd : FuncData} {N ps : List Str} {k n : Nat} {g : DSx} (F : FunV K x qual st f fd) (S : FnScope N ps (defScope st)) (hn : n = N.length)
    (hb : ∀ (cdv : Value) (A : Around) (outer : List Env) (s : Shared) (H : Hp) (E : XK), Room k (A.deeper (PyProof.Rows.envOfC qual (defScope st) s.heap.objs.size f cdv)) →
      DSs (cxOf (L2N.CX P wd) P wd K mg base N qual (defScope st) f cdv A outer s H E) (WEx E) (defBody st) g) : FnOk P wd K mg base (L2N.CX P wd) (k + 1) f fd ps (spD K mg ps.length (runD n g)) := by
  refine F.okD S (fun vs H Q E h => h.1) fun cdv A outer s H vs Q E hr h => ?_
  obtain ⟨hl, w, ds, hρ, hσ, rfl, sts, rp, ok⟩ := h
  obtain ⟨t, pt, rt⟩ := hb cdv A outer s w.H E hr
  refine ⟨t, pt, ?_⟩
  have sts' := sts.enter hn rp (N := N)
  have e0 : w.strip = w := ws_strip hρ hσ
  have s0 : Sts K ⟨mg, Low.no⟩ w.strip := by rw [e0]; exact sts
  have out : ∀ w', Aft K ⟨mg, Low.no⟩ { w with ρ := DL.enter n ds, σ := start N vs } w' → Aft K ⟨mg, Low.no⟩ w w'.strip := fun w' A => by
    have := Aft.out (w := w) s0 (enter_ml n ds) A
    rwa [e0] at this
  refine rt { w with ρ := DL.enter n ds, σ := start N vs } { nx := fun _ H' => Q .non H', rt := Q } sts' ?_
  unfold runD at ok
  show OkF K ⟨mg, Low.no⟩ (WEx E) _ _ (g (DL.enter n ds) w.st)
  cases e : g (DL.enter n ds) w.st with
  | nx ρ st' =>
    rw [e] at ok
    intro w' h1 h2 A
    exact ok w'.strip .non rfl h2 hσ.symm (out w' A) .non
  | rt d ρ st' =>
    rw [e] at ok
    intro w' v h1 h2 A r
    exact ok w'.strip v rfl h2 hσ.symm (out w' A) r
  | bk ρ st' => rw [e] at ok; exact ok.elim
  | ct ρ st' => rw [e] at ok; exact ok.elim
  | exc c ρ st' =>
    rw [e] at ok
    intro w' cls dx h1 h2 A r
    exact ok w'.strip cls dx rfl h2 hσ.symm (out w' A) r
  | bad => rw [e] at ok; exact ok.elim
@[simp] def callD (den : Den) (f : DEx) (ρ : En) (st : Store) : R := (f ρ st).bind fun d ρ st => match d with
  | .tup ds => match den ds st with
    | .ok r _ st' => .ok r ρ st'
    | .exc c _ st' => .exc c ρ st'
    | .bad => .bad
  | _ => .bad
section
variable {X : Cx} {W : WB} {k n : Nat} {f : Addr} {fd : FuncData} {ps : List Str} {den : Den} {x : Str} {p pos : Pos} {e : Expr} {es : List Expr} {fa : DEx}
theorem ExcAt.reb {K : PySem.W.Frag} {f : Str → Option Value} {w : Ws} {c : Ex} {cls : Value} {dx : Option Addr} (b b' : Low) (h : ExcAt K ⟨f, b⟩ w c cls dx) : ExcAt K ⟨f, b'⟩ w c cls dx := by
  obtain ⟨h1, h2⟩ := h
  refine ⟨h1, ?_⟩
  split at h2
  · exact h2
  · obtain ⟨d, vs, e1, e2, r⟩ := h2
    exact ⟨d, vs, e1, e2, r.reb b b'⟩
theorem sp_at {K : PySem.W.Frag} {mg : Str → Option Value} {b : Low} {w : Ws} {vs : List V} {ds : List D} {Q : VK} {σ : L2.St} (s : Sts K ⟨mg, b⟩ w) (hl : vs.length = n) (r : Reps K ⟨mg, b⟩ w.G w.ι vs ds) (hs : w.σ = σ)
    (q : OkR K ⟨mg, b⟩ W w Q (callD den (fun ρ st => .ok (.tup ds) ρ st) w.ρ w.st)) : spD K mg n den vs w.H Q (fun cls dx H => W cls dx σ H) := by
  subst hs
  refine ⟨hl, w.strip, ds, rfl, rfl, rfl, s.strip.noB rfl, r.reb _ _, ?_⟩
  show OkR K ⟨mg, Low.no⟩ _ w.strip Q (den ds w.st)
  unfold callD at q
  simp only [R.bind] at q
  cases e : den ds w.st with
  | ok d ρ st =>
    rw [e] at q
    intro w' v h1 h2 h3 A rv
    have A1 := (Aft.out (w := w) (ρ := []) (σ := []) (s.strip.noB rfl) (fun i ds h => by simp at h) A).reb (b' := b) s.strip rfl
    exact q { w'.strip with ρ := w.ρ, σ := w.σ } v rfl h2 rfl (Aft.back s A1) (rv.reb _ _)
  | exc c ρ st =>
    rw [e] at q
    intro w' cls dx h1 h2 h3 A rv
    have A1 := (Aft.out (w := w) (ρ := []) (σ := []) (s.strip.noB rfl) (fun i ds h => by simp at h) A).reb (b' := b) s.strip rfl
    exact q { w'.strip with ρ := w.ρ, σ := w.σ } cls dx rfl h2 rfl (Aft.back s A1) (rv.reb _ _)
  | bad => rw [e] at q; exact q.elim
theorem de_call (F : FnOk X.prog X.w X.K X.mg X.base (L2N.CX X.prog X.w) k f fd ps (spD X.K X.mg n den)) (hr : Room k X.A) (hg : Gl X x) (hm : X.mg x = some (.ref f)) (hk : PySem.W.keepIn X.K (.ref f) = true) (hb : Binds X.K fd ps []) (tk : L2N.Takes X W)
    (ha : DAn X W (e :: es) fa) (hn : (e :: es).length = n := by rfl) (hdb : (x == ("__debug__" : Str)) = false := by decide) (he : starEach (e :: es) X.env = (false, eval e X.env) :: starEach es X.env := by rfl) (hpl : (backTo pos (starEach es X.env)).any (·.1) = false := by rfl) :
    DE X W (.Call (.Name x p) (e :: es) [] pos) (callD den fa) := by
  obtain ⟨⟨t, pt, rt⟩, hl⟩ := ha
  refine ⟨_, pe_callS F hr hg hm hk hb (fun σ => L2N.passAt tk σ) pt hdb he hpl, fun w Q s q => ?_⟩
  refine rt.bind (P := OkR X.K (MGx X W.b) W w Q) s q (fun d ρ st n => by cases d <;> first | rfl | exact absurd rfl (n _)) (fun _ _ _ z => z) (fun z => z) fun w1 vs ds e1 a1 r1 ee q1 => ?_
  have l : vs.length = n := by
    obtain ⟨ds', e', l⟩ := hl _ _ _ _ _ ee
    cases e'
    rw [r1.len, l]; exact hn
  exact sp_at a1.s l r1 e1 (OkR.aft q1 a1 e1)
end
end DL
namespace DL
open PySem L2
section
variable {K : PySem.W.Frag} {mg : MG} {W : WB}
theorem RefE.bindF {t : TE} {f : DEx} (h : RefE K mg W t f) {w : Ws} {E : Ends} {Q1 : VK} {r : D → En → Store → Fl} (s : Sts K mg w)
    (hP : OkF K mg W w E (match f w.ρ w.st with | .ok d ρ st => r d ρ st | .exc c ρ st => .exc c ρ st | .bad => .bad))
    (k : ∀ (w1 : Ws) (v : V) (d : D), Sts K mg w1 → w1.σ = w.σ → Aft K mg w w1 → Rep K mg w1.G w1.ι v d → OkF K mg W w1 E (r d w1.ρ w1.st) → Q1 v w1.H) : t w.σ w.H Q1 := by
  refine h w Q1 s ?_
  cases e : f w.ρ w.st with
  | ok d ρ st =>
    rw [e] at hP
    intro w' v h1 h2 h3 h4 h5
    subst h1; subst h2
    exact k w' v d h4.s h3 h4 h5 (OkF.aft hP h4)
  | exc c ρ st =>
    rw [e] at hP
    exact fun w' cls dx h1 h2 _ h4 h5 => hP w' cls dx h1 h2 h4 h5
  | bad => rw [e] at hP; exact hP
end
@[simp] def thenF (f : DEx) (r : D → En → Store → Fl) (ρ : En) (st : Store) : Fl := match f ρ st with
  | .ok d ρ st => r d ρ st
  | .exc c ρ st => .exc c ρ st
  | .bad => .bad
@[simp] def nxD (ρ : En) (st : Store) : Fl := .nx ρ st
@[simp] def seqD (g h : DSx) (ρ : En) (st : Store) : Fl := match g ρ st with
  | .nx ρ st => h ρ st
  | r => r
@[simp] def exprD (f : DEx) (ρ0 : En) (st0 : Store) : Fl := thenF f (fun _ ρ st => .nx ρ st) ρ0 st0
@[simp] def retD (f : DEx) (ρ0 : En) (st0 : Store) : Fl := thenF f (fun d ρ st => .rt d ρ st) ρ0 st0
@[simp] def ifD (c : DEx) (g h : DSx) (ρ0 : En) (st0 : Store) : Fl := thenF c (fun d ρ st => match d with
  | .bl true => g ρ st
  | .bl false => h ρ st
  | _ => .bad) ρ0 st0
section
variable {K : PySem.W.Frag} {mg : MG} {W : WB}
theorem refS_nil : RefS K mg W tNext nxD := fun w E s q => q w rfl rfl (Aft.refl s)
theorem refS_cons {t u : TS} {g h : DSx} (ht : RefS K mg W t g) (hu : RefS K mg W u h) : RefS K mg W (tSeq t u) (seqD g h) := fun w E s q => by
  refine ht w _ s ?_
  unfold seqD at q
  cases e : g w.ρ w.st with
  | nx ρ st =>
    rw [e] at q
    intro w' h1 h2 A
    subst h1; subst h2
    exact hu w' E A.s (OkF.aft q A)
  | rt d ρ st => rw [e] at q; exact q
  | bk ρ st => rw [e] at q; exact q
  | ct ρ st => rw [e] at q; exact q
  | exc c ρ st => rw [e] at q; exact q
  | bad => rw [e] at q; exact q
theorem refS_expr {t : TE} {f : DEx} (h : RefE K mg W t f) : RefS K mg W (tDrop t) (exprD f) := fun w E s q =>
  h.bindF s q fun w1 v d s1 e1 a1 r1 q1 => by
    have := q1 w1 rfl rfl (Aft.refl s1)
    rw [e1] at this; exact this
theorem refS_ret {t : TE} {f : DEx} (h : RefE K mg W t f) : RefS K mg W (tRet t) (retD f) := fun w E s q =>
  h.bindF s q fun w1 v d s1 e1 a1 r1 q1 => q1 w1 v rfl rfl (Aft.refl s1) r1
theorem RefT.bindF {t : TT} {f : DEx} (h : RefT K mg W t f) {w : Ws} {E : Ends} {Q1 : Bool → Hp → Prop} {r : D → En → Store → Fl} (s : Sts K mg w) (hd : ∀ d ρ st, (∀ b, d ≠ .bl b) → r d ρ st = .bad)
    (hP : OkF K mg W w E (match f w.ρ w.st with | .ok d ρ st => r d ρ st | .exc c ρ st => .exc c ρ st | .bad => .bad))
    (k : ∀ (w1 : Ws) (b : Bool), Sts K mg w1 → w1.σ = w.σ → Aft K mg w w1 → OkF K mg W w1 E (r (.bl b) w1.ρ w1.st) → Q1 b w1.H) : t w.σ w.H Q1 := by
  refine h w Q1 s ?_
  cases e : f w.ρ w.st with
  | ok d ρ st =>
    rw [e] at hP
    cases d with
    | bl b =>
      intro w' h1 h2 h3 h4
      subst h1; subst h2
      exact k w' b h4.s h3 h4 (OkF.aft hP h4)
    | _ =>
      simp only at hP
      rw [hd _ ρ st (by intro b q; cases q)] at hP
      exact hP.elim
  | exc c ρ st =>
    rw [e] at hP
    exact fun w' cls dx h1 h2 _ h4 h5 => hP w' cls dx h1 h2 h4 h5
  | bad => rw [e] at hP; exact hP
theorem refS_if {c : TT} {t u : TS} {f : DEx} {g h : DSx} (hc : RefT K mg W c f) (ht : RefS K mg W t g) (hu : RefS K mg W u h) : RefS K mg W (tIfS c t u) (ifD f g h) := fun w E s q => by
  refine hc.bindF s (fun d ρ st n => by cases d <;> first | rfl | exact absurd rfl (n _)) q fun w1 b s1 e1 a1 q1 => ?_
  cases b with
  | true =>
    refine iteT ?_
    rw [← e1]; exact ht w1 E s1 q1
  | false =>
    refine iteF ?_
    rw [← e1]; exact hu w1 E s1 q1
end
section
variable {X : Cx} {W : WB} {st : Stmt} {rest : List Stmt} {a b : List Stmt} {e c : Expr} {f : DEx} {g h : DSx} {pos : Pos}
theorem dss_nil : DSs X W [] nxD := ⟨_, pss_nil, refS_nil⟩
theorem dss_cons (h1 : DS X W st g) (h2 : DSs X W rest h) : DSs X W (st :: rest) (seqD g h) := let ⟨_, p, r⟩ := h1; let ⟨_, p', r'⟩ := h2; ⟨_, pss_cons p p', refS_cons r r'⟩
theorem dss_one (h1 : DS X W st g) : DSs X W [st] g := let ⟨_, p, r⟩ := h1; ⟨_, pss_one p, r⟩
theorem ds_expr (he : DE X W e f) (hs : swapsWith e none pos.line X.env = pure false := by rfl) : DS X W (.Expr e pos) (exprD f) := let ⟨_, p, r⟩ := he; ⟨_, ps_expr p hs, refS_expr r⟩
theorem ds_ret (he : DE X W e f) : DS X W (.Return (some e) pos) (retD f) := let ⟨_, p, r⟩ := he; ⟨_, ps_ret p, refS_ret r⟩
theorem ds_if (hc : DT X W c f) (ha : DSs X W a g) (hb : DSs X W b h) : DS X W (.If c a b pos) (ifD f g h) := let ⟨_, p, r⟩ := hc; let ⟨_, p1, r1⟩ := ha; let ⟨_, p2, r2⟩ := hb; ⟨_, ps_if p p1 p2, refS_if r r1 r2⟩
end
abbrev DGx := D → En → Option En
def RefG (K : PySem.W.Frag) (mg : MG) (is : List Nat) (t : TG) (g : DGx) : Prop :=
  ∀ (w : Ws) (v : V) (d : D) (ρ' : En) (Q : L2.St → Hp → Prop), Sts K mg w → Rep K mg w.G w.ι v d → g d w.ρ = some ρ' →
    (∀ σ', (∀ us : List Nat, (∀ i ∈ is, i ∈ us) → wipe σ' us = wipe w.σ us) → Aft K mg w { w with ρ := ρ', σ := σ' } → Q σ' w.H) → t v w.σ w.H Q
def RefGs (K : PySem.W.Frag) (mg : MG) (is : List Nat) (t : TGs) (g : List D → En → Option En) : Prop :=
  ∀ (w : Ws) (vs : List V) (ds : List D) (ρ' : En) (Q : L2.St → Hp → Prop), Sts K mg w → Reps K mg w.G w.ι vs ds → g ds w.ρ = some ρ' →
    (∀ σ', (∀ us : List Nat, (∀ i ∈ is, i ∈ us) → wipe σ' us = wipe w.σ us) → Aft K mg w { w with ρ := ρ', σ := σ' } → Q σ' w.H) → t vs w.σ w.H Q
def DG (X : Cx) (e : Expr) (is : List Nat) (g : DGx) : Prop := ∃ t, PG X e t ∧ ∀ b, RefG X.K (MGx X b) is t g
def DGs (X : Cx) (es : List Expr) (is : List Nat) (g : List D → En → Option En) : Prop := ∃ t, PGs X es t ∧ ∀ b, RefGs X.K (MGx X b) is t g
theorem wipe_set {σ : L2.St} {i : Nat} {x : Option V} : ∀ {us : List Nat}, i ∈ us → wipe (σ.set i x) us = wipe σ us
  | [], h => by simp at h
  | u :: us, h => by
    show (wipe (σ.set i x) us).set u none = (wipe σ us).set u none
    by_cases e : i ∈ us
    · rw [wipe_set e]
    · have eu : i = u := by
        rcases List.mem_cons.mp h with h | h
        · exact h
        · exact absurd h e
      subst eu
      have : ∀ us : List Nat, i ∉ us → wipe (σ.set i x) us = (wipe σ us).set i x := by
        intro us
        induction us with
        | nil => intro _; rfl
        | cons v us ih =>
          intro hv
          have h1 : i ≠ v := fun q => hv (by simp [q])
          have h2 : i ∉ us := fun q => hv (by simp [q])
          show (wipe (σ.set i x) us).set v none = ((wipe σ us).set v none).set i x
          rw [ih h2, List.set_comm _ _ h1]
      rw [this us e, List.set_set]
@[simp] def gN (i : Nat) : DGx := fun d ρ => some (ρ.set i (.val d))
@[simp] def gsNil : List D → En → Option En := fun ds ρ => match ds with
  | [] => some ρ
  | _ => none
@[simp] def gsCons (g : DGx) (h : List D → En → Option En) : List D → En → Option En := fun ds ρ => match ds with
  | d :: r => match g d ρ with
    | some ρ => h r ρ
    | none => none
  | [] => none
@[simp] def gT (h : List D → En → Option En) : DGx := fun d ρ => match d with
  | .tup ds => h ds ρ
  | _ => none
section
variable {K : PySem.W.Frag} {mg : MG} {W : WB}
theorem refG_name (i : Nat) : RefG K mg [i] (gName i) (gN i) := fun w v d ρ' Q s r e k => by
  cases e
  exact k _ (fun us h => wipe_set (h i (by simp))) (Aft.setVal s r)
theorem refGs_nil : RefGs K mg [] gNil gsNil := fun w vs ds ρ' Q s r e k => by
  cases r with
  | nil => cases e; exact ⟨rfl, k _ (fun _ _ => rfl) (Aft.refl s)⟩
  | cons r rs => cases e
theorem refGs_cons {is js : List Nat} {t : TG} {u : TGs} {g : DGx} {h : List D → En → Option En} (ht : RefG K mg is t g) (hu : RefGs K mg js u h) : RefGs K mg (is ++ js) (gCons t u) (gsCons g h) := fun w vs ds ρ' Q s r e k => by
  cases r with
  | nil => cases e
  | cons r rs =>
    rename_i v d vs ds
    unfold gsCons at e
    simp only at e
    split at e
    · rename_i ρ1 e1
      refine ⟨v, vs, rfl, ht w v d ρ1 _ s r e1 fun σ1 w1 A1 => ?_⟩
      exact hu { w with ρ := ρ1, σ := σ1 } vs ds ρ' Q A1.s (rs.mono A1.g A1.i) e fun σ2 w2 A2 => k σ2 (fun us h => (w2 us fun i hi => h i (by simp [hi])).trans (w1 us fun i hi => h i (by simp [hi]))) (A1.trans A2)
    · cases e
theorem refG_tup {is : List Nat} {n : Nat} {u : TGs} {h : List D → En → Option En} (hn : ∀ ds ρ ρ', h ds ρ = some ρ' → ds.length = n) (hu : RefGs K mg is u h) : RefG K mg is (gTup K n u) (gT h) := fun w v d ρ' Q s r e k => by
  unfold gT at e
  split at e
  · cases r with
    | tup hs hl rs =>
      exact ⟨_, _, rfl, SqT.mono s.sub hs, by rw [rs.len]; exact hn _ _ _ e, hu w _ _ ρ' Q s rs e k⟩
  · cases e
end
section
variable {X : Cx} {W : WB} {e tg : Expr} {es : List Expr} {f : DEx} {g : DGx} {h : List D → En → Option En} {pos : Pos}
theorem dg_name {i : Nat} {x : Str} (hN : X.N.Nodup) (hi : X.N[i]? = some x) (hx : Loc X.env.scope x) (hf : X.fn x = true ∨ X.env.scope.names.lookup x = some .local := by first | exact .inl rfl | exact .inr rfl | assumption) : DG X (.Name x pos) [i] (gN i) := ⟨_, pg_name hN hi hx hf, fun _ => refG_name i⟩
@[simp] def setD (f : DEx) (g : DGx) (ρ0 : En) (st0 : Store) : Fl := thenF f (fun d ρ st => match g d ρ with
  | some ρ => .nx ρ st
  | none => .bad) ρ0 st0
theorem refS_set {K : PySem.W.Frag} {mg : MG} {t : TE} {u : TG} {is : List Nat} (ht : RefE K mg W t f) (hu : RefG K mg is u g) : RefS K mg W (tAsg t u) (setD f g) := fun w E s q =>
  ht.bindF s q fun w1 v d s1 e1 a1 r1 q1 => by
    show u v w.σ w1.H E.nx
    cases z : g d w1.ρ with
    | none => simp only [z] at q1; exact q1.elim
    | some ρ' =>
      simp only [z] at q1
      rw [← e1]
      exact hu w1 v d ρ' _ s1 r1 z fun σ' _ A => q1 { w1 with ρ := ρ', σ := σ' } rfl rfl A
theorem ds_asg {is : List Nat} (he : DE X W e f) (hg : DG X tg is g) (hs : swapsWithSole [tg] e pos.line X.env = pure false := by rfl) (hw : swappedStores [tg] e X.env = pure none := by rfl) (h1 : (assignEach [tg] X.env).map (·.2) = [assign tg X.env] := by rfl) : DS X W (.Assign [tg] e pos) (setD f g) :=
  let ⟨_, p, r⟩ := he; let ⟨_, p', r'⟩ := hg; ⟨_, ps_asg p p' hs hw h1, refS_set r (r' _)⟩
theorem ds_set {i : Nat} {x : Str} {pos' : Pos} (hN : X.N.Nodup) (hi : X.N[i]? = some x) (hx : Loc X.env.scope x) (he : DE X W e f) (hs : swapsWith e (some (.Name x pos')) pos.line X.env = pure false := by rfl) (hf : X.fn x = true ∨ X.env.scope.names.lookup x = some .local := by first | exact .inl rfl | exact .inr rfl | assumption) :
    DS X W (.Assign [.Name x pos'] e pos) (setD f (gN i)) := let ⟨_, p, r⟩ := he; ⟨_, ps_set hN hi hx p hs hf, refS_set r (refG_name i)⟩
end
theorem gsNil_len (ds : List D) (ρ ρ' : En) (h : gsNil ds ρ = some ρ') : ds.length = 0 := by
  cases ds with
  | nil => rfl
  | cons d ds => cases h
theorem gsCons_len {g : DGx} {h : List D → En → Option En} {n : Nat} (hn : ∀ ds ρ ρ', h ds ρ = some ρ' → ds.length = n) (ds : List D) (ρ ρ' : En) (e : gsCons g h ds ρ = some ρ') : ds.length = n + 1 := by
  unfold gsCons at e
  split at e
  · split at e
    · simp [hn _ _ _ e]
    · cases e
  · cases e
def DGn (X : Cx) (es : List Expr) (is : List Nat) (h : List D → En → Option En) : Prop := DGs X es is h ∧ ∀ ds ρ ρ', h ds ρ = some ρ' → ds.length = es.length
section
variable {X : Cx} {W : WB} {e tg iter c : Expr} {es : List Expr} {f : DEx} {g : DGx} {h : List D → En → Option En} {pos : Pos}
theorem dgs_nil : DGn X [] [] gsNil := ⟨⟨_, pgs_nil, fun _ => refGs_nil⟩, gsNil_len⟩
theorem dgs_cons {is js : List Nat} (h1 : DG X e is g) (h2 : DGn X es js h) (hs : (assignEach (e :: es) X.env).map (·.2) = assign e X.env :: (assignEach es X.env).map (·.2) := by rfl) : DGn X (e :: es) (is ++ js) (gsCons g h) :=
  let ⟨_, p, r⟩ := h1; let ⟨⟨_, p', r'⟩, l⟩ := h2; ⟨⟨_, pgs_cons p p' hs, fun b => refGs_cons (r b) (r' b)⟩, gsCons_len l⟩
theorem dg_tup {is : List Nat} {k : Nat} (hc : X.calm = true) (h1 : DGn X es is h) (hn : (assignEach es X.env).length = es.length := by rfl) (hst : (assignEach es X.env).findIdx? (·.1) = none := by rfl) : DG X (.Tuple es k pos) is (gT h) :=
  let ⟨⟨_, p, r⟩, l⟩ := h1; ⟨_, pg_tup hc p hn hst, fun b => refG_tup l (r b)⟩
end
def forD (g : DGx) (b : DSx) : List D → DSx
  | [] => fun ρ st => .nx ρ st
  | d :: ds => fun ρ st => match g d ρ with
    | none => .bad
    | some ρ => match b ρ st with
      | .nx ρ st => forD g b ds ρ st
      | .ct ρ st => forD g b ds ρ st
      | .bk ρ st => .nx ρ st
      | r => r
abbrev Gd := Option (Nat × List D)
def okG : Gd → Store → Prop
  | none, _ => True
  | some (l, ds), st => st[l]? = some (.lst ds)
@[simp] theorem okG_none (st : Store) : okG none st = True := rfl
@[simp] theorem okG_some (l : Nat) (ds : List D) (st : Store) : okG (some (l, ds)) st = (st[l]? = some (.lst ds)) := rfl
@[simp] def D.iter : D → Option (List D × Gd)
  | .lst ds => some (ds, none)
  | .tup [.lst ds, .ref l, .lst e] => some (ds, some (l, e))
  | _ => none
open Classical in
noncomputable def chkS (gd : Gd) (b : DSx) (ρ : En) (st : Store) : Fl := match b ρ st with
  | .nx ρ st => if okG gd st then .nx ρ st else .bad
  | .ct ρ st => if okG gd st then .ct ρ st else .bad
  | r => r
@[simp] theorem chkS_none (b : DSx) : chkS none b = b := by
  funext ρ st
  unfold chkS
  cases b ρ st <;> simp
@[simp] noncomputable def forE (f : DEx) (g : DGx) (b : DSx) (ρ0 : En) (st0 : Store) : Fl := thenF f (fun d ρ st => match d.iter with
  | some (ds, gd) => forD g (chkS gd b) ds ρ st
  | none => .bad) ρ0 st0
structure Frz (K : PySem.W.Frag) (mg : MG) (w w' : Ws) : Prop where
  s : Sts K mg w'
  g : Same w.G w'.G
  i : LeI w.ι w'.ι
theorem Aft.fz {K : PySem.W.Frag} {mg : MG} {w w' : Ws} (A : Aft K mg w w') : Frz K mg w w' := ⟨A.s, A.g, A.i⟩
theorem Frz.trans {K : PySem.W.Frag} {mg : MG} {w w' w'' : Ws} (A : Frz K mg w w') (B : Frz K mg w' w'') : Frz K mg w w'' := ⟨B.s, A.g.trans B.g, A.i.trans B.i⟩
def IterOk (K : PySem.W.Frag) (mg : MG) (w : Ws) (J : It) (ds : List D) (gd : Gd) : Prop := ∃ (G0 : Hp → Prop) (Y : Nat → Hp → V → Hp → Prop), Walk J ds.length G0 Y ∧ (∀ w2, Frz K mg w w2 → okG gd w2.st → G0 w2.H) ∧
  ∀ (i : Nat) (w2 : Ws) (x : V) (H' : Hp) (d : D), ds[i]? = some d → Frz K mg w w2 → okG gd w2.st → Y i w2.H x H' → ∃ G', Aft K mg w2 { w2 with G := G', H := H' } ∧ Rep K mg G' w2.ι x d
def OkI (K : PySem.W.Frag) (mg : MG) (W : WB) (w : Ws) (Q : It → Hp → Prop) : R → Prop
  | .ok d ρ st => match d.iter with
    | some (ds, gd) => ∀ (w' : Ws) (J : It), w'.ρ = ρ → w'.st = st → w'.σ = w.σ → Aft K mg w w' → IterOk K mg w' J ds gd → okG gd st → Q J w'.H
    | none => False
  | .exc c ρ st => ∀ (w' : Ws) (cls : Value) (dx : Option Addr), w'.ρ = ρ → w'.st = st → w'.σ = w.σ → Aft K mg w w' → ExcAt K mg w' c cls dx → W cls dx w'.σ w'.H
  | .bad => False
def RefI (K : PySem.W.Frag) (mg : MG) (W : WB) (t : TI) (f : DEx) : Prop :=
  ∀ (w : Ws) (Q : It → Hp → Prop), Sts K mg w → OkI K mg W w Q (f w.ρ w.st) → t w.σ w.H Q
def DI (X : Cx) (W : WB) (tg iter : Expr) (f : DEx) : Prop := ∃ t, PI X tg iter t ∧ RefI X.K (MGx X W.b) W t f
section
variable {K : PySem.W.Frag} {mg : MG} {W : WB}
theorem RefI.bindF {t : TI} {f : DEx} (h : RefI K mg W t f) {w : Ws} {E : Ends} {Q1 : It → Hp → Prop} {r : D → En → Store → Fl} (s : Sts K mg w) (hd : ∀ d ρ st, d.iter = none → r d ρ st = .bad)
    (hP : OkF K mg W w E (match f w.ρ w.st with | .ok d ρ st => r d ρ st | .exc c ρ st => .exc c ρ st | .bad => .bad))
    (k : ∀ (w1 : Ws) (J : It) (d : D) (ds : List D) (gd : Gd), Sts K mg w1 → w1.σ = w.σ → Aft K mg w w1 → d.iter = some (ds, gd) → IterOk K mg w1 J ds gd → okG gd w1.st → OkF K mg W w1 E (r d w1.ρ w1.st) → Q1 J w1.H) : t w.σ w.H Q1 := by
  refine h w Q1 s ?_
  cases e : f w.ρ w.st with
  | ok d ρ st =>
    rw [e] at hP
    cases ei : d.iter with
    | none =>
      simp only at hP
      rw [hd _ ρ st ei] at hP
      exact hP.elim
    | some dg =>
      obtain ⟨ds, gd⟩ := dg
      simp only [OkI, ei]
      intro w' J h1 h2 h3 h4 h5 h6
      subst h1; subst h2
      exact k w' J d ds gd h4.s h3 h4 ei h5 h6 (OkF.aft hP h4)
  | exc c ρ st =>
    rw [e] at hP
    exact fun w' cls dx h1 h2 _ h4 h5 => hP w' cls dx h1 h2 h4 h5
  | bad => rw [e] at hP; exact hP
theorem refS_for {wi : TI} {u : TG} {tb : TS} {f : DEx} {g : DGx} {b : DSx} {is : List Nat} (hi : RefI K mg W wi f) (hg : RefG K mg is u g) (hb : RefS K mg W tb b) : RefS K mg W (tFor wi u tb) (forE f g b) := fun w E s q => by
  refine hi.bindF s (fun d ρ st n => by simp only [n]) q fun w1 J d0 ds gd s1 e1 a1 ei it og q1 => ?_
  simp only [ei] at q1
  obtain ⟨G0, Y, wk, hG, hY⟩ := it
  refine for_it wk (fun i σ H => ∃ w2, Aft K mg w1 w2 ∧ σ = w2.σ ∧ H = w2.H ∧ okG gd w2.st ∧ OkF K mg W w2 E (forD g (chkS gd b) (ds.drop i) w2.ρ w2.st)) ⟨w1, Aft.refl s1, e1.symm, rfl, og, q1⟩ ?_ ?_ ?_
  · rintro i σ H _ ⟨w2, A, rfl, rfl, og2, _⟩
    exact hG w2 A.fz og2
  · rintro i x σ H H' hl ⟨w2, A, rfl, rfl, og2, q2⟩ y
    have hd : ds[i]? = some ds[i] := List.getElem?_eq_getElem hl
    obtain ⟨G', A3, r3⟩ := hY i w2 x H' _ hd A.fz og2 y
    have ed : ds.drop i = ds[i] :: ds.drop (i + 1) := List.drop_eq_getElem_cons hl
    rw [ed] at q2
    unfold forD at q2
    cases z : g ds[i] w2.ρ with
    | none => simp only [z] at q2; exact q2.elim
    | some ρ' =>
      simp only [z] at q2
      refine hg { w2 with G := G', H := H' } x _ ρ' _ A3.s r3 z fun σ' _ A4 => ?_
      have A5 := A3.trans A4
      refine hb { w2 with ρ := ρ', σ := σ', G := G', H := H' } _ A5.s ?_
      show OkF K mg W _ _ (b ρ' w2.st)
      cases e : b ρ' w2.st with
      | nx ρ2 st2 =>
        by_cases og3 : okG gd st2
        · simp only [chkS, e, if_pos og3] at q2
          intro w6 h1 h2 A6
          subst h1; subst h2
          exact ⟨w6, A.trans (A5.trans A6), rfl, rfl, og3, OkF.aft q2 (A5.trans A6)⟩
        · simp only [chkS, e, if_neg og3] at q2; exact q2.elim
      | ct ρ2 st2 =>
        by_cases og3 : okG gd st2
        · simp only [chkS, e, if_pos og3] at q2
          intro w6 h1 h2 A6
          subst h1; subst h2
          exact ⟨w6, A.trans (A5.trans A6), rfl, rfl, og3, OkF.aft q2 (A5.trans A6)⟩
        · simp only [chkS, e, if_neg og3] at q2; exact q2.elim
      | bk ρ2 st2 =>
        simp only [chkS, e] at q2
        intro w6 h1 h2 A6
        exact q2 w6 h1 h2 (A5.trans A6)
      | rt d ρ2 st2 =>
        simp only [chkS, e] at q2
        intro w6 v h1 h2 A6 r6
        exact q2 w6 v h1 h2 (A5.trans A6) r6
      | exc c ρ2 st2 =>
        simp only [chkS, e] at q2
        intro w6 cls dx h1 h2 A6 r6
        exact q2 w6 cls dx h1 h2 (A5.trans A6) r6
      | bad => simp only [chkS, e] at q2; exact q2.elim
  · rintro σ H ⟨w2, A, rfl, rfl, _, q2⟩
    rw [List.drop_length] at q2
    exact q2 w2 rfl rfl (Aft.refl A.s)
end
section
variable {X : Cx} {W : WB} {tg iter c : Expr} {body : List Stmt} {f : DEx} {g : DGx} {b : DSx} {pos : Pos}
theorem ds_for (hp : PassesOwn (model X.prog X.w) X.A X.env X.xe) (hc : X.calm = true) {is : List Nat} (hi : DI X W tg iter f) (hg : DG X tg is g) (hb : DSs X W body b) (hs : ∀ x, foldedSetIterable iter X.env x = pure x := by intro _; rfl) :
    DS X W (.For tg iter body [] pos) (forE f g b) := let ⟨_, p, r⟩ := hi; let ⟨_, p1, r1⟩ := hg; let ⟨_, p2, r2⟩ := hb; ⟨_, ps_for hp hc p p1 p2 hs, refS_for r (r1 _) r2⟩
end
def runW (c : DEx) (b : DSx) : Nat → DSx
  | 0 => fun _ _ => .bad
  | n + 1 => fun ρ st => match c ρ st with
    | .ok (.bl true) ρ st => (match b ρ st with
      | .nx ρ st => runW c b n ρ st
      | .ct ρ st => runW c b n ρ st
      | .bk ρ st => .nx ρ st
      | r => r)
    | .ok (.bl false) ρ st => .nx ρ st
    | .ok _ _ _ => .bad
    | .exc x ρ st => .exc x ρ st
    | .bad => .bad
open Classical in
noncomputable def whileD (c : DEx) (b : DSx) (ρ : En) (st : Store) : Fl := if h : ∃ n, runW c b n ρ st ≠ .bad then runW c b (choose h) ρ st else .bad
section
variable {K : PySem.W.Frag} {mg : MG} {W : WB}
theorem refS_while {tc : TT} {tb : TS} {c : DEx} {b : DSx} (hc : RefT K mg W tc c) (hb : RefS K mg W tb b) : RefS K mg W (tWhile tc tb) (whileD c b) := fun w E s q => by
  have : ∃ n, OkF K mg W w E (runW c b n w.ρ w.st) := by
    unfold whileD at q
    split at q
    · exact ⟨_, q⟩
    · exact q.elim
  obtain ⟨n, q⟩ := this
  refine ⟨fun m σ H => ∃ w2, Aft K mg w w2 ∧ σ = w2.σ ∧ H = w2.H ∧ OkF K mg W w2 E (runW c b m w2.ρ w2.st), ⟨n, w, Aft.refl s, rfl, rfl, q⟩, ?_⟩
  rintro m σ H ⟨w2, A, rfl, rfl, q2⟩
  cases m with
  | zero => exact q2.elim
  | succ m =>
    unfold runW at q2
    refine hc w2 _ A.s ?_
    cases e : c w2.ρ w2.st with
    | ok d ρ st =>
      rw [e] at q2
      cases d with
      | bl t =>
        intro w3 h1 h2 h3 A3
        subst h1; subst h2
        cases t with
        | false =>
          refine iteF ?_
          have := q2 w3 rfl rfl A3
          rw [h3] at this; exact this
        | true =>
          refine iteT ⟨fun σ' H' => ∃ w4, Aft K mg w w4 ∧ σ' = w4.σ ∧ H' = w4.H ∧ OkF K mg W w4 E (runW c b m w4.ρ w4.st), fun σ' H' h => ⟨m, Nat.lt_succ_self m, h⟩, ?_⟩
          rw [← h3]
          refine hb w3 _ A3.s ?_
          simp only at q2
          cases e4 : b w3.ρ w3.st with
          | nx ρ4 st4 =>
            rw [e4] at q2
            intro w4 h1 h2 A4
            subst h1; subst h2
            exact ⟨w4, A.trans (A3.trans A4), rfl, rfl, OkF.aft q2 (A3.trans A4)⟩
          | ct ρ4 st4 =>
            rw [e4] at q2
            intro w4 h1 h2 A4
            subst h1; subst h2
            exact ⟨w4, A.trans (A3.trans A4), rfl, rfl, OkF.aft q2 (A3.trans A4)⟩
          | bk ρ4 st4 =>
            rw [e4] at q2
            intro w4 h1 h2 A4
            exact q2 w4 h1 h2 (A3.trans A4)
          | rt d ρ4 st4 =>
            rw [e4] at q2
            intro w4 v h1 h2 A4 r4
            exact q2 w4 v h1 h2 (A3.trans A4) r4
          | exc x ρ4 st4 =>
            rw [e4] at q2
            intro w4 cls dx h1 h2 A4 r4
            exact q2 w4 cls dx h1 h2 (A3.trans A4) r4
          | bad => rw [e4] at q2; exact q2.elim
      | _ => exact q2.elim
    | exc x ρ st =>
      rw [e] at q2
      exact fun w' cls dx h1 h2 _ h4 h5 => q2 w' cls dx h1 h2 h4 h5
    | bad => rw [e] at q2; exact q2
end
theorem runW_more {c : DEx} {b : DSx} : ∀ {n : Nat} {ρ : En} {st : Store}, runW c b n ρ st ≠ .bad → ∀ m, n ≤ m → runW c b m ρ st = runW c b n ρ st
  | 0, _, _, h, _, _ => absurd rfl h
  | n + 1, ρ, st, h, 0, hm => absurd hm (by omega)
  | n + 1, ρ, st, h, m + 1, hm => by
    unfold runW at h ⊢
    cases e : c ρ st with
    | ok d ρ' st' =>
      rw [e] at h
      cases d with
      | bl t =>
        cases t with
        | true =>
          simp only at h ⊢
          cases e4 : b ρ' st' with
          | nx ρ4 st4 => rw [e4] at h; exact runW_more h m (by omega)
          | ct ρ4 st4 => rw [e4] at h; exact runW_more h m (by omega)
          | bk ρ4 st4 => rfl
          | rt d ρ4 st4 => rfl
          | exc x ρ4 st4 => rfl
          | bad => rfl
        | false => rfl
      | _ => rfl
    | exc x ρ' st' => rfl
    | bad => rfl
theorem whileD_of {c : DEx} {b : DSx} {n : Nat} {ρ : En} {st : Store} {r : Fl} (h : runW c b n ρ st = r) (hr : r ≠ .bad) : whileD c b ρ st = r := by
  have hx : ∃ n, runW c b n ρ st ≠ .bad := ⟨n, by rw [h]; exact hr⟩
  unfold whileD
  rw [dif_pos hx]
  have h1 := Classical.choose_spec hx
  by_cases q : Classical.choose hx ≤ n
  · rw [← runW_more h1 n q, h]
  · rw [runW_more (by rw [h]; exact hr) _ (by omega : n ≤ Classical.choose hx), h]
section
variable {X : Cx} {W : WB} {c : Expr} {body : List Stmt} {f : DEx} {b : DSx} {pos : Pos}
theorem ds_while (hp : PassesOwn (model X.prog X.w) X.A X.env X.xe) (hc : DT X W c f) (hb : DSs X W body b) : DS X W (.While c body [] pos) (whileD f b) :=
  let ⟨_, p, r⟩ := hc; let ⟨_, p2, r2⟩ := hb; ⟨_, ps_while hp p p2, refS_while r r2⟩
end
end DL
namespace DL
open PySem L2
def tOf (K : PySem.W.Frag) (mg : MG) (W : WB) (f : DEx) : TE := fun σ H Q => ∃ w, w.σ = σ ∧ w.H = H ∧ Sts K mg w ∧ OkR K mg W w Q (f w.ρ w.st)
def ttOf (K : PySem.W.Frag) (mg : MG) (W : WB) (f : DEx) : TT := fun σ H Q => ∃ w, w.σ = σ ∧ w.H = H ∧ Sts K mg w ∧ OkT K mg W w Q (f w.ρ w.st)
def gOf (K : PySem.W.Frag) (mg : MG) (is : List Nat) (g : DGx) : TG := fun v σ H Q => ∃ w d ρ', w.σ = σ ∧ w.H = H ∧ Sts K mg w ∧ Rep K mg w.G w.ι v d ∧ g d w.ρ = some ρ' ∧
  ∀ σ', (∀ us : List Nat, (∀ i ∈ is, i ∈ us) → wipe σ' us = wipe w.σ us) → Aft K mg w { w with ρ := ρ', σ := σ' } → Q σ' w.H
section
variable {X : Cx} {W : WB} {e : Expr} {f : DEx} {g : DGx} {is : List Nat}
theorem DE.pe (h : DE X W e f) : PE X e (tOf X.K (MGx X W.b) W f) := by
  obtain ⟨t, p, r⟩ := h
  refine ⟨fun pins s σ H Q I q => ?_⟩
  obtain ⟨w, rfl, rfl, sw, ok⟩ := q
  exact p.run pins s _ _ Q I (r w Q sw ok)
theorem DT.pt (h : DT X W e f) : PT X e (ttOf X.K (MGx X W.b) W f) := by
  obtain ⟨t, p, r⟩ := h
  refine ⟨fun pins s σ H Q I q => ?_⟩
  obtain ⟨w, rfl, rfl, sw, ok⟩ := q
  exact p.run pins s _ _ Q I (r w Q sw ok)
theorem DG.pg (b : Low) (h : DG X e is g) : PG X e (gOf X.K (MGx X b) is g) := by
  obtain ⟨t, p, r⟩ := h
  refine ⟨fun pins s σ H v u Q I rv q => ?_⟩
  obtain ⟨w, d, ρ', rfl, rfl, sw, rp, eg, ok⟩ := q
  exact p.run pins s _ _ v u Q I rv (r b w v d ρ' Q sw rp eg ok)
end
def WF (b : Low) : WB := ⟨fun _ _ _ _ => False, b⟩
def DTs (X : Cx) (b : Low) (ifs : List Expr) (f : DEx) : Prop := ∃ t, PTs X ifs t ∧ RefT X.K (MGx X b) (WF b) t f
theorem DTs.pts {X : Cx} {b : Low} {ifs : List Expr} {f : DEx} (h : DTs X b ifs f) : PTs X ifs (ttOf X.K (MGx X b) (WF b) f) := by
  obtain ⟨t, p, r⟩ := h
  refine ⟨fun pins s σ H Q I q => ?_⟩
  obtain ⟨w, rfl, rfl, sw, ok⟩ := q
  exact p.run pins s _ _ Q I (r w Q sw ok)
def yesD (ρ : En) (st : Store) : R := .ok (.bl true) ρ st
@[simp] theorem yesD_s (ρ : En) (st : Store) : yesD ρ st = .ok (.bl true) ρ st := rfl
theorem dts_nil {X : Cx} {b : Low} : DTs X b [] yesD := ⟨_, pts_nil, fun w Q s q => q w rfl rfl rfl (Aft.refl s)⟩
theorem dts_one {X : Cx} {b : Low} {c : Expr} {f : DEx} (h : DT X (WF b) c f) : DTs X b [c] f := let ⟨_, p, r⟩ := h; ⟨_, pts_one p, r⟩
@[simp] def wipeR (ρ : En) : List Nat → En
  | [] => ρ
  | v :: vs => (wipeR ρ vs).set v .no
def lcGo (g : DGx) (c f : DEx) (vs : List Nat) : List D → List D → En → Store → R
  | [], acc => fun ρ st => .ok (.lst acc) ρ st
  | d :: ds, acc => fun ρ st => match g d ρ with
    | none => .bad
    | some ρ => match c ρ st with
      | .ok (.bl true) ρ st => (match f ρ st with
        | .ok y ρ st => lcGo g c f vs ds (acc ++ [y]) (wipeR ρ vs) st
        | _ => .bad)
      | .ok (.bl false) ρ st => lcGo g c f vs ds acc (wipeR ρ vs) st
      | _ => .bad
open Classical in
noncomputable def chkE (gd : Gd) (f : DEx) (ρ : En) (st : Store) : R := match f ρ st with
  | .ok d ρ st => if okG gd st then .ok d ρ st else .bad
  | r => r
@[simp] theorem chkE_none (f : DEx) : chkE none f = f := by
  funext ρ st
  unfold chkE
  cases f ρ st <;> simp
@[simp] noncomputable def lcD (fi : DEx) (g : DGx) (c f : DEx) (vs : List Nat) (ρ : En) (st : Store) : R := (fi ρ st).bind fun d ρ st => match d.iter with
  | some (ds, gd) => if ds.length ≤ sizeLine then lcGo g (chkE gd c) (chkE gd f) vs ds [] (wipeR ρ vs) st else .bad
  | none => .bad
section
variable {K : PySem.W.Frag} {mg : MG} {W : WB}
theorem Aft.wiped {w : Ws} (s : Sts K mg w) : ∀ vs : List Nat, Aft K mg w { w with ρ := wipeR w.ρ vs, σ := wipe w.σ vs }
  | [] => Aft.refl s
  | v :: vs => (Aft.wiped s vs).trans (Aft.setNo (i := v) (x := none) (Aft.wiped s vs).s)
theorem wipeR_get (ρ : En) {i : Nat} {s : Sl} : ∀ {vs : List Nat}, (wipeR ρ vs)[i]? = some s → s ≠ .no → i ∉ vs ∧ ρ[i]? = some s
  | [], h, _ => ⟨by simp, h⟩
  | v :: vs, h, n => by
    have h' : ((wipeR ρ vs).set v .no)[i]? = some s := h
    rcases getElem?_set_ite h' with ⟨_, e, _⟩ | ⟨ne, e⟩
    · exact absurd e n
    · obtain ⟨h1, h2⟩ := wipeR_get ρ e n
      exact ⟨by simp [ne, h1], h2⟩
theorem wipe_get_ne (σ : L2.St) {i : Nat} : ∀ {vs : List Nat}, i ∉ vs → (wipe σ vs)[i]? = σ[i]?
  | [], _ => rfl
  | v :: vs, h => by
    show ((wipe σ vs).set v none)[i]? = σ[i]?
    rw [List.getElem?_set_ne (fun e => h (by simp [e])), wipe_get_ne σ (fun q => h (by simp [q]))]
theorem Aft.unwipe {w0 w : Ws} {σ : L2.St} {ρ : En} {vs : List Nat} (A : Aft K mg w0 w) (h : w.σ = wipe σ vs) (hρ : w.ρ = wipeR ρ vs) : Aft K mg w0 { w with σ := σ } := by
  have sl : ∀ (i : Nat) s, w.ρ[i]? = some s → s ≠ .no → w.σ[i]? = σ[i]? := fun i s e n => by
    rw [hρ] at e
    rw [h, wipe_get_ne σ (wipeR_get ρ e n).1]
  have ow : ∀ i a, OwnS { w with σ := σ } i a → OwnS w i a := fun i a ⟨ds, h1, h2⟩ => ⟨ds, h1, by rw [sl i _ h1 (by simp)]; exact h2⟩
  have s := A.s
  refine ⟨⟨s.lowG, s.lowI, s.sub, by
      have := s.ln
      rw [h, wipe_length] at this
      exact this, s.len, s.cel, s.inj, fun i x e => ?_, fun i l a h1 h2 => s.sep i l a (ow i a h1) h2, fun i j a h1 h2 => s.dis i j a (ow i a h1) (ow j a h2)⟩, A.g, A.i, A.kp, fun a q => A.nw a ?_, A.gn, A.al⟩
  · have h1 := s.slo i x e
    cases x with
    | no => trivial
    | val d => rw [sl i _ e (by simp)] at h1; exact h1
    | ml ds => rw [sl i _ e (by simp)] at h1; exact h1
    | fn => rw [sl i _ e (by simp)] at h1; exact h1
    | exv c fs => rw [sl i _ e (by simp)] at h1; exact h1
  · rcases q with q | ⟨i, q⟩
    · exact .inl q
    · exact .inr ⟨i, ow i a q⟩
theorem Aft.looseUpd {w0 w : Ws} (A : Aft K mg w0 w) {D : Addr} {o : HO} (hf : w0.H D = none) (hl : Loose w D) : Aft K mg w0 { w with H := upd w.H D o } where
  s := A.s.heap (G' := w.G) (H' := upd w.H D o) (Same.refl _) (fun b u e => by rw [upd_ne (fun q => by rw [q, hl.1] at e; cases e)]; exact A.s.sub _ _ e) fun a m => ⟨A.s.mtG m, fun u e => by rw [upd_ne (fun q : a = D => hl.2 (q ▸ m))]; exact e⟩
  g := A.g
  i := A.i
  kp := fun a u h n => by
    show upd w.H D o a = some u
    rw [upd_ne (fun q => by rw [q, hf] at h; cases h)]
    exact A.kp a u h n
  nw := A.nw
  gn := A.gn
  al := fun a h => by
    have h' : upd w.H D o a = none := h
    by_cases e : a = D
    · rw [e]; exact hf
    · rw [upd_ne e] at h'; exact A.al a h'
theorem Aft.still {w w' : Ws} (A : Aft K mg w w') {D : Addr} {o : HO} (hl : Loose w D) (h : w.H D = some o) : Loose w' D ∧ w'.H D = some o := by
  refine ⟨⟨?_, fun m => ?_⟩, A.kp D o h hl.2⟩
  · cases e : w'.G D with
    | none => rfl
    | some u =>
      rcases A.gn D (by rw [e]; simp) with q | q | q
      · exact absurd hl.1 q
      · exact absurd q hl.2
      · rw [h] at q; cases q
  · rcases A.nw D m with q | q
    · exact hl.2 q
    · rw [h] at q; cases q
theorem lcGo_isL {g : DGx} {c f : DEx} {vs : List Nat} : ∀ (ds acc : List D) (ρ : En) (st : Store) (d : D) (ρ' : En) (st' : Store), lcGo g c f vs ds acc ρ st = .ok d ρ' st' → ∃ es, d = .lst es
  | [], acc, ρ, st, d, ρ', st', h => by cases h; exact ⟨acc, rfl⟩
  | x :: ds, acc, ρ, st, d, ρ', st', h => by
    unfold lcGo at h
    split at h
    · cases h
    · split at h
      · split at h
        · exact lcGo_isL ds _ _ _ _ _ _ h
        · cases h
      · exact lcGo_isL ds _ _ _ _ _ _ h
      · cases h
theorem lcD_isL {fi : DEx} {g : DGx} {c f : DEx} {vs : List Nat} : IsL (lcD fi g c f vs) := fun ρ st d ρ' st' h => by
  unfold lcD at h
  cases e : fi ρ st with
  | ok d1 ρ1 st1 =>
    rw [e] at h
    simp only [R.bind] at h
    split at h
    · split at h
      · exact lcGo_isL _ _ _ _ _ _ _ h
      · cases h
    · cases h
  | exc x ρ1 st1 => rw [e] at h; cases h
  | bad => rw [e] at h; cases h
theorem RefI.bindO {t : TI} {f : DEx} (h : RefI K mg W t f) {w : Ws} {Q : VK} {Q1 : It → Hp → Prop} {r : D → En → Store → R} (s : Sts K mg w) (hd : ∀ d ρ st, d.iter = none → r d ρ st = .bad)
    (hP : OkO K mg W w Q ((f w.ρ w.st).bind r))
    (k : ∀ (w1 : Ws) (J : It) (d : D) (ds : List D) (gd : Gd), w1.σ = w.σ → Aft K mg w w1 → d.iter = some (ds, gd) → IterOk K mg w1 J ds gd → okG gd w1.st → OkO K mg W w Q (r d w1.ρ w1.st) → Q1 J w1.H) : t w.σ w.H Q1 := by
  refine h w Q1 s ?_
  cases e : f w.ρ w.st with
  | ok d ρ st =>
    rw [e] at hP
    cases ei : d.iter with
    | none =>
      simp only [R.bind] at hP
      rw [hd _ ρ st ei] at hP
      exact hP.elim
    | some dg =>
      obtain ⟨ds, gd⟩ := dg
      simp only [OkI, ei]
      intro w' J h1 h2 h3 h4 h5 h6
      subst h1; subst h2
      exact k w' J d ds gd h3 h4 ei h5 h6 hP
  | exc c ρ st =>
    rw [e] at hP
    exact hP
  | bad => rw [e] at hP; exact hP
theorem refO_lc {wi : TI} {is vs : List Nat} {fi : DEx} {g : DGx} {c f : DEx} (hi : RefI K mg W wi fi) (hsub : ∀ i ∈ is, i ∈ vs) :
    RefO K mg W (tLc wi (gOf K mg is g) (ttOf K mg (WF mg.b) c) (tOf K mg (WF mg.b) f) vs) (lcD fi g c f vs) := fun w Q s q => by
  refine hi.bindO s (fun d ρ st n => by simp only [n]) q fun w1 J d0 ds gd e1 a1 ei it og q1 => ?_
  simp only [ei] at q1
  have hz : ds.length ≤ sizeLine := by
    by_cases h : ds.length ≤ sizeLine
    · exact h
    · simp only [if_neg h] at q1; exact q1.elim
  simp only [if_pos hz] at q1
  obtain ⟨G0, Y, wk, hG, hY⟩ := it
  intro D hD
  have fr : w.H D = none := a1.al D hD
  have A0 := Aft.loose (o := .lst []) a1.s hD
  have L0 := a1.s.looseAt (o := .lst []) hD
  refine lc_it wk (fun i H => ∃ (w2 : Ws) (ρ2 : En) (av : List V) (ad : List DL.D), Aft K mg w1 w2 ∧ w2.σ = wipe w.σ vs ∧ w2.ρ = wipeR ρ2 vs ∧ w2.H = H ∧ Loose w2 D ∧ w2.H D = some (.lst av) ∧ Reps K mg w2.G w2.ι av ad ∧ av.length ≤ i ∧ okG gd w2.st ∧
    OkO K mg W w Q (lcGo g (chkE gd c) (chkE gd f) vs (ds.drop i) ad w2.ρ w2.st)) ?_ ?_ ?_ ?_
  · have A1 := Aft.wiped A0.s vs
    refine ⟨{ w1 with H := upd w1.H D (.lst []), ρ := wipeR w1.ρ vs, σ := wipe w1.σ vs }, w1.ρ, [], [], A0.trans A1, by rw [← e1], rfl, rfl, (A1.still L0 upd_same).1, upd_same, .nil, Nat.le_refl _, og, q1⟩
  · rintro i H _ ⟨w2, _, _, _, A, _, _, rfl, _, _, _, _, og2, _⟩
    exact hG w2 A.fz og2
  · rintro i x H H' hl ⟨w2, ρ2, av, ad, A, hσ, hρ, rfl, hL, hav, hr, hle, og2, q2⟩ y
    have hd : ds[i]? = some ds[i] := List.getElem?_eq_getElem hl
    obtain ⟨G', A3, r3⟩ := hY i w2 x H' _ hd A.fz og2 y
    have ed : ds.drop i = ds[i] :: ds.drop (i + 1) := List.drop_eq_getElem_cons hl
    rw [ed] at q2
    unfold lcGo at q2
    cases z : g ds[i] w2.ρ with
    | none => simp only [z] at q2; exact q2.elim
    | some ρ' =>
      simp only [z] at q2
      refine ⟨{ w2 with G := G', H := H' }, ds[i], ρ', hσ, rfl, A3.s, r3, z, fun σ' hw A4 => ⟨?_, ?_⟩⟩
      · have := hw vs hsub
        have e : ({ w2 with G := G', H := H' } : Ws).σ = wipe w.σ vs := hσ
        rw [this, e]
        have idem : ∀ (σ : L2.St) (us : List Nat), wipe (wipe σ us) us = wipe σ us := by
          intro σ us
          have : ∀ us' : List Nat, (∀ i ∈ us', i ∈ us) → wipe (wipe σ us') us = wipe σ us := by
            intro us'
            induction us' with
            | nil => intro _; rfl
            | cons v us' ih =>
              intro hh
              show wipe ((wipe σ us').set v none) us = _
              rw [wipe_set (hh v (by simp)), ih fun i hi => hh i (by simp [hi])]
          exact this us fun _ h => h
        exact idem _ _
      · have A5 := A3.trans A4
        have A15 := A.trans A5
        refine ⟨{ w2 with ρ := ρ', σ := σ', G := G', H := H' }, rfl, rfl, A5.s, ?_⟩
        have hwσ : wipe σ' vs = wipe w.σ vs := by
          have := hw vs hsub
          have e : ({ w2 with G := G', H := H' } : Ws).σ = wipe w.σ vs := hσ
          rw [this, e]
          have idem : ∀ (σ : L2.St) (us us' : List Nat), (∀ i ∈ us', i ∈ us) → wipe (wipe σ us') us = wipe σ us := by
            intro σ us us'
            induction us' with
            | nil => intro _; rfl
            | cons v us' ih =>
              intro hh
              show wipe ((wipe σ us').set v none) us = _
              rw [wipe_set (hh v (by simp)), ih fun i hi => hh i (by simp [hi])]
          exact idem _ _ _ fun _ h => h
        obtain ⟨L5, h5⟩ := A5.still hL hav
        show OkT K mg (WF mg.b) _ _ (c ρ' w2.st)
        cases ec : c ρ' w2.st with
        | ok d ρ6 st6 =>
          have og6 : okG gd st6 := by
            by_cases h : okG gd st6
            · exact h
            · simp only [chkE, ec, if_neg h] at q2; exact q2.elim
          simp only [chkE, ec, if_pos og6] at q2
          cases d with
          | bl b =>
            intro w6 h1 h2 h3 A6
            subst h1; subst h2
            obtain ⟨L6, h6⟩ := A6.still L5 h5
            cases b with
            | false =>
              refine iteF ?_
              have A7 := Aft.wiped A6.s vs
              exact ⟨{ w6 with ρ := wipeR w6.ρ vs, σ := wipe w6.σ vs }, w6.ρ, av, ad, (A15.trans A6).trans A7, by rw [show w6.σ = σ' from h3]; exact hwσ, rfl, rfl, (A7.still L6 h6).1, h6, hr.mono (A5.g.trans A6.g) (A5.i.trans A6.i), Nat.le_succ_of_le hle, og6, q2⟩
            | true =>
              refine iteT ?_
              refine ⟨w6, h3, rfl, A6.s, ?_⟩
              simp only at q2
              cases ef : f w6.ρ w6.st with
              | ok y' ρ8 st8 =>
                have og8 : okG gd st8 := by
                  by_cases h : okG gd st8
                  · exact h
                  · simp only [ef, if_neg h] at q2; exact q2.elim
                simp only [ef, if_pos og8] at q2
                intro w8 yv h1 h2 h3' A8 r8
                subst h1; subst h2
                obtain ⟨L8, h8⟩ := A8.still L6 h6
                refine ⟨av, h8, ?_, ?_⟩
                · have : i < ds.length := hl
                  omega
                · have A18 := A15.trans (A6.trans A8)
                  have A9 := A18.looseUpd (o := .lst (av ++ [yv])) hD L8
                  have L9 : Loose { w8 with H := upd w8.H D (.lst (av ++ [yv])) } D := L8
                  have A10 := Aft.wiped A9.s vs
                  refine ⟨{ w8 with H := upd w8.H D (.lst (av ++ [yv])), ρ := wipeR w8.ρ vs, σ := wipe w8.σ vs }, w8.ρ, av ++ [yv], ad ++ [y'], A9.trans A10, ?_, rfl, rfl, (A10.still L9 upd_same).1, upd_same, ?_, by simp; omega, og8, q2⟩
                  · show wipe w8.σ vs = _
                    rw [h3', h3]; exact hwσ
                  · exact Reps.append (hr.mono (A5.g.trans (A6.g.trans A8.g)) (A5.i.trans (A6.i.trans A8.i))) (.cons r8 .nil)
              | exc x ρ8 st8 => simp only [ef] at q2; exact q2.elim
              | bad => simp only [ef] at q2; exact q2.elim
          | _ => exact q2.elim
        | exc x ρ6 st6 => simp only [chkE, ec] at q2; exact q2.elim
        | bad => simp only [chkE, ec] at q2; exact q2.elim
  · rintro H ⟨w2, ρ2, av, ad, A, hσ, hρ, rfl, hL, hav, hr, hle, _, q2⟩
    rw [List.drop_length] at q2
    have A2 := A.unwipe hσ hρ
    refine q2 { w2 with σ := w.σ } D av rfl rfl rfl (a1.trans A2) fr ?_ hav (by omega) hr
    refine ⟨hL.1, fun m => hL.2 ?_⟩
    rcases m with m | ⟨i, es, h1, h2⟩
    · exact .inl m
    · refine .inr ⟨i, es, h1, ?_⟩
      have h1' : w2.ρ[i]? = some (.ml es) := h1
      rw [hρ] at h1'
      rw [hσ, wipe_get_ne _ (wipeR_get ρ2 h1' (by simp)).1]
      exact h2
end
end DL
namespace DL
open PySem L2
section
variable {K : PySem.W.Frag} {mg : MG} {W : WB}
theorem RefO.fz {t : TE} {f : DEx} (h : RefO K mg W t f) (hl : IsL f) : RefE K mg W t f := fun w Q s q => by
  refine h w Q s ?_
  cases e : f w.ρ w.st with
  | ok d ρ st =>
    rw [e] at q
    obtain ⟨ds, rfl⟩ := hl _ _ _ _ _ e
    intro w' a vs h1 h2 h3 A fr lo ha hz r
    have A' := A.freeze fr lo ha
    exact q { w' with G := upd w'.G a (.lst vs) } (.ref a) h1 h2 h3 A' (.lst upd_same hz (r.mono (same_upd lo.1) (LeI.refl _)))
  | exc c ρ st => rw [e] at q; exact q
  | bad => rw [e] at q; exact q
theorem OkO.mk {w w1 : Ws} {Q : VK} {ds : List D} {vs : List V} {p : Addr} (A : Aft K mg w w1) (e1 : w1.σ = w.σ) (hp : w1.H p = none) (hz : vs.length ≤ sizeLine) (r : Reps K mg w1.G w1.ι vs ds)
    (q : OkO K mg W w Q (.ok (.lst ds) w1.ρ w1.st)) : Q (.ref p) (upd w1.H p (.lst vs)) :=
  q { w1 with H := upd w1.H p (.lst vs) } p vs rfl rfl e1 (A.trans (Aft.loose A.s hp)) (A.al p hp) (A.s.looseAt hp) upd_same hz r
end
@[simp] def lstD (f : DEx) (ρ : En) (st : Store) : R := (f ρ st).bind fun d ρ st => match d with
  | .tup ds => .ok (.lst ds) ρ st
  | _ => .bad
theorem lstD_isL {f : DEx} : IsL (lstD f) := fun ρ st d ρ' st' h => by
  unfold lstD at h
  cases e : f ρ st with
  | ok d1 ρ1 st1 =>
    rw [e] at h
    cases d1 <;> first | (cases h; done) | (cases h; exact ⟨_, rfl⟩)
  | exc c ρ1 st1 => rw [e] at h; cases h
  | bad => rw [e] at h; cases h
section
variable {X : Cx} {W : WB} {e a b : Expr} {es : List Expr} {f g : DEx} {pos : Pos}
theorem DO.fz (h : DO X W e f) : DE X W e f := let ⟨⟨t, p, r⟩, l⟩ := h; ⟨t, p, r.fz l⟩
theorem do_lst (ha : DAn X W es f) (hl : es.length ≤ sizeLine := by decide) : DO X W (.List es pos) (lstD f) := by
  obtain ⟨⟨t, pt, rt⟩, hn⟩ := ha
  refine ⟨⟨_, pe_lst pt, fun w Q s q => ?_⟩, lstD_isL⟩
  refine rt.bind (P := OkO X.K (MGx X W.b) W w Q) s q (fun d ρ st n => by cases d <;> first | rfl | exact absurd rfl (n _)) (fun _ _ _ z => z) (fun z => z) fun w1 vs ds e1 a1 r1 ee q1 => ?_
  have l : vs.length ≤ sizeLine := by
    obtain ⟨ds', e', l⟩ := hn _ _ _ _ _ ee
    cases e'
    rw [r1.len, l]; exact hl
  exact ⟨l, fun p hp => OkO.mk a1 e1 hp l r1 q1⟩
@[simp] def setOD (f : DEx) (i : Nat) (ρ0 : En) (st0 : Store) : Fl := thenF f (fun d ρ st => match d with
  | .lst ds => .nx (ρ.set i (.ml ds)) st
  | _ => .bad) ρ0 st0
@[simp] def retCD (f : DEx) (ρ0 : En) (st0 : Store) : Fl := thenF f (fun d ρ st => match d with
  | .lst ds => .rt (.ref st.length) ρ (st ++ [.lst ds])
  | _ => .bad) ρ0 st0
theorem RefO.bindF {K : PySem.W.Frag} {mg : MG} {t : TE} (h : RefO K mg W t f) (hl : IsL f) {w : Ws} {E : Ends} {Q1 : VK} {r : D → En → Store → Fl} (s : Sts K mg w)
    (hP : OkF K mg W w E (match f w.ρ w.st with | .ok d ρ st => r d ρ st | .exc c ρ st => .exc c ρ st | .bad => .bad))
    (k : ∀ (w1 : Ws) (a : Addr) (vs : List V) (ds : List D), w1.σ = w.σ → Aft K mg w w1 → w.H a = none → Loose w1 a → w1.H a = some (.lst vs) → vs.length ≤ sizeLine → Reps K mg w1.G w1.ι vs ds → OkF K mg W w E (r (.lst ds) w1.ρ w1.st) → Q1 (.ref a) w1.H) : t w.σ w.H Q1 := by
  refine h w Q1 s ?_
  cases e : f w.ρ w.st with
  | ok d ρ st =>
    rw [e] at hP
    obtain ⟨ds, rfl⟩ := hl _ _ _ _ _ e
    intro w' a vs h1 h2 h3 h4 h5 h6 h7 h8 h9
    subst h1; subst h2
    exact k w' a vs ds h3 h4 h5 h6 h7 h8 h9 hP
  | exc c ρ st =>
    rw [e] at hP
    exact fun w' cls dx h1 h2 _ h4 h5 => hP w' cls dx h1 h2 h4 h5
  | bad => rw [e] at hP; exact hP
theorem refS_setO {K : PySem.W.Frag} {mg : MG} {t : TE} {i : Nat} (h : RefO K mg W t f) (hl : IsL f) : RefS K mg W (tAsg t (gName i)) (setOD f i) := fun w E s q =>
  h.bindF hl s q fun w1 a vs ds e1 A fr lo ha hz r q1 => by
    show E.nx (w.σ.set i (some (.ref a))) w1.H
    have := q1 { w1 with ρ := w1.ρ.set i (.ml ds), σ := w1.σ.set i (some (.ref a)) } rfl rfl (A.setMl fr lo ha hz r)
    rw [e1] at this; exact this
theorem cellRep {K : PySem.W.Frag} {mg : MG} {w0 w1 : Ws} (A : Aft K mg w0 w1) {a : Addr} : Rep K mg w1.G (w1.ι ++ [a]) (.ref a) (.ref w1.st.length) := .ref (by rw [A.s.len]; simp)
theorem refS_retC {K : PySem.W.Frag} {mg : MG} {t : TE} (h : RefO K mg W t f) (hl : IsL f) : RefS K mg W (tRet t) (retCD f) := fun w E s q =>
  h.bindF hl s q fun w1 a vs ds e1 A fr lo ha hz r q1 => by
    have A1 := A.newCell fr lo ha hz r
    exact q1 { w1 with ι := w1.ι ++ [a], st := w1.st ++ [.lst ds] } (.ref a) rfl rfl A1 (cellRep A)
theorem ds_setO {i : Nat} {x : Str} {pos' : Pos} (hN : X.N.Nodup) (hi : X.N[i]? = some x) (hx : Loc X.env.scope x) (he : DO X W e f) (hs : swapsWith e (some (.Name x pos')) pos.line X.env = pure false := by rfl) (hf : X.fn x = true ∨ X.env.scope.names.lookup x = some .local := by first | exact .inl rfl | exact .inr rfl | assumption) :
    DS X W (.Assign [.Name x pos'] e pos) (setOD f i) := let ⟨⟨_, p, r⟩, l⟩ := he; ⟨_, ps_set hN hi hx p hs hf, refS_setO r l⟩
theorem ds_retC (he : DO X W e f) : DS X W (.Return (some e) pos) (retCD f) := let ⟨⟨_, p, r⟩, l⟩ := he; ⟨_, ps_ret p, refS_retC r l⟩
theorem Aft.fzMl {K : PySem.W.Frag} {mg : MG} {w : Ws} (s : Sts K mg w) {i : Nat} {a : Addr} {ds : List D} {vs : List V} (h0 : w.ρ[i]? = some (.ml ds)) (h1 : w.σ[i]? = some (some (.ref a))) (ha : w.H a = some (.lst vs)) (hz : vs.length ≤ sizeLine) (r : Reps K mg w.G w.ι vs ds) :
    Aft K mg w { w with ρ := w.ρ.set i (.val (.lst ds)), G := upd w.G a (.lst vs) } := by
  have own : OwnS w i a := ⟨ds, h0, h1⟩
  have ga : w.G a = none := s.mtG own.mt
  have sg := same_upd (o := .lst vs) ga
  have ow : ∀ j b, OwnS { w with ρ := w.ρ.set i (.val (.lst ds)), G := upd w.G a (.lst vs) } j b → OwnS w j b ∧ b ≠ a := fun j b h => by
    obtain ⟨es, q1, q2⟩ := h
    rcases getElem?_set_ite q1 with ⟨_, e, _⟩ | ⟨ne, e⟩
    · cases e
    · refine ⟨⟨es, e, q2⟩, fun z => ne (s.dis j i b ⟨es, e, q2⟩ (z ▸ own))⟩
  have lv : ∀ l b, Liv w l b → b ≠ a := fun l b h z => s.sep i l a own (z ▸ h)
  have sub' : Same (upd w.G a (.lst vs)) w.H := fun b u e => by
    by_cases h : b = a
    · subst h; rw [upd_same] at e; rw [ha]; exact e
    · rw [upd_ne h] at e; exact s.sub _ _ e
  refine ⟨⟨s.lowG.trans sg, s.lowI, sub', by simpa using s.ln, s.len, fun l c b q1 q2 => ?_, s.inj, fun j x h => ?_, fun j l b q1 q2 => s.sep j l b (ow j b q1).1 q2, fun j k b q1 q2 => s.dis j k b (ow j b q1).1 (ow k b q2).1⟩, sg, LeI.refl _, fun _ _ h _ => h, fun b h => ?_, fun b h => ?_, fun _ h => h⟩
  · exact (s.cel l c b q1 q2).keep (w' := { w with ρ := w.ρ.set i (.val (.lst ds)), G := upd w.G a (.lst vs) }) sg (LeI.refl _) (fun n => ⟨by
      show upd w.G a (.lst vs) b = none
      rw [upd_ne (lv l b ⟨c, q1, n, q2⟩)]; exact s.mtG (.inl ⟨l, c, q1, n, q2⟩), fun _ e => e⟩) sub'
  · rcases getElem?_set_ite h with ⟨e, e2, _⟩ | ⟨ne, e⟩
    · subst e; subst e2
      exact ⟨.ref a, h1, .lst upd_same hz (r.mono sg (LeI.refl _))⟩
    · refine (s.slo j x e).keep (w' := { w with ρ := w.ρ.set i (.val (.lst ds)), G := upd w.G a (.lst vs) }) sg (LeI.refl _) fun b ⟨es, e3⟩ h2 => ?_
      have o2 : OwnS w j b := ⟨es, by rw [e, e3], h2⟩
      refine ⟨?_, fun _ e => e⟩
      show upd w.G a (.lst vs) b = none
      rw [upd_ne (fun z : b = a => ne (s.dis j i b o2 (z ▸ own)))]
      exact s.mtG o2.mt
  · rcases h with h | ⟨j, h⟩
    · exact .inl (.inl h)
    · exact .inl (.inr ⟨j, (ow j b h).1⟩)
  · by_cases z : b = a
    · subst z; exact .inr (.inl own.mt)
    · have h' : upd w.G a (.lst vs) b ≠ none := h
      rw [upd_ne z] at h'; exact .inl h'
@[simp] def frzE (i : Nat) (ρ : En) (st : Store) : R := match ρ[i]? with
  | some (.ml ds) => .ok (.lst ds) (ρ.set i (.val (.lst ds))) st
  | some (.val d) => .ok d ρ st
  | _ => .bad
theorem ref_frz {K : PySem.W.Frag} {mg : MG} (i : Nat) : RefE K mg W (tVar i) (frzE i) := fun w Q s h => by
  unfold frzE at h
  split at h
  · rename_i ds e
    obtain ⟨a, vs, e1, e2, e3, e4, e5⟩ := s.slo i _ e
    have A := Aft.fzMl s e e1 e3 e4 e5
    exact ⟨_, e1, h { w with ρ := w.ρ.set i (.val (.lst ds)), G := upd w.G a (.lst vs) } (.ref a) rfl rfl rfl A (.lst upd_same e4 (e5.mono A.g (LeI.refl _)))⟩
  · rename_i d e
    obtain ⟨v, e2, r⟩ := s.slo i _ e
    exact ⟨v, e2, h w v rfl rfl rfl (Aft.refl s) r⟩
  · exact h.elim
theorem de_frz (i : Nat) {x : Str} (hN : X.N[i]? = some x := by rfl) (hv : Vis X.env.scope x := by first | exact Or.inl rfl | exact Or.inr (Or.inl rfl) | exact Or.inr (Or.inr rfl)) (hd : (x == ("__debug__" : Str)) = false := by decide)
    (hcd : (x == ("__classdict__" : Str)) = false := by decide) : DE X W (.Name x pos) (frzE i) := ⟨_, pv i hN hv hd hcd, ref_frz i⟩
end
section
variable {X : Cx} {W : WB} {elt tg iter : Expr} {ifs : List Expr} {scope : Scope} {own : List (Str × Nat)} {pos spos : Pos} {fi c f : DEx} {g : DGx} {is : List Nat}
theorem do_lc (hc : X.calm = true) (hN : X.N.Nodup) (hi : DI X W tg iter fi) (ok : BlkOk X.N X.env.scope scope own) (hsub : ∀ i ∈ is, i ∈ own.map (·.2))
    (hg : ∀ (s : Shared) (H : Hp) (C : Addr) (cl : List (Str × Addr)) (fp : List Addr), DG (X.blk s H scope (PySem.compEnvC scope cl C X.env) fp) tg is g)
    (ht : ∀ (s : Shared) (H : Hp) (C : Addr) (cl : List (Str × Addr)) (fp : List Addr), DTs (X.blk s H scope (PySem.compEnvC scope cl C X.env) fp) W.b ifs c)
    (he : ∀ (s : Shared) (H : Hp) (C : Addr) (cl : List (Str × Addr)) (fp : List Addr), DE (X.blk s H scope (PySem.compEnvC scope cl C X.env) fp) (WF W.b) elt f) (hs : ∀ x, foldedSetIterable iter X.env x = pure x := by intro _; rfl) :
    DO X W (.ListComp elt [⟨tg, iter, ifs, 0⟩] scope pos) (lcD fi g c f (own.map (·.2))) := by
  obtain ⟨wi, pi, ri⟩ := hi
  exact ⟨⟨_, pe_lc hc hN pi ok (fun s H C cl fp => (hg s H C cl fp).pg W.b) (fun s H C cl fp => (ht s H C cl fp).pts) (fun s H C cl fp => (he s H C cl fp).pe) hs, refO_lc ri hsub⟩, lcD_isL⟩
theorem ps_lc {i : Nat} {y : Str} {py : Pos} (hc : X.calm = true) (hN : X.N.Nodup) (hy : X.N[i]? = some y) (hyl : X.env.scope.names.lookup y = some .local)
    (hsw : swapsWith (.ListComp elt [⟨tg, iter, ifs, 0⟩] scope pos) (some (.Name y py)) spos.line X.env = pure true) (hi : DI X W tg iter fi) (ok : BlkOk X.N X.env.scope scope own) (hsub : ∀ i ∈ is, i ∈ own.map (·.2))
    (hg : ∀ (s : Shared) (H : Hp) (C : Addr) (cl : List (Str × Addr)) (fp : List Addr), DG (X.blk s H scope (PySem.compEnvC scope cl C X.env) fp) tg is g)
    (ht : ∀ (s : Shared) (H : Hp) (C : Addr) (cl : List (Str × Addr)) (fp : List Addr), DTs (X.blk s H scope (PySem.compEnvC scope cl C X.env) fp) W.b ifs c)
    (he : ∀ (s : Shared) (H : Hp) (C : Addr) (cl : List (Str × Addr)) (fp : List Addr), DE (X.blk s H scope (PySem.compEnvC scope cl C X.env) fp) (WF W.b) elt f) (hs : ∀ x, foldedSetIterable iter X.env x = pure x := by intro _; rfl) :
    ∃ t, PS X (.Assign [.Name y py] (.ListComp elt [⟨tg, iter, ifs, 0⟩] scope pos) spos) (tAsg t (gName i)) ∧ RefO X.K (MGx X W.b) W t (lcD fi g c f (own.map (·.2))) := by
  obtain ⟨wi, pi, ri⟩ := hi
  exact ⟨_, ps_setLc hc hN hy hyl hsw pi ok (fun s H C cl fp => (hg s H C cl fp).pg W.b) (fun s H C cl fp => (ht s H C cl fp).pts) (fun s H C cl fp => (he s H C cl fp).pe) hs, refO_lc ri hsub⟩
theorem ds_lcF {i : Nat} {st : Stmt} (h : ∃ t, PS X st (tAsg t (gName i)) ∧ RefO X.K (MGx X W.b) W t (lcD fi g c f (own.map (·.2)))) : DS X W st (setD (lcD fi g c f (own.map (·.2))) (gN i)) :=
  let ⟨_, p, r⟩ := h; ⟨_, p, refS_set (r.fz lcD_isL) (refG_name i)⟩
end
end DL
namespace DL
open PySem L2
theorem pi_or {X : Cx} {tg e : Expr} {t u : TI} (h : PI X tg e t) (h' : PI X tg e u) : PI X tg e (fun σ H R => t σ H R ∨ u σ H R) := by
  constructor
  intro pins s σ H R I q
  rcases q with q | q
  · exact h.run pins s σ H R I q
  · exact h'.run pins s σ H R I q
@[simp] def D.items : D → Option (List D)
  | .lst ds => some ds
  | .tup ds => some ds
  | .lsk ds => some ds
  | .str z => some (z.cps.toList.map fun c => .str ⟨#[c]⟩)
  | _ => none
@[simp] def D.walk (st : Store) : D → Option D
  | .ref l => match st[l]? with
    | some (.lst ds) => some (.tup [.lst ds, .ref l, .lst ds])
    | _ => none
  | d => d.items.map .lst
@[simp] def itD (f : DEx) (ρ : En) (st : Store) : R := (f ρ st).bind fun d ρ st => match d.walk st with
  | some ds => .ok ds ρ st
  | none => .bad
section
variable {K : PySem.W.Frag} {mg : MG} {W : WB}
theorem iter_list {w : Ws} (s : Sts K mg w) {a : Addr} {vs : List V} {ds : List D} (h : SqL K w.G a vs) (r : Reps K mg w.G w.ι vs ds) : IterOk K mg w (Itl K a) ds none := by
  refine ⟨_, _, by rw [← r.len]; exact walk_list (xs := vs), fun w2 A _ => SqL.mono A.s.sub (SqL.mono A.g h), ?_⟩
  rintro i w2 x H' d hd A _ ⟨rfl, hx⟩
  obtain ⟨d', e, rp⟩ := r.getV hx
  rw [hd] at e; cases e
  exact ⟨w2.G, Aft.refl A.s, rp.mono A.g A.i⟩
theorem iter_tup {w : Ws} (s : Sts K mg w) {a : Addr} {vs : List V} {ds : List D} (h : SqT K w.G a vs) (r : Reps K mg w.G w.ι vs ds) : IterOk K mg w (Itt K a) ds none := by
  refine ⟨_, _, by rw [← r.len]; exact walk_tup (xs := vs), fun w2 A _ => SqT.mono A.s.sub (SqT.mono A.g h), ?_⟩
  rintro i w2 x H' d hd A _ ⟨rfl, hx⟩
  obtain ⟨d', e, rp⟩ := r.getV hx
  rw [hd] at e; cases e
  exact ⟨w2.G, Aft.refl A.s, rp.mono A.g A.i⟩
theorem iter_str {w : Ws} (s : Sts K mg w) {z : Str} : IterOk K mg w (Its z) (z.cps.toList.map fun c => .str ⟨#[c]⟩) none := by
  refine ⟨_, _, by simpa using walk_str (z := z), fun _ _ _ => trivial, ?_⟩
  rintro i w2 x H' d hd A _ ⟨rfl, c, hc, rfl⟩
  rw [List.getElem?_map, Array.getElem?_toList, hc] at hd
  cases hd
  exact ⟨w2.G, Aft.refl A.s, .str _⟩
theorem walk_cell {a : Addr} {n : Nat} : Walk (Itl K a) n (fun H => ∃ vs, SqL K H a vs ∧ vs.length = n) (fun i H x H' => H' = H ∧ ∀ xs, SqL K H a xs → xs[i]? = some x) :=
  ⟨fun i _ hi ⟨xs, q, e⟩ => ⟨xs, xs[i]'(by omega), q, by simp [show i < xs.length by omega]⟩, fun _ ⟨xs, q, e⟩ => ⟨xs, q, by omega⟩, fun _ _ _ _ _ q y => y⟩
theorem iter_cell {w : Ws} (s : Sts K mg w) {a : Addr} {l : Nat} {ds : List D} (hi : w.ι[l]? = some a) : IterOk K mg w (Itl K a) ds (some (l, ds)) := by
  refine ⟨_, _, walk_cell, fun w2 F og => ?_, ?_⟩
  · obtain ⟨_, vs, h, _, r⟩ := F.s.cel l _ a og (F.i _ _ hi)
    exact ⟨vs, SqL.of h, r.len⟩
  · rintro i w2 x H' d hd F og ⟨rfl, hx⟩
    obtain ⟨_, vs, h, _, r⟩ := F.s.cel l _ a og (F.i _ _ hi)
    obtain ⟨d', e, rp⟩ := r.getV (hx vs (SqL.of h))
    rw [hd] at e; cases e
    exact ⟨w2.G, Aft.refl F.s, rp⟩
def iSeq (K : PySem.W.Frag) (te : TE) : TI := fun σ H R => iList K te σ H R ∨ iTup K te σ H R ∨ iStr te σ H R
theorem refI_seq {te : TE} {f : DEx} (h : RefE K mg W te f) : RefI K mg W (iSeq K te) (itD f) := fun w Q s q => by
  unfold itD at q
  cases e : f w.ρ w.st with
  | ok d ρ st =>
    rw [e] at q
    simp only [R.bind] at q
    cases d with
    | lst ds =>
      refine .inl (h w _ s ?_)
      rw [e]
      intro w' v h1 h2 h3 A r
      cases r with
      | lst hs hl rs => exact ⟨_, rfl, ⟨_, SqL.of (A.s.sub _ _ hs)⟩, q w' _ h1 h2 h3 A (iter_list A.s (SqL.of hs) rs) trivial⟩
    | lsk ds =>
      refine .inl (h w _ s ?_)
      rw [e]
      intro w' v h1 h2 h3 A r
      cases r with
      | lsk hs hl rs => exact ⟨_, rfl, ⟨_, SqL.mono A.s.sub hs⟩, q w' _ h1 h2 h3 A (iter_list A.s hs rs) trivial⟩
    | tup ds =>
      refine .inr (.inl (h w _ s ?_))
      rw [e]
      intro w' v h1 h2 h3 A r
      cases r with
      | tup hs hl rs => exact ⟨_, rfl, ⟨_, SqT.mono A.s.sub hs⟩, q w' _ h1 h2 h3 A (iter_tup A.s hs rs) trivial⟩
    | str z =>
      refine .inr (.inr (h w _ s ?_))
      rw [e]
      intro w' v h1 h2 h3 A r
      exact ⟨z, r.str_inv, q w' _ h1 h2 h3 A (iter_str A.s) trivial⟩
    | ref l =>
      simp only [D.walk] at q
      cases hst : st[l]? with
      | none => rw [hst] at q; exact q.elim
      | some c =>
        cases c with
        | lst ds =>
          rw [hst] at q
          refine .inl (h w _ s ?_)
          rw [e]
          intro w' v h1 h2 h3 A r
          cases r with
          | ref hi =>
            rename_i a
            obtain ⟨_, vs, hh, _, _⟩ := A.s.cel l _ a (by rw [h2]; exact hst) hi
            exact ⟨_, rfl, ⟨_, SqL.of hh⟩, q w' _ h1 h2 h3 A (iter_cell A.s hi) hst⟩
        | _ => rw [hst] at q; exact q.elim
    | _ => exact q.elim
  | exc c ρ st =>
    refine .inl (h w _ s ?_)
    rw [e] at q ⊢
    exact q
  | bad => rw [e] at q; exact q.elim
end
section
variable {X : Cx} {W : WB} {tg e e2 : Expr} {f f2 : DEx} {p pos : Pos}
theorem di_seq (h : DE X W e f) : DI X W tg e (itD f) := let ⟨_, pe, r⟩ := h; ⟨_, pi_or (pi_list pe) (pi_or (pi_tup pe) (pi_str pe)), refI_seq r⟩
def rngItems (lo : Int) (n : Nat) : List D := (List.range n).map fun (i : Nat) => .int (lo + (i : Int))
theorem rngItems_get {lo : Int} {n i : Nat} {d : D} (h : (rngItems lo n)[i]? = some d) : d = .int (lo + (i : Int)) := by
  unfold rngItems at h
  rw [List.getElem?_map] at h
  cases e : (List.range n)[i]? with
  | none => rw [e] at h; cases h
  | some j =>
    rw [e] at h; cases h
    have := (List.getElem?_eq_some_iff.mp e).2
    simp at this; rw [this]
theorem iter_rng {K : PySem.W.Frag} {mg : MG} {w : Ws} {lo : Int} {n : Nat} : IterOk K mg w (Itr lo n) (rngItems lo n) none := by
  refine ⟨_, _, by simpa [rngItems] using walk_range (lo := lo) (n := n), fun _ _ _ => trivial, ?_⟩
  rintro i w2 x H' d hd A _ ⟨rfl, rfl⟩
  rw [rngItems_get hd]
  exact ⟨w2.G, Aft.refl A.s, .int _⟩
def Rg (j : Int) : Prop := -(2 ^ 62) ≤ j ∧ j < 2 ^ 62
noncomputable instance (j : Int) : Decidable (Rg j) := Classical.propDecidable _
theorem Rg.of {k : Int} (h1 : -1000000 ≤ k) (h2 : k ≤ 1000000) : Rg k := ⟨by omega, by omega⟩
def Rs (j : Int) : Prop := -(2 ^ 63) ≤ j ∧ j < 2 ^ 63
noncomputable instance (j : Int) : Decidable (Rs j) := Classical.propDecidable _
theorem Rs.of {k : Int} (h1 : -1000000 ≤ k) (h2 : k ≤ 1000000) : Rs k := ⟨by omega, by omega⟩
@[simp] noncomputable def rng1 (f : DEx) (ρ : En) (st : Store) : R := (f ρ st).bind fun d ρ st => match d with
  | .tup [.int j] => if Rg j then .ok (.lst (rngItems 0 j.toNat)) ρ st else .bad
  | _ => .bad
@[simp] noncomputable def rng2 (f : DEx) (ρ : En) (st : Store) : R := (f ρ st).bind fun d ρ st => match d with
  | .tup [.int i, .int j] => if Rg i ∧ Rg j then .ok (.lst (rngItems i (j - i).toNat)) ρ st else .bad
  | _ => .bad
theorem RefA.bindI {K : PySem.W.Frag} {mg : MG} {t : TA} (h : RefA K mg W t f) {w : Ws} {Q : It → Hp → Prop} {Q1 : List V → Hp → Prop} {r : D → En → Store → R} (s : Sts K mg w) (hP : OkI K mg W w Q ((f w.ρ w.st).bind r)) (hd : ∀ d ρ st, (∀ b, d ≠ .tup b) → r d ρ st = .bad)
    (k : ∀ (w1 : Ws) (vs : List V) (ds : List D), w1.σ = w.σ → Aft K mg w w1 → Reps K mg w1.G w1.ι vs ds → OkI K mg W w Q (r (.tup ds) w1.ρ w1.st) → Q1 vs w1.H) : t w.σ w.H Q1 :=
  h.bind (P := OkI K mg W w Q) s hP hd (fun _ _ _ z => z) (fun z => z) fun w1 vs ds e A r _ q => k w1 vs ds e A r q
theorem Reps.inv1 {K : PySem.W.Frag} {mg : MG} {G : Hp} {ι : List Addr} {vs : List V} {d : D} (h : Reps K mg G ι vs [d]) : ∃ v, vs = [v] ∧ Rep K mg G ι v d := by
  cases h with
  | cons r rs => cases rs; exact ⟨_, rfl, r⟩
theorem Reps.inv2 {K : PySem.W.Frag} {mg : MG} {G : Hp} {ι : List Addr} {vs : List V} {d d' : D} (h : Reps K mg G ι vs [d, d']) : ∃ v v', vs = [v, v'] ∧ Rep K mg G ι v d ∧ Rep K mg G ι v' d' := by
  cases h with
  | cons r rs =>
    obtain ⟨v', rfl, r'⟩ := rs.inv1
    exact ⟨_, _, rfl, r, r'⟩
theorem di_range1 (hg : Gl X "range") (hm : X.mg "range" = none) (ha : DAn X W [e] f) (hs : starEach [e] X.env = [(false, eval e X.env)] := by rfl) : DI X W tg (.Call (.Name "range" p) [e] [] pos) (rng1 f) := by
  obtain ⟨⟨t, pt, rt⟩, _⟩ := ha
  refine ⟨_, pi_range1 hg hm pt hs, fun w Q s q => ?_⟩
  refine rt.bindI s q (fun d ρ st n => by cases d <;> first | rfl | exact absurd rfl (n _)) fun w1 vs ds e1 A r q1 => ?_
  split at q1
  · rename_i j hj
    cases hj
    split at q1
    · rename_i hh
      obtain ⟨v, rfl, rv⟩ := r.inv1
      exact ⟨j, by rw [rv.int_inv], hh.1, hh.2, q1 w1 _ rfl rfl e1 A iter_rng trivial⟩
    · exact q1.elim
  · exact q1.elim
theorem di_range2 (hg : Gl X "range") (hm : X.mg "range" = none) (ha : DAn X W [e, e2] f) (hs : starEach [e, e2] X.env = [(false, eval e X.env), (false, eval e2 X.env)] := by rfl) (hs2 : starEach [e2] X.env = [(false, eval e2 X.env)] := by rfl) : DI X W tg (.Call (.Name "range" p) [e, e2] [] pos) (rng2 f) := by
  obtain ⟨⟨t, pt, rt⟩, _⟩ := ha
  refine ⟨_, pi_range2 hg hm pt hs hs2, fun w Q s q => ?_⟩
  refine rt.bindI s q (fun d ρ st n => by cases d <;> first | rfl | exact absurd rfl (n _)) fun w1 vs ds e1 A r q1 => ?_
  split at q1
  · rename_i i j hj
    cases hj
    split at q1
    · rename_i hh
      obtain ⟨v, v', rfl, rv, rv'⟩ := r.inv2
      exact ⟨i, j, by rw [rv.int_inv, rv'.int_inv], ⟨hh.1.1, hh.1.2, hh.2.1, hh.2.2⟩, q1 w1 _ rfl rfl e1 A iter_rng trivial⟩
    · exact q1.elim
  · exact q1.elim
theorem iter_pair {K : PySem.W.Frag} {mg : MG} {w : Ws} {J : It} {n : Nat} {Gd : Hp → Prop} {xs ys : Nat → Option V} {ds : List D} (wk : Walk J n Gd (YPair xs ys)) (hn : n = ds.length) (hG : ∀ w2, Frz K mg w w2 → Gd w2.H)
    (h : ∀ i d, ds[i]? = some d → ∃ d1 d2, d = .tup [d1, d2] ∧ (∀ v, xs i = some v → Rep K mg w.G w.ι v d1) ∧ (∀ v, ys i = some v → Rep K mg w.G w.ι v d2)) : IterOk K mg w J ds none := by
  subst hn
  refine ⟨_, _, wk, fun w2 F _ => hG w2 F, ?_⟩
  rintro i w2 x H' d hd A _ ⟨T, v1, v2, rfl, hT, rfl, h1, h2⟩
  obtain ⟨d1, d2, rfl, r1, r2⟩ := h i d hd
  have A' := Aft.alloc (o := .tup [v1, v2]) A.s hT
  refine ⟨_, A', .tup (.inl (.inl upd_same)) (show 2 ≤ sizeLine by decide) ?_⟩
  exact .cons (((r1 v1 h1).mono A.g A.i).mono A'.g A'.i) (.cons (((r2 v2 h2).mono A.g A.i).mono A'.g A'.i) .nil)
def enumItems (ds : List D) : List D := ds.zipIdx.map fun p => .tup [.int (p.2 : Int), p.1]
@[simp] def enumD (f : DEx) (ρ : En) (st : Store) : R := (f ρ st).bind fun d ρ st => match d with
  | .tup [.lst ds] => .ok (.lst (enumItems ds)) ρ st
  | .tup [.ref l] => (match st[l]? with
    | some (.lst ds) => .ok (.tup [.lst (enumItems ds), .ref l, .lst ds]) ρ st
    | _ => .bad)
  | _ => .bad
theorem enumItems_get {ds : List D} {i : Nat} {d : D} (h : (enumItems ds)[i]? = some d) : ∃ x, ds[i]? = some x ∧ d = .tup [.int (i : Int), x] := by
  unfold enumItems at h
  rw [List.getElem?_map, List.getElem?_zipIdx] at h
  cases e : ds[i]? with
  | none => rw [e] at h; cases h
  | some x => rw [e] at h; cases h; exact ⟨x, rfl, by simp⟩
theorem walk_enumC {K : PySem.W.Frag} {a : Addr} {n : Nat} : Walk (Ite K a) n (fun H => ∃ vs, SqL K H a vs ∧ vs.length = n) (fun i H v H' => ∃ T x, v = .ref T ∧ H T = none ∧ H' = upd H T (.tup [.int (i : Nat), x]) ∧ ∀ xs, SqL K H a xs → xs[i]? = some x) := by
  refine ⟨fun i _ hi ⟨xs, q, e⟩ => ⟨xs, xs[i]'(by omega), q, by simp [show i < xs.length by omega]⟩, fun _ ⟨xs, q, e⟩ => ⟨xs, q, by omega⟩, fun i H v H' _ q y => ?_⟩
  obtain ⟨T, x, h1, h2, h3, h4⟩ := y
  exact ⟨T, x, h1, h2, h3, h4⟩
theorem di_enum {elts : List Expr} {kk : Nat} {tpos : Pos} (hg : Gl X "enumerate") (hm : X.mg "enumerate" = none) (ha : DAn X W [e] f) (hs : starEach [e] X.env = [(false, eval e X.env)] := by rfl) : DI X W (.Tuple elts kk tpos) (.Call (.Name "enumerate" p) [e] [] pos) (enumD f) := by
  obtain ⟨⟨t, pt, rt⟩, _⟩ := ha
  refine ⟨_, pi_enum hg hm pt hs, fun w Q s q => ?_⟩
  refine rt.bindI s q (fun d ρ st n => by cases d <;> first | rfl | exact absurd rfl (n _)) fun w1 vs ds e1 A r q1 => ?_
  split at q1
  · rename_i ds' hj
    cases hj
    obtain ⟨v, rfl, rv⟩ := r.inv1
    cases rv with
    | lst hs hl rs =>
      refine ⟨_, _, rfl, SqL.of (A.s.sub _ _ hs), q1 w1 _ rfl rfl e1 A ?_ trivial⟩
      refine iter_pair walk_enum (by simp [enumItems, rs.len]) (fun w2 A2 => SqL.of (A2.s.sub _ _ (A2.g _ _ hs))) fun i d hd => ?_
      obtain ⟨x, hx, rfl⟩ := enumItems_get hd
      refine ⟨_, _, rfl, fun v h => by cases h; exact .int _, fun v h => ?_⟩
      obtain ⟨d', e', rp⟩ := rs.getV h
      rw [hx] at e'; cases e'; exact rp
  · rename_i l hj
    cases hj
    obtain ⟨v, rfl, rv⟩ := r.inv1
    cases rv with
    | ref hi =>
      rename_i a
      split at q1
      · rename_i ds hst
        obtain ⟨_, vs, hh, _, _⟩ := A.s.cel l _ a hst hi
        refine ⟨_, _, rfl, SqL.of hh, q1 w1 _ rfl rfl e1 A ?_ hst⟩
        refine ⟨_, _, walk_enumC (n := (enumItems ds).length), fun w2 F og => ?_, ?_⟩
        · obtain ⟨_, vs, h, _, r⟩ := F.s.cel l _ a og (F.i _ _ hi)
          exact ⟨vs, SqL.of h, by simp [enumItems, r.len]⟩
        · rintro i w2 x H' d hd F og ⟨T, y, rfl, hT, rfl, hy⟩
          obtain ⟨_, vs, h, _, r⟩ := F.s.cel l _ a og (F.i _ _ hi)
          obtain ⟨z, hz, rfl⟩ := enumItems_get hd
          obtain ⟨d', e', rp⟩ := r.getV (hy vs (SqL.of h))
          rw [hz] at e'; cases e'
          have A' := Aft.alloc (o := .tup [.int (i : Nat), y]) F.s hT
          refine ⟨_, A', .tup (.inl (.inl upd_same)) (show 2 ≤ sizeLine by decide) ?_⟩
          exact .cons (.int _) (.cons (rp.mono A'.g A'.i) .nil)
      · exact q1.elim
  · exact q1.elim
end
end DL
namespace DL
open PySem L2
def AnsC (K : PySem.W.Frag) (mg : MG) (r : List V → Hp → VK → Prop) (p : D → Option D) : Prop :=
  ∀ (w : Ws) (x : V) (d z : D) (Q : VK), Sts K mg w → RepV K mg w x d → p d = some z → (∀ v, (∀ G ι, Rep K mg G ι v z) → Q v w.H) → r [x] w.H Q
def AnsC2 (K : PySem.W.Frag) (mg : MG) (r : List V → Hp → VK → Prop) (p : D → D → Option D) : Prop :=
  ∀ (w : Ws) (x y : V) (d e z : D) (Q : VK), Sts K mg w → RepV K mg w x d → RepV K mg w y e → p d e = some z → (∀ v, (∀ G ι, Rep K mg G ι v z) → Q v w.H) → r [x, y] w.H Q
section
variable {X : Cx} {W : WB} {e e2 : Expr} {f g : DEx} {q : DPx} {p pos : Pos} {x : Str} {id T : String} {r : List V → Hp → VK → Prop} {pp : D → Option D} {p2 : D → D → Option D}
theorem de_b1 (hc : CallR X (.builtin id) r) (hr : AnsC X.K (MGx X W.b) r pp) (hg : Gl X x) (hm : X.mg x = none) (hv : bootBuiltins x = some (.builtin id)) (ha : DV X W e f) (hn : x ≠ "__name__" := by decide) (hdb : (x == ("__debug__" : Str)) = false := by decide)
    (he : starEach [e] X.env = (false, eval e X.env) :: starEach [] X.env := by rfl) (hpl : (backTo pos (starEach [] X.env)).any (·.1) = false := by rfl) : DE X W (.Call (.Name x p) [e] [] pos) (lift1 pp f) := by
  obtain ⟨te, pe, re⟩ := ha
  refine ⟨_, pe_callB hc hg hm hv (pa_cons pe pa_nil he) hn hdb he hpl, fun w Q s h => ?_⟩
  refine re.bindR (Q := Q) s h fun w1 x d s1 e1 a1 r1 h1 => ?_
  cases z : pp d with
  | none => simp only [z] at h1; exact h1.elim
  | some y =>
    simp only [z] at h1
    exact hr w1 x d y Q s1 r1 z fun v rv => h1 w1 v rfl rfl rfl (Aft.refl s1) (rv _ _)
theorem de_t1 (hc : CallR X (.type T) r) (hr : AnsC X.K (MGx X W.b) r pp) (hg : Gl X x) (hm : X.mg x = none) (hv : bootBuiltins x = some (.type T)) (ha : DV X W e f) (hn : x ≠ "__name__" := by decide) (hdb : (x == ("__debug__" : Str)) = false := by decide)
    (he : starEach [e] X.env = (false, eval e X.env) :: starEach [] X.env := by rfl) (hpl : (backTo pos (starEach [] X.env)).any (·.1) = false := by rfl) : DE X W (.Call (.Name x p) [e] [] pos) (lift1 pp f) := by
  obtain ⟨te, pe, re⟩ := ha
  refine ⟨_, pe_callTy hc hg hm hv (pa_cons pe pa_nil he) hn hdb he hpl, fun w Q s h => ?_⟩
  refine re.bindR (Q := Q) s h fun w1 x d s1 e1 a1 r1 h1 => ?_
  cases z : pp d with
  | none => simp only [z] at h1; exact h1.elim
  | some y =>
    simp only [z] at h1
    exact hr w1 x d y Q s1 r1 z fun v rv => h1 w1 v rfl rfl rfl (Aft.refl s1) (rv _ _)
theorem de_b2 (hc : CallR X (.builtin id) r) (hr : AnsC2 X.K (MGx X W.b) r p2) (hg : Gl X x) (hm : X.mg x = none) (hv : bootBuiltins x = some (.builtin id)) (ha : DE X W e f) (hb : DV X W e2 g) (hn : x ≠ "__name__" := by decide) (hdb : (x == ("__debug__" : Str)) = false := by decide)
    (he : starEach [e, e2] X.env = (false, eval e X.env) :: starEach [e2] X.env := by rfl) (he2 : starEach [e2] X.env = (false, eval e2 X.env) :: starEach [] X.env := by rfl) (hpl : (backTo pos (starEach [e2] X.env)).any (·.1) = false := by rfl) : DE X W (.Call (.Name x p) [e, e2] [] pos) (lift2 p2 f g) := by
  obtain ⟨te, pe, re⟩ := ha
  obtain ⟨te2, pe2, re2⟩ := hb
  refine ⟨_, pe_callB hc hg hm hv (pa_cons pe (pa_cons pe2 pa_nil he2) he) hn hdb he hpl, fun w Q s h => ?_⟩
  refine re.bindR (Q := Q) s h fun w1 x d s1 e1 a1 r1 h1 => ?_
  show te2 w.σ w1.H _
  rw [← e1]
  refine re2.bindR (Q := Q) s1 h1 fun w2 y e' s2 e2 a2 r2 h2 => ?_
  cases z : p2 d e' with
  | none => simp only [z] at h2; exact h2.elim
  | some y' =>
    simp only [z] at h2
    exact hr w2 x y d e' y' Q s2 (.inl (r1.mono a2.g a2.i)) r2 z fun v rv => h2 w2 v rfl rfl rfl (Aft.refl s2) (rv _ _)
end
@[simp] def pLen : D → Option D
  | .str z => if z.length ≤ sizeLine then some (.int z.length) else none
  | .lst ds => some (.int ds.length)
  | .lsk ds => some (.int ds.length)
  | .tup ds => some (.int ds.length)
  | _ => none
@[simp] def pAbs : D → Option D
  | .int i => some (.int (if i < 0 then -i else i))
  | _ => none
@[simp] def pMax : D → D → Option D
  | .int i, .int j => some (.int (if j > i then j else i))
  | _, _ => none
@[simp] def pMin : D → D → Option D
  | .int i, .int j => some (.int (if j < i then j else i))
  | _, _ => none
@[simp] def bools : List D → Option (List Bool)
  | [] => some []
  | .bl b :: ds => (bools ds).map (b :: ·)
  | _ :: _ => none
@[simp] def pAll : D → Option D
  | .lst ds => (bools ds).map fun bs => .bl (bs.all id)
  | _ => none
section
variable {K : PySem.W.Frag} {mg : MG}
theorem bools_reps {G : Hp} {ι : List Addr} : ∀ {vs : List V} {ds : List D} {bs : List Bool}, Reps K mg G ι vs ds → bools ds = some bs → vs = bs.map V.bl
  | _, [], _, .nil, h => by cases h; rfl
  | _, d :: ds, bs, .cons r rs, h => by
    cases d with
    | bl b =>
      obtain ⟨bs', e, rfl⟩ := Option.map_eq_some_iff.mp h
      rw [r.bl_inv, bools_reps rs e]; rfl
    | _ => simp [bools] at h
theorem ansC_len : AnsC K mg (fun xs H Q => ∃ x n, xs = [x] ∧ LenV K x H n ∧ Q (.int n) H) pLen := fun w x d z Q s rx q k => by
  unfold pLen at q
  split at q
  · rename_i y
    split at q
    · rename_i hz
      cases q
      exact ⟨x, _, rfl, by rw [rx.str_inv]; exact ⟨hz, rfl⟩, k _ fun _ _ => .int _⟩
    · cases q
  · cases q
    obtain ⟨a, vs, rfl, h1, h2, h3⟩ := rx.lst_inv s
    exact ⟨_, vs.length, rfl, .inl ⟨vs, SqL.of h1, rfl⟩, by rw [h3.len]; exact k _ fun _ _ => .int _⟩
  · cases q
    obtain ⟨a, vs, rfl, h1, h2, h3⟩ := rx.lsk_inv s
    exact ⟨_, vs.length, rfl, .inl ⟨vs, h1, rfl⟩, by rw [h3.len]; exact k _ fun _ _ => .int _⟩
  · cases q
    obtain ⟨a, vs, rfl, h1, h2, h3⟩ := rx.tup_inv s
    exact ⟨_, vs.length, rfl, .inr ⟨vs, h1, rfl⟩, by rw [h3.len]; exact k _ fun _ _ => .int _⟩
  · cases q
theorem ansC_abs : AnsC K mg (fun xs H Q => ∃ i, xs = [.int i] ∧ Q (.int (if i < 0 then -i else i)) H) pAbs := fun w x d z Q s rx q k => by
  unfold pAbs at q
  split at q
  · cases q; exact ⟨_, by rw [rx.int_inv], k _ fun _ _ => .int _⟩
  · cases q
theorem ansC_max : AnsC2 K mg (fun xs H Q => ∃ i j, xs = [.int i, .int j] ∧ Q (.int (if j > i then j else i)) H) pMax := fun w x y d e z Q s rx ry q k => by
  unfold pMax at q
  split at q
  · cases q; exact ⟨_, _, by rw [rx.int_inv, ry.int_inv], k _ fun _ _ => .int _⟩
  · cases q
theorem ansC_min : AnsC2 K mg (fun xs H Q => ∃ i j, xs = [.int i, .int j] ∧ Q (.int (if j < i then j else i)) H) pMin := fun w x y d e z Q s rx ry q k => by
  unfold pMin at q
  split at q
  · cases q; exact ⟨_, _, by rw [rx.int_inv, ry.int_inv], k _ fun _ _ => .int _⟩
  · cases q
theorem ansC_all : AnsC K mg (rAll K) pAll := fun w x d z Q s rx q k => by
  unfold pAll at q
  split at q
  · obtain ⟨bs, e, rfl⟩ := Option.map_eq_some_iff.mp q
    obtain ⟨a, vs, rfl, h1, h2, h3⟩ := rx.lst_inv s
    exact ⟨a, bs, rfl, by rw [← bools_reps h3 e]; exact SqL.of h1, k _ fun _ _ => .bl _⟩
  · cases q
end
@[simp] def pIx : D → D → Option D
  | .lst ds, .int i => atI ds i
  | .lsk ds, .int i => atI ds i
  | .tup ds, .int i => atI ds i
  | .str z, .int i => if z.length ≤ sizeLine then (atI z.cps.toList i).map fun c => .str ⟨#[c]⟩ else none
  | _, _ => none
section
variable {K : PySem.W.Frag} {mg : MG}
theorem Reps.atI {G : Hp} {ι : List Addr} {vs : List V} {ds : List D} {i : Int} {d : D} (r : Reps K mg G ι vs ds) (h : L2.atI ds i = some d) : ∃ v, L2.atI vs i = some v ∧ Rep K mg G ι v d := by
  unfold L2.atI at h ⊢
  rw [r.len]
  cases e : ixN ds.length i with
  | none => rw [e] at h; cases h
  | some j =>
    rw [e] at h
    obtain ⟨v, h1, h2⟩ := r.get h
    exact ⟨v, h1, h2⟩
theorem ans_ix (w : Ws) (x y : V) (d e z : D) (Q : VK) (s : Sts K mg w) (rx : RepV K mg w x d) (ry : RepV K mg w y e) (q : pIx d e = some z) (k : ∀ v, Rep K mg w.G w.ι v z → Q v w.H) : rIx K x y w.H Q := by
  unfold pIx at q
  split at q
  · obtain ⟨a, vs, rfl, h1, h2, h3⟩ := rx.lst_inv s
    obtain ⟨v, hv, rv⟩ := h3.atI q
    exact .inl ⟨a, vs, _, v, rfl, ry.int_inv, SqL.of h1, hv, k v rv⟩
  · obtain ⟨a, vs, rfl, h1, h2, h3⟩ := rx.lsk_inv s
    obtain ⟨v, hv, rv⟩ := h3.atI q
    exact .inl ⟨a, vs, _, v, rfl, ry.int_inv, h1, hv, k v rv⟩
  · obtain ⟨a, vs, rfl, h1, h2, h3⟩ := rx.tup_inv s
    obtain ⟨v, hv, rv⟩ := h3.atI q
    exact .inr (.inl ⟨a, vs, _, v, rfl, ry.int_inv, h1, hv, k v rv⟩)
  · split at q
    · rename_i hz
      obtain ⟨c, e, rfl⟩ := Option.map_eq_some_iff.mp q
      exact .inr (.inr ⟨_, _, c, rx.str_inv, ry.int_inv, hz, e, k _ (.str _)⟩)
    · cases q
  · cases q
end
section
variable {X : Cx} {W : WB} {a b : Expr} {f g : DEx} {p q : DPx} {pos : Pos}
theorem dp_ix (ha : DPv X a p) (hb : DP X b q) (hs : PlainIx b) : DP X (.Subscript a b pos) (plift2 pIx p q) := by
  obtain ⟨ta, pa, ra⟩ := ha
  obtain ⟨tb, pb, rb⟩ := hb
  refine ⟨_, pe_ix ix_seq pa pb hs, fun bb w Q z s h k => ?_⟩
  unfold plift2 at h
  split at h
  · rename_i d e h1 h2
    exact ra bb w _ d s h1 fun x rx => rb bb w _ e s h2 fun y ry => ans_ix w x y d e z Q s rx (.inl ry) h k
  · cases h
theorem de_ix (ha : DE X W a f) (hb : DE X W b g) (hs : PlainIx b) : DE X W (.Subscript a b pos) (lift2 pIx f g) := by
  obtain ⟨ta, pa, ra⟩ := ha
  obtain ⟨tb, pb, rb⟩ := hb
  refine ⟨_, pe_ix ix_seq pa pb hs, fun w Q s h => ?_⟩
  refine ra.bindR (Q := Q) s h fun w1 x d s1 e1 a1 r1 h1 => ?_
  show tb w.σ w1.H _
  rw [← e1]
  refine rb.bindR (Q := Q) s1 h1 fun w2 y e s2 e2 a2 r2 h2 => ?_
  cases z : pIx d e with
  | none => simp only [z] at h2; exact h2.elim
  | some y' =>
    simp only [z] at h2
    exact ans_ix w2 x y d e y' Q s2 (.inl (r1.mono a2.g a2.i)) (.inl r2) z fun v rv => h2 w2 v rfl rfl rfl (Aft.refl s2) rv
end
def cutD (ds : List D) (lo hi : Option Int) : List D := (ds.drop (HT.sIx ds.length 0 lo)).take (HT.sIx ds.length ds.length hi - HT.sIx ds.length 0 lo)
theorem Reps.cut {K : PySem.W.Frag} {mg : MG} {G : Hp} {ι : List Addr} {vs : List V} {ds : List D} (lo hi : Option Int) (r : Reps K mg G ι vs ds) : Reps K mg G ι (cutV vs lo hi) (cutD ds lo hi) := by
  unfold cutV cutD
  rw [r.len]
  exact (r.drop _).take _
@[simp] def bdN (ρ : En) (st : Store) : R := .ok .non ρ st
@[simp] def bd : D → Option (Option Int)
  | .non => some none
  | .int i => some (some i)
  | _ => none
def RefB (K : PySem.W.Frag) (mg : MG) (W : WB) (t : TO) (f : DEx) : Prop := ∀ (w : Ws) (Q : Option Int → Hp → Prop) (P : R → Prop) (r : D → En → Store → R), Sts K mg w → P ((f w.ρ w.st).bind r) →
  (∀ c ρ st, P (.exc c ρ st) → ∀ (w' : Ws) (cls : Value) (dx : Option Addr), w'.ρ = ρ → w'.st = st → w'.σ = w.σ → Aft K mg w w' → ExcAt K mg w' c cls dx → W cls dx w'.σ w'.H) → (P .bad → False) → (∀ d ρ st, bd d = none → r d ρ st = .bad) →
  (∀ (w1 : Ws) (d : D) (b : Option Int), bd d = some b → w1.σ = w.σ → Aft K mg w w1 → P (r d w1.ρ w1.st) → Q b w1.H) → t w.σ w.H Q
def DB (X : Cx) (W : WB) (e : Option Expr) (f : DEx) : Prop := ∃ t, PO X e t ∧ RefB X.K (MGx X W.b) W t f
theorem db_none {X : Cx} {W : WB} : DB X W none bdN := ⟨_, po_none, fun w Q P r s h hx hb hd k => k w .non none rfl rfl (Aft.refl s) h⟩
@[simp] def bdS (f : DEx) (ρ : En) (st : Store) : R := (f ρ st).bind fun d ρ st => match d with
  | .int i => .ok (.int i) ρ st
  | _ => .bad
theorem db_some {X : Cx} {W : WB} {e : Expr} {f : DEx} (h : DE X W e f) : DB X W (some e) (bdS f) := by
  obtain ⟨t, p, rf⟩ := h
  refine ⟨_, po_some p, fun w Q P r s h hx hb hd k => ?_⟩
  refine rf w _ s ?_
  unfold bdS at h
  cases e : f w.ρ w.st with
  | ok d ρ st =>
    rw [e] at h
    intro w' v h1 h2 h3 A rv
    subst h1; subst h2
    cases d with
    | int i => exact ⟨i, rv.int_inv, k w' _ _ rfl h3 A h⟩
    | _ => exact (hb h).elim
  | exc c ρ st => rw [e] at h; exact hx _ _ _ h
  | bad => rw [e] at h; exact (hb h).elim
@[simp] def lkD (st : Store) : D → D
  | .ref l => match st[l]? with
    | some (.lst ds) => .lst ds
    | some (.dct ds) => .dct ds
    | _ => .ref l
  | d => d
theorem lk_repV {K : PySem.W.Frag} {mg : MG} {w : Ws} {v : V} {d : D} (s : Sts K mg w) (r : Rep K mg w.G w.ι v d) : RepV K mg w v (lkD w.st d) := by
  cases d with
  | ref l =>
    simp only [lkD]
    cases r with
    | ref hi =>
      rename_i a
      cases hst : w.st[l]? with
      | none => exact .inl (.ref hi)
      | some c =>
        cases c with
        | lst ds =>
          obtain ⟨_, vs, h, hl, rs⟩ := s.cel l _ a hst hi
          exact .inr (.inl ⟨a, vs, ds, rfl, rfl, h, hl, rs⟩)
        | dct ds =>
          obtain ⟨_, vs, h, rs⟩ := s.cel l _ a hst hi
          exact .inr (.inr ⟨a, vs, ds, rfl, rfl, h, rs⟩)
        | ins c fs => exact .inl (.ref hi)
        | dead => exact .inl (.ref hi)
        | tab q nm => exact .inl (.ref hi)
  | _ => exact .inl r
@[simp] def slX (k : D → Option Int → Option Int → Option D) (f l h : DEx) (ρ : En) (st : Store) : R := (f ρ st).bind fun d ρ st => (l ρ st).bind fun lo ρ st => match bd lo with
  | some lo => (h ρ st).bind fun hi ρ st => (match bd hi with
    | some hi => (match k (lkD st d) lo hi with
      | some z => .ok z ρ st
      | none => .bad)
    | none => .bad)
  | none => .bad
section
variable {X : Cx} {W : WB} {e : Expr} {lo hi : Option Expr} {f l h : DEx} {p2 pos : Pos}
theorem ref_sl {K : PySem.W.Frag} {mg : MG} {k : D → Option Int → Option Int → Option D} {r : V → Option Int → Option Int → Hp → VK → Prop} {te : TE} {tl th : TO} {w : Ws} {Q : VK} {P : R → Prop} (s : Sts K mg w)
    (re : RefE K mg W te f) (rl : RefB K mg W tl l) (rh : RefB K mg W th h) (q : P (slX k f l h w.ρ w.st))
    (hx : ∀ c ρ st, P (.exc c ρ st) → ∀ (w' : Ws) (cls : Value) (dx : Option Addr), w'.ρ = ρ → w'.st = st → w'.σ = w.σ → Aft K mg w w' → ExcAt K mg w' c cls dx → W cls dx w'.σ w'.H) (hb : P .bad → False)
    (hr : ∀ (w3 : Ws) (v : V) (d z : D) (lo hi : Option Int), w3.σ = w.σ → Aft K mg w w3 → RepV K mg w3 v d → k d lo hi = some z → P (.ok z w3.ρ w3.st) → r v lo hi w3.H Q) : tSl r te tl th w.σ w.H Q := by
  refine re.bind (P := P) s q hx hb fun w1 v d e1 a1 r1 q1 => ?_
  show tl w.σ w1.H _
  rw [← e1]
  refine rl w1 _ P _ a1.s q1 (fun c ρ st z w' cls dx h1 h2 h3 A x => hx c ρ st z w' cls dx h1 h2 (h3.trans e1) (a1.trans A) x) hb (fun d' ρ st hb => by simp only [hb]) fun w2 dl bl hbl e2 a2 q2 => ?_
  simp only [hbl] at q2
  rw [← e2]
  have a12 := a1.trans a2
  have e12 := e2.trans e1
  refine rh w2 _ P _ a2.s q2 (fun c ρ st z w' cls dx h1 h2 h3 A x => hx c ρ st z w' cls dx h1 h2 (h3.trans e12) (a12.trans A) x) hb (fun d' ρ st hb => by simp only [hb]) fun w3 dh bh hbh e3 a3 q3 => ?_
  simp only [hbh] at q3
  cases z : k (lkD w3.st d) bl bh with
  | none => simp only [z] at q3; exact (hb q3).elim
  | some y =>
    simp only [z] at q3
    exact hr w3 v _ y bl bh (e3.trans e12) (a12.trans a3) (lk_repV a3.s (r1.mono (a2.g.trans a3.g) (a2.i.trans a3.i))) z q3
end
end DL
namespace DL
open PySem L2
abbrev MutK := List D → List D → Option (List D × D)
@[simp] def mutAt (i : Nat) (k : MutK) (args : List D) (ρ : En) (st : Store) : R := match ρ[i]? with
  | some (.ml ds) => (match k ds args with
    | some (ds', z) => .ok z (ρ.set i (.ml ds')) st
    | none => .bad)
  | some (.val (.ref l)) => (match st[l]? with
    | some (.lst ds) => (match k ds args with
      | some (ds', z) => .ok z ρ (st.set l (.lst ds'))
      | none => .bad)
    | _ => .bad)
  | _ => .bad
@[simp] def holdsL (i : Nat) (ρ : En) (st : Store) : Bool := match ρ[i]? with
  | some (.ml _) => true
  | some (.val (.ref l)) => (match st[l]? with
    | some (.lst _) => true
    | _ => false)
  | _ => false
@[simp] def mutD (i : Nat) (k : MutK) (f : DEx) (ρ : En) (st : Store) : R := match holdsL i ρ st with
  | true => (f ρ st).bind fun d ρ st => (match d with
    | .tup args => mutAt i k args ρ st
    | _ => .bad)
  | false => .bad
def AnsM (K : PySem.W.Frag) (mg : MG) (r : V → List V → Hp → VK → Prop) (k : MutK) : Prop :=
  ∀ (G H : Hp) (ι : List Addr) (a : Addr) (vs xs : List V) (ds args ds' : List D) (z : D) (Q : VK), H a = some (.lst vs) → vs.length ≤ sizeLine → Reps K mg G ι vs ds → Reps K mg G ι xs args → k ds args = some (ds', z) →
    (∀ vs' v, vs'.length ≤ sizeLine → Reps K mg G ι vs' ds' → Rep K mg G ι v z → Q v (upd H a (.lst vs'))) → r (.ref a) xs H Q
section
variable {K : PySem.W.Frag} {mg : MG} {W : WB}
theorem mutAt_inv {w : Ws} {i : Nat} {k : MutK} {args : List D} {Q : VK} (s : Sts K mg w) (q : OkR K mg W w Q (mutAt i k args w.ρ w.st)) : ∃ a vs ds ds' z, w.σ[i]? = some (some (.ref a)) ∧ w.H a = some (.lst vs) ∧ vs.length ≤ sizeLine ∧ Reps K mg w.G w.ι vs ds ∧ k ds args = some (ds', z) ∧
    ∀ vs' v, vs'.length ≤ sizeLine → Reps K mg w.G w.ι vs' ds' → Rep K mg w.G w.ι v z → Q v (upd w.H a (.lst vs')) := by
  unfold mutAt at q
  split at q
  · rename_i ds e
    split at q
    · rename_i ds' z hk
      obtain ⟨a, vs, e1, e2, e3, e4, e5⟩ := s.slo i _ e
      refine ⟨a, vs, ds, ds', z, e1, e3, e4, e5, hk, fun vs' v hz r rv => ?_⟩
      exact q { w with ρ := w.ρ.set i (.ml ds'), H := upd w.H a (.lst vs') } v rfl rfl rfl (Aft.mutMl s e e1 hz r) rv
    · exact q.elim
  · rename_i l e
    split at q
    · rename_i ds hl
      split at q
      · rename_i ds' z hk
        obtain ⟨v0, e1, r0⟩ := s.slo i _ e
        cases r0 with
        | ref ha =>
          rename_i a
          obtain ⟨ga, vs, e3, e4, e5⟩ := s.cel l _ a hl ha
          refine ⟨a, vs, ds, ds', z, e1, e3, e4, e5, hk, fun vs' v hz r rv => ?_⟩
          exact q { w with H := upd w.H a (.lst vs'), st := w.st.set l (.lst ds') } v rfl rfl rfl (Aft.mutCell s hl (by simp) ha (by simp) ⟨ga, vs', upd_same, hz, r⟩) rv
      · exact q.elim
    · exact q.elim
  · exact q.elim
theorem holdsL_inv {w : Ws} {i : Nat} (s : Sts K mg w) (h : holdsL i w.ρ w.st = true) : ∃ a vs, w.σ[i]? = some (some (.ref a)) ∧ w.H a = some (.lst vs) := by
  unfold holdsL at h
  split at h
  · rename_i ds e
    obtain ⟨a, vs, e1, e2, e3, e4, e5⟩ := s.slo i _ e
    exact ⟨a, vs, e1, e3⟩
  · rename_i l e
    split at h
    · rename_i ds hl
      obtain ⟨v0, e1, r0⟩ := s.slo i _ e
      cases r0 with
      | ref ha =>
        rename_i a
        obtain ⟨ga, vs, e3, e4, e5⟩ := s.cel l _ a hl ha
        exact ⟨a, vs, e1, e3⟩
    · cases h
  · cases h
theorem refE_mut {t : TA} {f : DEx} {i : Nat} {k : MutK} {r : V → List V → Hp → VK → Prop} (ha : RefA K mg W t f) (hr : AnsM K mg r k) : RefE K mg W (tBM K "list" r (tVar i) t) (mutD i k f) := fun w Q s q => by
  unfold mutD at q
  split at q
  · rename_i hh
    obtain ⟨a, vs, e1, e2⟩ := holdsL_inv s hh
    refine ⟨_, e1, .inl ⟨rfl, vs, .inl (.inl e2)⟩, ?_⟩
    refine ha.bind (P := OkR K mg W w Q) s q (fun d ρ st n => by cases d <;> first | rfl | exact absurd rfl (n _)) (fun _ _ _ z => z) (fun z => z) fun w1 xs args e3 a1 r1 _ q1 => ?_
    obtain ⟨a', vs', ds, ds', z, h1, h2, h3, h4, h5, h6⟩ := mutAt_inv a1.s (OkR.aft q1 a1 e3)
    rw [e3, e1] at h1
    cases h1
    exact hr w1.G w1.H w1.ι a vs' xs ds args ds' z Q h2 h3 h4 r1 h5 h6
  · exact q.elim
end
@[simp] def kApp : MutK := fun ds args => match args with
  | [d] => if ds.length < sizeLine then some (ds ++ [d], .non) else none
  | _ => none
@[simp] noncomputable def kPopAt : MutK := fun ds args => match args with
  | [.int i] => if Rs i then (match seqIndex? i ds.length with
    | some k => (match ds[k]? with
      | some d => some (ds.eraseIdx k, d)
      | none => none)
    | none => none) else none
  | _ => none
@[simp] noncomputable def kIns : MutK := fun ds args => match args with
  | [.int i, d] => if ds.length < sizeLine ∧ 0 ≤ i ∧ Rs i then some (ds.take i.toNat ++ [d] ++ ds.drop i.toNat, .non) else none
  | _ => none
section
variable {K : PySem.W.Frag} {mg : MG}
theorem ansM_app : AnsM K mg rAppend kApp := fun G H ι a vs xs ds args ds' z Q h hz r rx hk q => by
  unfold kApp at hk
  split at hk
  · split at hk
    · rename_i d hl
      cases hk
      obtain ⟨v, rfl, rv⟩ := rx.inv1
      refine ⟨a, vs, v, rfl, rfl, h, by rw [r.len]; exact hl, q _ .non ?_ (r.append (.cons rv .nil)) .non⟩
      simp [r.len]; omega
    · cases hk
  · cases hk
theorem ansM_popAt : AnsM K mg rPopAt kPopAt := fun G H ι a vs xs ds args ds' z Q h hz r rx hk q => by
  unfold kPopAt at hk
  split at hk
  · split at hk
    · rename_i i hb
      split at hk
      · rename_i k hi
        split at hk
        · rename_i d hd
          cases hk
          obtain ⟨v0, rfl, rv0⟩ := rx.inv1
          obtain ⟨v, hv, rv⟩ := r.get hd
          refine ⟨a, vs, i, k, v, rfl, by rw [rv0.int_inv], h, hb.1, hb.2, by rw [r.len]; exact hi, hv, q _ v ?_ (r.eraseIdx k) rv⟩
          rw [List.length_eraseIdx]; split <;> omega
        · cases hk
      · cases hk
    · cases hk
  · cases hk
theorem ansM_ins : AnsM K mg (fun x vs H Q => ∃ (l : Addr) (xs : List V) (i : Int) (y : V), x = .ref l ∧ vs = [.int i, y] ∧ H l = some (.lst xs) ∧ xs.length < sizeLine ∧ 0 ≤ i ∧ i < 2 ^ 63 ∧
    Q .non (upd H l (.lst (xs.take i.toNat ++ [y] ++ xs.drop i.toNat)))) kIns := fun G H ι a vs xs ds args ds' z Q h hz r rx hk q => by
  unfold kIns at hk
  split at hk
  · split at hk
    · rename_i i d hb
      cases hk
      obtain ⟨v0, v, rfl, rv0, rv⟩ := rx.inv2
      refine ⟨a, vs, i, v, rfl, by rw [rv0.int_inv], h, by rw [r.len]; exact hb.1, hb.2.1, hb.2.2.2, q _ .non ?_ (((r.take _).append (.cons rv .nil)).append (r.drop _)) .non⟩
      have := r.len
      simp; omega
    · cases hk
  · cases hk
end
section
variable {X : Cx} {W : WB} {o e : Expr} {es : List Expr} {f : DEx} {name x : Str} {np apos cpos : Pos} {id : String} {r : V → List V → Hp → VK → Prop} {k : MutK} {i : Nat}
theorem de_mut (slot : Slot "list" name id) (hty : typeOf (.builtin id) = pure (.type "method_descriptor")) (hm : MtR X id r) (hr : AnsM X.K (MGx X W.b) r k) (ha : DAn X W (e :: es) f)
    (hN : X.N[i]? = some x := by rfl) (hv : Vis X.env.scope x := by first | exact Or.inl rfl | exact Or.inr (Or.inl rfl) | exact Or.inr (Or.inr rfl)) (hd : (x == ("__debug__" : Str)) = false := by decide) (hcd : (x == ("__classdict__" : Str)) = false := by decide)
    (hbase : attributeBase (.Name x np) name X.env (eval (.Name x np) X.env) = eval (.Name x np) X.env := by rfl)
    (hfew : ((backTo cpos (starEach (e :: es) X.env)).all (fun x => !x.1) && (backToKw cpos (keywordEach [] X.env)).all (fun x => x.1.isSome)
      && decide ((e :: es).length + ([] : List Keyword).length + (if ([] : List Keyword).isEmpty then 0 else 1) < 30)) = true := by rfl)
    (hline : (apos.endLine == cpos.line) = true := by rfl) (hs : starEach (e :: es) X.env = (false, eval e X.env) :: starEach es X.env := by rfl) (hplain : (backTo cpos (starEach es X.env)).any (·.1) = false := by rfl) :
    DE X W (.Call (.Attribute (.Name x np) name apos) (e :: es) [] cpos) (mutD i k f) := by
  obtain ⟨⟨t, pt, rt⟩, _⟩ := ha
  exact ⟨_, pe_bm PySem.F.plainAttrs_list slot hty hm (pv i hN hv hd hcd) pt hbase hfew hline hs hplain, refE_mut rt hr⟩
end
end DL
namespace DL
open PySem L2
@[simp] def kSet (j : D) : MutK := fun ds args => match args, j with
  | [d], .int k => (match ixN ds.length k with
    | some n => some (ds.set n d, .non)
    | none => none)
  | _, _ => none
@[simp] def subSetD (i : Nat) (p : DPx) (f : DEx) (ρ0 : En) (st0 : Store) : Fl := thenF f (fun d ρ st => match p ρ st with
  | some j => (match mutAt i (kSet j) [d] ρ st with
    | .ok _ ρ st => .nx ρ st
    | _ => .bad)
  | none => .bad) ρ0 st0
section
variable {X : Cx} {W : WB} {e j : Expr} {f : DEx} {p : DPx} {x : Str} {np pos tpos : Pos} {i : Nat}
theorem ds_sub (he : DE X W e f) (hj : DP X j p)
    (hN : X.N[i]? = some x := by rfl) (hv : Vis X.env.scope x := by first | exact Or.inl rfl | exact Or.inr (Or.inl rfl) | exact Or.inr (Or.inr rfl)) (hd : (x == ("__debug__" : Str)) = false := by decide) (hcd : (x == ("__classdict__" : Str)) = false := by decide)
    (ha : ∀ v, assign (.Subscript (.Name x np) j tpos) X.env v = (do
      let ov ← holding [v] (eval (.Name x np) X.env)
      let iv ← holding [v, ov] (eval j X.env)
      standAt tpos
      holding [v, ov, iv] (setItem ov iv v)
      release [v, ov, iv] []) := by intro _; rfl)
    (hs : swapsWithSole [.Subscript (.Name x np) j tpos] e pos.line X.env = pure false := by rfl) (hw : swappedStores [.Subscript (.Name x np) j tpos] e X.env = pure none := by rfl)
    (h1 : (assignEach [.Subscript (.Name x np) j tpos] X.env).map (·.2) = [assign (.Subscript (.Name x np) j tpos) X.env] := by rfl) : DS X W (.Assign [.Subscript (.Name x np) j tpos] e pos) (subSetD i p f) := by
  obtain ⟨te, pe, re⟩ := he
  obtain ⟨tj, pj, rj⟩ := hj
  refine ⟨_, ps_asg pe (pg_sub (pv i hN hv hd hcd) pj set_list ha) hs hw h1, fun w E s q => ?_⟩
  refine re.bindF s q fun w1 v d s1 e1 a1 r1 q1 => ?_
  cases z : p w1.ρ w1.st with
  | none => simp only [z] at q1; exact q1.elim
  | some jd =>
    simp only [z] at q1
    have q2 : OkR X.K (MGx X W.b) W w1 (fun _ H => E.nx w1.σ H) (mutAt i (kSet jd) [d] w1.ρ w1.st) := by
      cases y : mutAt i (kSet jd) [d] w1.ρ w1.st with
      | ok d' ρ st =>
        rw [y] at q1
        intro w' v h1 h2 h3 A r
        have := q1 w' h1 h2 A
        rw [h3] at this; exact this
      | exc c ρ st => rw [y] at q1; exact q1.elim
      | bad => rw [y] at q1; exact q1.elim
    obtain ⟨a, vs, ds, ds', y, h1, h2, h3, h4, h5, h6⟩ := mutAt_inv s1 q2
    show gSub (tVar i) tj rSetL v w.σ w1.H E.nx
    refine ⟨.ref a, by rw [← e1]; exact h1, ?_⟩
    rw [← e1]
    refine rj _ w1 _ jd s1 z fun vj rvj => ?_
    unfold kSet at h5
    split at h5
    · split at h5
      · rename_i n hn
        cases h5
        rename_i heq _
        cases heq
        refine ⟨a, vs, _, n, rfl, rvj.int_inv, h2, by rw [h4.len]; exact hn, ?_⟩
        exact h6 (vs.set n v) .non (by simpa using h3) (h4.set r1 n) .non
      · cases h5
    · cases h5
end
@[simp] def kOf : D → Option (List D)
  | .lst ds => some ds
  | .tup ds => some ds
  | .lsk ds => some ds
  | _ => none
@[simp] def listD (f : DEx) (ρ : En) (st : Store) : R := (f ρ st).bind fun d ρ st => match kOf d with
  | some ds => .ok (.lst ds) ρ st
  | none => .bad
@[simp] def tupleD (f : DEx) (ρ : En) (st : Store) : R := (f ρ st).bind fun d ρ st => match kOf d with
  | some ds => .ok (.tup ds) ρ st
  | none => .bad
theorem listD_isL {f : DEx} : IsL (listD f) := fun ρ st d ρ' st' h => by
  unfold listD at h
  cases e : f ρ st with
  | ok d1 ρ1 st1 =>
    rw [e] at h
    simp only [R.bind] at h
    split at h
    · cases h; exact ⟨_, rfl⟩
    · cases h
  | exc c ρ1 st1 => rw [e] at h; cases h
  | bad => rw [e] at h; cases h
theorem RepV.seq {K : PySem.W.Frag} {mg : MG} {w : Ws} {v : V} {d : D} {ds : List D} (s : Sts K mg w) (h : RepV K mg w v d) (k : kOf d = some ds) : ∃ a vs, v = .ref a ∧ (SqL K w.H a vs ∨ SqT K w.G a vs) ∧ vs.length ≤ sizeLine ∧ Reps K mg w.G w.ι vs ds := by
  cases d with
  | lst es => cases k; obtain ⟨a, vs, e, h1, h2, h3⟩ := h.lst_inv s; exact ⟨a, vs, e, .inl (SqL.of h1), h2, h3⟩
  | lsk es => cases k; obtain ⟨a, vs, e, h1, h2, h3⟩ := h.lsk_inv s; exact ⟨a, vs, e, .inl h1, h2, h3⟩
  | tup es =>
    cases k
    rcases h with h | ⟨a, vs, ds, rfl, e, h1, h2, h3⟩ | ⟨a, vs, ds, _, e, _⟩
    · cases h with
      | tup h l r => exact ⟨_, _, rfl, .inr h, l, r⟩
    · cases e
    · cases e
  | _ => cases k
theorem RefV.bindO {K : PySem.W.Frag} {mg : MG} {W : WB} {t : TE} {f : DEx} (h : RefV K mg W t f) {w : Ws} {Q Q1 : VK} {r : D → En → Store → R} (s : Sts K mg w) (hP : OkO K mg W w Q ((f w.ρ w.st).bind r))
    (k : ∀ (w1 : Ws) (v : V) (d : D), w1.σ = w.σ → Aft K mg w w1 → RepV K mg w1 v d → OkO K mg W w Q (r d w1.ρ w1.st) → Q1 v w1.H) : t w.σ w.H Q1 :=
  h.bind (P := OkO K mg W w Q) s hP (fun _ _ _ z => z) (fun z => z) fun w1 v d e a rp q => k w1 v d e a rp q
section
variable {X : Cx} {W : WB} {e e2 a b : Expr} {f g : DEx} {p pos : Pos}
theorem do_list (hg : Gl X "list") (hm : X.mg "list" = none) (ha : DV X W e f) (he : starEach [e] X.env = (false, eval e X.env) :: starEach [] X.env := by rfl) (hpl : (backTo pos (starEach [] X.env)).any (·.1) = false := by rfl) : DO X W (.Call (.Name "list" p) [e] [] pos) (listD f) := by
  obtain ⟨te, pe, re⟩ := ha
  refine ⟨⟨_, pe_callTy call_list_of hg hm (by decide +kernel) (pa_cons pe pa_nil he) (by decide) (by decide) he hpl, fun w Q s q => ?_⟩, listD_isL⟩
  refine re.bindO s q fun w1 v d e1 a1 r1 q1 => ?_
  cases z : kOf d with
  | none => simp only [z] at q1; exact q1.elim
  | some ds =>
    simp only [z] at q1
    obtain ⟨a, vs, rfl, h1, h2, h3⟩ := r1.seq a1.s z
    refine ⟨a, vs, rfl, ?_, fun l hl => OkO.mk a1 e1 hl h2 h3 q1⟩
    rcases h1 with h1 | h1
    · exact .inl h1
    · exact .inr (SqT.mono a1.s.sub h1)
theorem de_tuple (hg : Gl X "tuple") (hm : X.mg "tuple" = none) (ha : DV X W e f) (he : starEach [e] X.env = (false, eval e X.env) :: starEach [] X.env := by rfl) (hpl : (backTo pos (starEach [] X.env)).any (·.1) = false := by rfl) : DE X W (.Call (.Name "tuple" p) [e] [] pos) (tupleD f) := by
  obtain ⟨te, pe, re⟩ := ha
  refine ⟨_, pe_callTy call_tuple_of hg hm (by decide +kernel) (pa_cons pe pa_nil he) (by decide) (by decide) he hpl, fun w Q s q => ?_⟩
  refine re.bindR (Q := Q) s q fun w1 v d s1 e1 a1 r1 q1 => ?_
  cases z : kOf d with
  | none => simp only [z] at q1; exact q1.elim
  | some ds =>
    simp only [z] at q1
    obtain ⟨a, vs, rfl, h1, h2, h3⟩ := r1.seq s1 z
    refine ⟨a, vs, rfl, ?_⟩
    rcases h1 with h1 | h1
    · refine .inl ⟨h1, fun l hl => ?_⟩
      have A := Aft.alloc (o := .tup vs) s1 hl
      exact q1 { w1 with G := upd w1.G l (.tup vs), H := upd w1.H l (.tup vs) } (.ref l) rfl rfl rfl A (.tup (.inl (.inl upd_same)) h2 (h3.mono A.g A.i))
    · exact .inr ⟨SqT.mono s1.sub h1, q1 w1 _ rfl rfl rfl (Aft.refl s1) (.tup h1 h2 h3)⟩
theorem RefE.bindO {K : PySem.W.Frag} {mg : MG} {t : TE} (h : RefE K mg W t f) {w w0 : Ws} {Q Q1 : VK} {r : D → En → Store → R} (s : Sts K mg w) (a0 : Aft K mg w0 w) (e0 : w.σ = w0.σ) (hP : OkO K mg W w0 Q ((f w.ρ w.st).bind r))
    (k : ∀ (w1 : Ws) (v : V) (d : D), w1.σ = w0.σ → Aft K mg w w1 → Aft K mg w0 w1 → Rep K mg w1.G w1.ι v d → OkO K mg W w0 Q (r d w1.ρ w1.st) → Q1 v w1.H) : t w.σ w.H Q1 :=
  h.bind (P := OkO K mg W w0 Q) s hP (fun c ρ st z w' cls dx h1 h2 h3 A x => z w' cls dx h1 h2 (h3.trans e0) (a0.trans A) x) (fun z => z) fun w1 v d e a rp q => k w1 v d (e.trans e0) a (a0.trans a) rp q
theorem Reps.rep {K : PySem.W.Frag} {mg : MG} {G : Hp} {ι : List Addr} {vs : List V} {ds : List D} (r : Reps K mg G ι vs ds) : ∀ n : Nat, Reps K mg G ι (List.replicate n vs).flatten (List.replicate n ds).flatten
  | 0 => .nil
  | n + 1 => by simpa [List.replicate_succ] using r.append (Reps.rep r n)
@[simp] def strL : List D → Option (List Str)
  | [] => some []
  | .str x :: ds => (strL ds).map (x :: ·)
  | _ :: _ => none
theorem strL_reps {K : PySem.W.Frag} {mg : MG} {G : Hp} {ι : List Addr} : ∀ {vs : List V} {ds : List D} {bs : List Str}, Reps K mg G ι vs ds → strL ds = some bs → vs = bs.map V.str
  | _, [], _, .nil, h => by cases h; rfl
  | _, d :: ds, bs, .cons r rs, h => by
    cases d with
    | str b =>
      obtain ⟨bs', e, rfl⟩ := Option.map_eq_some_iff.mp h
      rw [r.str_inv, strL_reps rs e]; rfl
    | _ => simp [strL] at h
end
end DL
namespace DL
open PySem L2
@[simp] def tyD : D → Option String
  | .non => some "NoneType"
  | .bl _ => some "bool"
  | .int _ => some "int"
  | .str _ => some "str"
  | .tup _ => some "tuple"
  | .lst _ => some "list"
  | .lsk _ => some "list"
  | .dct _ => some "dict"
  | .dlk _ => some "dict"
  | _ => none
theorem RepV.ty {K : PySem.W.Frag} {mg : MG} {w : Ws} {v : V} {d : D} {n : String} (s : Sts K mg w) (h : RepV K mg w v d) (k : tyD d = some n) : TyX K w.H v (.type n) := by
  have h' := h.h s
  clear h
  cases h' with
  | non => cases k; exact .base .non
  | bl b => cases k; exact .base (.bl b)
  | int i => cases k; exact .base (.int i)
  | str x => cases k; exact .base (.str x)
  | lst q l r => cases k; exact .base (.lst q)
  | lsk q l r =>
    cases k
    rcases q with (q | ⟨o, q⟩) | ⟨o, its, n, q1, q2, _⟩
    · exact .base (.lst q)
    · exact .base (.frz q)
    · exact .kList q1 q2
  | tup q l r =>
    cases k
    rcases q with (q | ⟨o, q⟩) | ⟨o, its, n, q1, q2, _⟩
    · exact .base (.tup q)
    · exact .fTuple q
    · exact .kTuple q1 q2
  | dct q r =>
    cases k
    rcases q with q | ⟨o, q⟩
    · exact .base (.dK q)
    · exact .fDict q
  | dlk q r => cases k; exact .fDict q
  | ins _ _ _ _ => cases k
  | ref _ => cases k
  | glb _ _ => cases k
  | typ _ => cases k
@[simp] def pIsi (T : String) (d : D) : Option D := match tyD d with
  | some n => (kitB n T).map .bl
  | none => none
@[simp] def isiAny (n : String) : List String → Option Bool
  | [] => some false
  | T :: r => match kitB n T with
    | some true => some true
    | some false => isiAny n r
    | none => none
@[simp] def pIsiT (Ts : List String) (d : D) : Option D := match tyD d with
  | some n => (isiAny n Ts).map .bl
  | none => none
theorem isiAny_kit {K : PySem.W.Frag} {n : String} : ∀ {Ts : List String} {b : Bool}, isiAny n Ts = some b → PySem.W.kitAny K (.type n) (Ts.map .type) = some b
  | [], b, h => by cases h; exact kitAny_nil
  | T :: r, b, h => by
    unfold isiAny at h
    split at h
    · rename_i e
      cases h
      exact kitAny_cons (kit_ty e) (fun h => by cases h) (fun _ => rfl)
    · rename_i e
      exact kitAny_cons (b := false) (kit_ty e) (fun _ => isiAny_kit h) (fun h => by cases h)
    · cases h
def Tys (X : Cx) (es : List Expr) (Ts : List String) : Prop := PA X es (fun _ H Q => Q (Ts.map V.ty) H)
theorem tys_nil {X : Cx} : Tys X [] [] := pa_nil
section
variable {X : Cx} {W : WB} {e : Expr} {es : List Expr} {f : DEx} {p np tpos pos : Pos} {x : Str} {T : String} {Ts : List String}
theorem tys_cons (hg : Gl X x) (hm : X.mg x = none) (hv : bootBuiltins x = some (.type T)) (ht : Tys X es Ts) (hn : x ≠ "__name__" := by decide) (hdb : (x == ("__debug__" : Str)) = false := by decide) (hs : starEach (.Name x np :: es) X.env = (false, eval (.Name x np) X.env) :: starEach es X.env := by rfl) : Tys X (.Name x np :: es) (T :: Ts) := by
  have := pa_cons (pe_bltn (v := .ty T) hg hm hv rfl hn hdb) ht hs
  exact this
theorem paired_ty : ∀ Ts : List String, Paired ClsV (Ts.map V.ty) (Ts.map Value.type)
  | [] => .nil
  | T :: r => .cons (.ty T) (paired_ty r)
theorem de_isi (hg : Gl X "isinstance") (hm : X.mg "isinstance" = none) (hgT : Gl X x) (hmT : X.mg x = none) (hvT : bootBuiltins x = some (.type T)) (ha : DV X W e f) (hn : x ≠ "__name__" := by decide) (hdb : (x == ("__debug__" : Str)) = false := by decide)
    (he : starEach [e, .Name x np] X.env = (false, eval e X.env) :: starEach [.Name x np] X.env := by rfl) (he2 : starEach [.Name x np] X.env = (false, eval (.Name x np) X.env) :: starEach [] X.env := by rfl) (hpl : (backTo pos (starEach [.Name x np] X.env)).any (·.1) = false := by rfl) :
    DE X W (.Call (.Name "isinstance" p) [e, .Name x np] [] pos) (lift1 (pIsi T) f) := by
  obtain ⟨te, pe, re⟩ := ha
  refine ⟨_, pe_callB call_isi hg hm (by decide +kernel) (pa_cons pe (pa_cons (pe_bltn (v := .ty T) hgT hmT hvT rfl hn hdb) pa_nil he2) he) (by decide) (by decide) he hpl, fun w Q s q => ?_⟩
  refine re.bindR (Q := Q) s q fun w1 v d s1 e1 a1 r1 q1 => ?_
  cases z : pIsi T d with
  | none => simp only [z] at q1; exact q1.elim
  | some y =>
    simp only [z] at q1
    unfold pIsi at z
    split at z
    · rename_i n hn
      obtain ⟨b, hb, rfl⟩ := Option.map_eq_some_iff.mp z
      exact ⟨v, .ty T, .type n, .type T, b, rfl, .ty T, r1.ty s1 hn, kit_ty hb, q1 w1 _ rfl rfl rfl (Aft.refl s1) (.bl _)⟩
    · cases z
end
def leD (d e : D) : Bool := PySem.W.dataLe false (fun d : D => d.py.getD .none) d e
def sortOk (ds : List D) : Prop := ∃ ps, pyAll ds = some ps ∧ PySem.W.AllAlike ps ∧ PySem.W.Sortable ps ∧ ∀ p ∈ ps, p.depth ≤ 64
def rSortD (K : PySem.W.Frag) : List V → Hp → VK → Prop := fun xs H Q => ∃ (a : Addr) (zs : List (V × PyData)), xs = [.ref a] ∧ SqL K H a (zs.map (·.1)) ∧ DpAll K H (zs.map (·.1)) (zs.map (·.2)) ∧ PySem.W.AllAlike (zs.map (·.2)) ∧ PySem.W.Sortable (zs.map (·.2)) ∧ (∀ z ∈ zs, z.2.depth ≤ 64) ∧
  ∀ l, H l = none → Q (.ref l) (upd H l (.lst ((zs.mergeSort (PySem.W.dataLe false (·.2))).map (·.1))))
section
variable {X : Cx} {pins : List (Addr × Obj)} {σ : L2.St} {H : Hp} {s : Shared}
theorem each_rel : ∀ {zs : List (V × PyData)} {us : List Value}, Vals (zs.map (·.1)) us → PySem.W.EachIs (fun u (z : V × PyData) => RelV z.1 u) us zs
  | [], [], _ => .nil
  | z :: zs, u :: us, h => by
    cases h with
    | cons r t => exact .cons r (each_rel t)
  | [], _ :: _, h => by cases h
  | _ :: _, [], h => by cases h
theorem rel_each : ∀ {zs : List (V × PyData)} {us : List Value}, PySem.W.EachIs (fun u (z : V × PyData) => RelV z.1 u) us zs → Vals (zs.map (·.1)) us
  | _, _, .nil => .nil
  | _, _, .cons r t => .cons r (rel_each t)
theorem each_reads (I : Inv X pins σ H s) : ∀ {zs : List (V × PyData)} {us : List Value}, DpAll X.K H (zs.map (·.1)) (zs.map (·.2)) → Vals (zs.map (·.1)) us → PySem.W.EachIs (fun u (z : V × PyData) => ∃ as, Reads s.heap u z.2 as) us zs
  | [], [], _, _ => .nil
  | z :: zs, u :: us, d, h => by
    cases h with
    | cons r t =>
      cases d with
      | cons d ds => exact .cons (Dp.reads I _ _ _ d r) (each_reads I ds t)
  | [], _ :: _, _, h => by cases h
  | _ :: _, [], _, h => by cases h
theorem cr_sortD (hu : X.A.units + 80 < cLine) : CallR X (.builtin "sorted") (rSortD X.K) := by
  intro pins s σ H xs us Q I r h
  obtain ⟨a, zs, rfl, hs, hd, hal, hso, hdp, q⟩ := h
  obtain ⟨u, rfl, ru⟩ := vals1 r
  cases ru
  obtain ⟨its, rv, pl, hz⟩ := I.list hs
  have hlen : zs.length ≤ sizeLine := by simpa using hz
  refine PySem.W.sorted_data (R := fun u (z : V × PyData) => RelV z.1 u) (enc := fun z : V × PyData => z.2) (bs := zs) pl.isList (each_rel rv) (each_reads I hd rv) hal hso hlen (fun z hz => by have := hdp z hz; omega) fun out ho eo => ?_
  obtain ⟨c, hc⟩ := PyProof.Rows.sortedAll_at s.heap its out.toArray
  have kp : ∀ b o, s.heap.get? b = some o → (PyProof.Rows.sortedAll s.heap its out.toArray).get? b = some o := fun _ _ => PyProof.Rows.sortedAll_old
  have hn : H (s.heap.objs.size + 1) = none := I.hok.fresh (Nat.le_succ _)
  have hl : ((zs.mergeSort (PySem.W.dataLe false (·.2))).map (·.1)).length ≤ sizeLine := by simpa using hlen
  exact ⟨.ref (s.heap.objs.size + 1), _, I.laid (t' := s.toks) kp (Nat.le_succ _) (show ObjOk X.prog X.w _ _ _ (.lst ((zs.mergeSort (PySem.W.dataLe false (·.2))).map (·.1))) from ⟨hl, out, c, rel_each eo, hc⟩), rfl, q _ hn⟩
end
open Classical in
noncomputable def sortD (f : DEx) (ρ : En) (st : Store) : R := (f ρ st).bind fun d ρ st => match d with
  | .lst ds => if sortOk ds then .ok (.lst (ds.mergeSort leD)) ρ st else .bad
  | _ => .bad
theorem sortD_isL {f : DEx} : IsL (sortD f) := fun ρ st d ρ' st' h => by
  unfold sortD at h
  cases e : f ρ st with
  | ok d1 ρ1 st1 =>
    rw [e] at h
    simp only [R.bind] at h
    split at h
    · split at h
      · cases h; exact ⟨_, rfl⟩
      · cases h
    · cases h
  | exc c ρ1 st1 => rw [e] at h; cases h
  | bad => rw [e] at h; cases h
theorem pyAll_map : ∀ {ds : List D} {ps : List PyData}, pyAll ds = some ps → ps = ds.map (fun d => d.py.getD .none)
  | [], ps, h => by simp only [pyAll, Option.some.injEq] at h; subst h; rfl
  | d :: ds, ps, h => by
    simp only [pyAll] at h
    split at h
    · rename_i p ps' e1 e2
      cases h
      simp [e1, ← pyAll_map e2]
    · cases h
theorem reps_zip {K : PySem.W.Frag} {mg : MG} {G : Hp} {ι : List Addr} : ∀ {vs : List V} {ds : List D}, Reps K mg G ι vs ds → ∃ zs : List (V × D), zs.map (·.1) = vs ∧ zs.map (·.2) = ds ∧ ∀ z ∈ zs, Rep K mg G ι z.1 z.2
  | _, _, .nil => ⟨[], rfl, rfl, fun _ h => by simp at h⟩
  | _, _, .cons r rs => by
    obtain ⟨zs, e1, e2, h⟩ := reps_zip rs
    refine ⟨(_, _) :: zs, by simp [e1]; rfl, by simp [e2]; rfl, fun z hz => ?_⟩
    rcases List.mem_cons.mp hz with rfl | hz
    · exact r
    · exact h z hz
theorem zip_reps {K : PySem.W.Frag} {mg : MG} {G : Hp} {ι : List Addr} : ∀ {zs : List (V × D)}, (∀ z ∈ zs, Rep K mg G ι z.1 z.2) → Reps K mg G ι (zs.map (·.1)) (zs.map (·.2))
  | [], _ => .nil
  | z :: zs, h => .cons (h z (by simp)) (zip_reps fun y hy => h y (by simp [hy]))
section
variable {X : Cx} {W : WB} {e : Expr} {f : DEx} {p pos : Pos}
theorem do_sorted (hu : X.A.units + 80 < cLine) (hg : Gl X "sorted") (hm : X.mg "sorted" = none) (ha : DV X W e f) (he : starEach [e] X.env = (false, eval e X.env) :: starEach [] X.env := by rfl) (hpl : (backTo pos (starEach [] X.env)).any (·.1) = false := by rfl) :
    DO X W (.Call (.Name "sorted" p) [e] [] pos) (sortD f) := by
  obtain ⟨te, pe, re⟩ := ha
  refine ⟨⟨_, pe_callB (cr_sortD hu) hg hm (by decide +kernel) (pa_cons pe pa_nil he) (by decide) (by decide) he hpl, fun w Q s q => ?_⟩, sortD_isL⟩
  refine re.bindO s q fun w1 v d e1 a1 r1 q1 => ?_
  split at q1
  · rename_i ds
    split at q1
    · rename_i hok
      obtain ⟨ps, hp, hal, hso, hdp⟩ := hok
      obtain ⟨a, vs, rfl, h1, h2, h3⟩ := r1.lst_inv a1.s
      obtain ⟨zs, rfl, rfl, hz⟩ := reps_zip h3
      have hm := pyAll_map hp
      have e2 : (zs.map fun z => (z.1, z.2.py.getD .none)).map (·.2) = ps := by
        rw [hm, List.map_map, List.map_map]; rfl
      have e3 : (zs.map fun z => (z.1, z.2.py.getD .none)).map (·.1) = zs.map (·.1) := by
        rw [List.map_map]; rfl
      refine ⟨a, zs.map fun z => (z.1, z.2.py.getD .none), rfl, by rw [e3]; exact SqL.of h1, ?_, by rw [e2]; exact hal, by rw [e2]; exact hso, fun z hz' => hdp z.2 (by rw [← e2]; exact List.mem_map_of_mem hz'), fun l hl => ?_⟩
      · rw [e2, e3]
        exact dpAll_mono a1.s.sub (h3.dp hp)
      · have em : ((zs.map fun z => (z.1, z.2.py.getD .none)).mergeSort (PySem.W.dataLe false (·.2))).map (·.1) = (zs.mergeSort (fun x y => leD x.2 y.2)).map (·.1) := by
          rw [← PySem.W.sort_maps (r := fun x y : V × D => leD x.2 y.2) (fun z : V × D => (z.1, z.2.py.getD .none)) (fun _ _ _ _ => rfl), List.map_map]; rfl
        rw [em]
        have ed : (zs.mergeSort (fun x y => leD x.2 y.2)).map (·.2) = (zs.map (·.2)).mergeSort leD := PySem.W.sort_maps _ (fun _ _ _ _ => rfl)
        refine OkO.mk a1 e1 hl (by simpa using h2) ?_ q1
        rw [← ed]
        exact zip_reps fun z hz' => hz z (List.mem_mergeSort.mp hz')
    · exact q1.elim
  · exact q1.elim
end
end DL
namespace DL
open PySem L2
theorem fz_lst {K : PySem.W.Frag} {mg : MG} {w : Ws} (s : Sts K mg w) {p : Addr} (hp : w.H p = none) {vs : List V} {ds : List D} (hz : vs.length ≤ sizeLine) (r : Reps K mg w.G w.ι vs ds) :
    ∃ w' : Ws, w'.ρ = w.ρ ∧ w'.st = w.st ∧ w'.σ = w.σ ∧ w'.H = upd w.H p (.lst vs) ∧ Aft K mg w w' ∧ Rep K mg w'.G w'.ι (.ref p) (.lst ds) :=
  have A := Aft.alloc (o := .lst vs) s hp
  ⟨{ w with G := upd w.G p (.lst vs), H := upd w.H p (.lst vs) }, rfl, rfl, rfl, rfl, A, .lst upd_same hz (r.mono A.g A.i)⟩
theorem fz_tup {K : PySem.W.Frag} {mg : MG} {w : Ws} (s : Sts K mg w) {p : Addr} (hp : w.H p = none) {vs : List V} {ds : List D} (hz : vs.length ≤ sizeLine) (r : Reps K mg w.G w.ι vs ds) :
    ∃ w' : Ws, w'.ρ = w.ρ ∧ w'.st = w.st ∧ w'.σ = w.σ ∧ w'.H = upd w.H p (.tup vs) ∧ Aft K mg w w' ∧ Rep K mg w'.G w'.ι (.ref p) (.tup ds) :=
  have A := Aft.alloc (o := .tup vs) s hp
  ⟨{ w with G := upd w.G p (.tup vs), H := upd w.H p (.tup vs) }, rfl, rfl, rfl, rfl, A, .tup (.inl (.inl upd_same)) hz (r.mono A.g A.i)⟩
@[simp] def addK : D → D → Option D
  | .int i, .int j => some (.int (i + j))
  | .str x, .str y => if x.length + y.length ≤ sizeLine then some (.str (x ++ y)) else none
  | .lst xs, .lst ys => if xs.length + ys.length ≤ sizeLine then some (.lst (xs ++ ys)) else none
  | .tup xs, .tup ys => if xs ≠ [] ∧ xs.length + ys.length ≤ sizeLine then some (.tup (xs ++ ys)) else none
  | _, _ => none
def AnsF (K : PySem.W.Frag) (mg : MG) (r : R2) (p : D → D → Option D) : Prop :=
  ∀ (w : Ws) (x y : V) (d e z : D) (Q : VK), Sts K mg w → Rep K mg w.G w.ι x d → Rep K mg w.G w.ι y e → p d e = some z → (∀ (w' : Ws) v, w'.ρ = w.ρ → w'.st = w.st → w'.σ = w.σ → Aft K mg w w' → Rep K mg w'.G w'.ι v z → Q v w'.H) → r x y w.H Q
section
variable {K : PySem.W.Frag} {mg : MG} {W : WB}
theorem ref_opF {r : R2} {p : D → D → Option D} {ta tb : TE} {f g : DEx} (hr : AnsF K mg r p) (ha : RefE K mg W ta f) (hb : RefE K mg W tb g) : RefE K mg W (tOp r ta tb) (lift2 p f g) := fun w Q s h => by
  refine ha.bindR (Q := Q) s h fun w1 x d s1 e1 a1 r1 h1 => ?_
  show tb w.σ w1.H _
  rw [← e1]
  refine hb.bindR (Q := Q) s1 h1 fun w2 y e s2 e2 a2 r2 h2 => ?_
  cases q : p d e with
  | none => simp only [q] at h2; exact h2.elim
  | some z =>
    simp only [q] at h2
    exact hr w2 x y d e z Q s2 (r1.mono a2.g a2.i) r2 q fun w' v h3 h4 h5 A rv => h2 w' v h3 h4 h5 A rv
theorem Ans2.f {r : R2} {p : D → D → Option D} (h : Ans2 K mg r p) : AnsF K mg r p := fun w x y d e z Q s rx ry q k => h w x y d e z Q s (.inl rx) (.inl ry) q fun v rv => k w v rfl rfl rfl (Aft.refl s) (rv _ _)
def pCat : D → D → Option D
  | .lst xs, .lst ys => if xs.length + ys.length ≤ sizeLine then some (.lst (xs ++ ys)) else none
  | _, _ => none
def pCatT : D → D → Option D
  | .tup xs, .tup ys => if xs ≠ [] ∧ xs.length + ys.length ≤ sizeLine then some (.tup (xs ++ ys)) else none
  | _, _ => none
theorem ansF_cat : AnsF K mg rCat pCat := fun w x y d e z Q s rx ry q k => by
  unfold pCat at q
  split at q
  · split at q
    · rename_i hz
      cases q
      cases rx with
      | lst h1 l1 s1 =>
        cases ry with
        | lst h2 l2 s2 =>
          have hz' := hz
          rw [← s1.len, ← s2.len] at hz'
          refine ⟨_, _, _, _, rfl, rfl, s.sub _ _ h1, s.sub _ _ h2, hz', fun p hp => ?_⟩
          obtain ⟨w', q1, q2, q3, q4, A, r⟩ := fz_lst s hp (by rw [List.length_append]; exact hz') (s1.append s2)
          rw [← q4]; exact k w' _ q1 q2 q3 A r
    · cases q
  · cases q
theorem ansF_catT : AnsF K mg (rCatT K) pCatT := fun w x y d e z Q s rx ry q k => by
  unfold pCatT at q
  split at q
  · split at q
    · rename_i hz
      cases q
      cases rx with
      | tup h1 l1 s1 =>
        cases ry with
        | tup h2 l2 s2 =>
          obtain ⟨hne, hz⟩ := hz
          have hz' := hz
          rw [← s1.len, ← s2.len] at hz'
          refine ⟨_, _, _, _, rfl, rfl, SqT.mono s.sub h1, SqT.mono s.sub h2, ?_, hz', fun h => ?_, fun _ p hp => ?_⟩
          · rintro rfl
            cases s1; exact hne rfl
          · subst h
            cases s2
            rw [List.append_nil] at k
            exact k w _ rfl rfl rfl (Aft.refl s) (.tup h1 l1 s1)
          · obtain ⟨w', q1, q2, q3, q4, A, r⟩ := fz_tup s hp (by rw [List.length_append]; exact hz') (s1.append s2)
            rw [← q4]; exact k w' _ q1 q2 q3 A r
    · cases q
  · cases q
theorem AnsF.or {r r' : R2} {p : D → D → Option D} (h : ∀ d e z, p d e = some z → ∃ (q : D → D → Option D), q d e = some z ∧ (AnsF K mg r q ∨ AnsF K mg r' q)) : AnsF K mg (fun x y H Q => r x y H Q ∨ r' x y H Q) p := fun w x y d e z Q s rx ry q k => by
  obtain ⟨q', h1, h2⟩ := h d e z q
  rcases h2 with h2 | h2
  · exact .inl (h2 w x y d e z Q s rx ry h1 k)
  · exact .inr (h2 w x y d e z Q s rx ry h1 k)
end
section
variable {X : Cx} {W : WB} {a b : Expr} {f g : DEx} {pos : Pos}
theorem de_opF {op : Operator} {r : R2} {p : D → D → Option D} (ho : OpR X (binaryOp op) r) (hr : AnsF X.K (MGx X W.b) r p) (ha : DE X W a f) (hb : DE X W b g) : DE X W (.BinOp a op b pos) (lift2 p f g) := by
  obtain ⟨ta, pa, ra⟩ := ha
  obtain ⟨tb, pb, rb⟩ := hb
  exact ⟨_, pe_op ho pa pb, ref_opF hr ra rb⟩
theorem de_addX (ha : DE X W a f) (hb : DE X W b g) : DE X W (.BinOp a .Add b pos) (lift2 addK f g) := by
  refine de_opF (opR_or op_add (opR_or op_add_str (opR_or op_cat op_catT))) (AnsF.or fun d e z q => ?_) ha hb
  unfold addK at q
  split at q
  · exact ⟨iop0 (· + ·), q, .inl ans_iop0.f⟩
  · exact ⟨sAdd, q, .inr (AnsF.or fun d e z q => ⟨sAdd, q, .inl ans_sadd.f⟩)⟩
  · exact ⟨pCat, q, .inr (AnsF.or fun d e z q => ⟨pCat, q, .inr (AnsF.or fun d e z q => ⟨pCat, q, .inl ansF_cat⟩)⟩)⟩
  · exact ⟨pCatT, q, .inr (AnsF.or fun d e z q => ⟨pCatT, q, .inr (AnsF.or fun d e z q => ⟨pCatT, q, .inr ansF_catT⟩)⟩)⟩
  · cases q
end
def repS (x : Str) (n : Nat) : Str := ⟨(List.replicate n x.cps.toList).flatten.toArray⟩
@[simp] noncomputable def mulK : D → D → Option D
  | .int i, .int j => if CMul i j then some (.int (i * j)) else none
  | .lst xs, .int k => if Rs k ∧ xs.length * k.toNat ≤ sizeLine then some (.lst (List.replicate k.toNat xs).flatten) else none
  | .str x, .int k => if 0 < k ∧ k < 1000 ∧ x.length ≤ 1000 then some (.str (repS x k.toNat)) else none
  | _, _ => none
def pRepS : D → D → Option D
  | .str x, .int k => if 0 < k ∧ k < 1000 ∧ x.length ≤ 1000 then some (.str (repS x k.toNat)) else none
  | _, _ => none
noncomputable def pRep : D → D → Option D
  | .lst xs, .int k => if Rs k ∧ xs.length * k.toNat ≤ sizeLine then some (.lst (List.replicate k.toNat xs).flatten) else none
  | _, _ => none
theorem ansF_rep {K : PySem.W.Frag} {mg : MG} : AnsF K mg rRep pRep := fun w x y d e z Q s rx ry q k => by
  unfold pRep at q
  split at q
  · split at q
    · rename_i hz
      cases q
      cases rx with
      | lst h1 l1 s1 =>
        refine ⟨_, _, _, rfl, ry.int_inv, s.sub _ _ h1, hz.1.1, hz.1.2, by rw [s1.len]; exact hz.2, fun p hp => ?_⟩
        have hl := hz.2
        rw [← s1.len] at hl
        obtain ⟨w', q1, q2, q3, q4, A, r⟩ := fz_lst s hp (by simpa [Nat.mul_comm] using hl) (s1.rep _)
        rw [← q4]; exact k w' _ q1 q2 q3 A r
    · cases q
  · cases q
theorem rep_eq (x : Str) (n : Nat) : (⟨(List.replicate n x.cps).foldl (· ++ ·) #[]⟩ : Str) = repS x n := by
  unfold repS
  congr 1
  have : ∀ (n : Nat) (acc : Array Nat), (List.replicate n x.cps).foldl (· ++ ·) acc = acc ++ (List.replicate n x.cps.toList).flatten.toArray := by
    intro n
    induction n with
    | zero => intro acc; simp
    | succ n ih =>
      intro acc
      rw [List.replicate_succ, List.foldl_cons, ih, List.replicate_succ, List.flatten_cons, Array.append_assoc]
      congr 1
      apply Array.ext'
      simp
  rw [this]; simp
theorem op_repS {X : Cx} : OpR X (binaryOp .Mult) (fun a b H Q => ∃ x k, a = .str x ∧ b = .int k ∧ (0 < k ∧ k < 1000 ∧ x.length ≤ 1000) ∧ Q (.str (repS x k.toNat)) H) := by
  intro pins s σ H a b v u Q I rx ry h
  obtain ⟨x, k, rfl, rfl, ⟨h1, h2, h3⟩, q⟩ := h
  obtain ⟨t, rfl⟩ := rx
  obtain ⟨t', rfl⟩ := ry
  refine PySem.P.mul_str (by simp; omega) (fun _ _ => ?_) (fun _ _ => ?_) ?_
  · have hk : (1000 : Int) ≤ (2 ^ 63 - 1) / k := Int.le_ediv_of_mul_le h1 (by omega)
    omega
  · have : x.length * k.toNat ≤ 1000 * 1000 := Nat.mul_le_mul h3 (by omega)
    have hs : sizeLine = 16777216 := sizeLine_eq
    simp only [Builtin.Str.tooLong]
    have : ¬ x.length * k.toNat > sizeLine := by omega
    simpa using this
  · rw [if_neg (by omega)]
    split
    · rename_i hh
      have : repS x k.toNat = x := by
        simp only [Bool.or_eq_true, beq_iff_eq] at hh
        unfold repS
        rcases hh with hh | hh
        · subst hh; simp
        · have : x.cps.toList = [] := by
            have : x.cps.toList.length = 0 := by
              have h' : x.cps.size = 0 := hh
              simpa using h'
            exact List.eq_nil_of_length_eq_zero this
          cases x with
          | mk c => simp at this; subst this; simp
      rw [this] at q
      exact ⟨.str x, H, I, ⟨_, rfl⟩, q⟩
    · rw [rep_eq]
      have hl : (repS x k.toNat).length ≤ sizeLine := by
        have e : (repS x k.toNat).length = k.toNat * x.length := by
          show ((List.replicate k.toNat x.cps.toList).flatten.toArray).size = _
          simp; rfl
        have : k.toNat * x.length ≤ 1000 * 1000 := Nat.mul_le_mul (by omega) h3
        have hs : sizeLine = 16777216 := sizeLine_eq
        omega
      exact ⟨hl, .str _, H, I.tok _, ⟨_, rfl⟩, q⟩
theorem ansF_repS {K : PySem.W.Frag} {mg : MG} : Ans2 K mg (fun a b H Q => ∃ x k, a = .str x ∧ b = .int k ∧ (0 < k ∧ k < 1000 ∧ x.length ≤ 1000) ∧ Q (.str (repS x k.toNat)) H) pRepS := fun w x y d e z Q s rx ry q k => by
  unfold pRepS at q
  split at q
  · split at q
    · cases q; exact ⟨_, _, rx.str_inv, ry.int_inv, by assumption, k _ fun _ _ => .str _⟩
    · cases q
  · cases q
theorem de_mulX {X : Cx} {W : WB} {a b : Expr} {f g : DEx} {pos : Pos} (ha : DE X W a f) (hb : DE X W b g) : DE X W (.BinOp a .Mult b pos) (lift2 mulK f g) := by
  refine de_opF (opR_or op_mul (opR_or op_rep op_repS)) (AnsF.or fun d e z q => ?_) ha hb
  unfold mulK at q
  split at q
  · exact ⟨iop CMul (· * ·), q, .inl ans_iop.f⟩
  · exact ⟨pRep, q, .inr (AnsF.or fun d e z q => ⟨pRep, q, .inl ansF_rep⟩)⟩
  · exact ⟨pRepS, q, .inr (AnsF.or fun d e z q => ⟨pRepS, q, .inr ansF_repS.f⟩)⟩
  · cases q
@[simp] def kSl : D → Option Int → Option Int → Option D
  | .lst ds, lo, hi => some (.lst (cutD ds lo hi))
  | .str z, lo, hi => if z.length ≤ sizeLine then some (.str (cutS z lo hi)) else none
  | .tup ds, lo, hi => if HT.sIx ds.length 0 lo = 0 ∧ HT.sIx ds.length ds.length hi = ds.length then none else some (.tup (cutD ds lo hi))
  | _, _, _ => none
theorem de_slice {X : Cx} {W : WB} {e : Expr} {lo hi : Option Expr} {f l h : DEx} {p2 pos : Pos} (he : DE X W e f) (hl : DB X W lo l) (hh : DB X W hi h) : DE X W (.Subscript e (.Slice lo hi none p2) pos) (slX kSl f l h) := by
  obtain ⟨te, pe, re⟩ := he
  obtain ⟨tl, pl, rl⟩ := hl
  obtain ⟨th, ph, rh⟩ := hh
  refine ⟨_, pe_slice (sl_list.or (sl_str.or sl_tup)) pe pl ph, fun w Q s q => ?_⟩
  refine ref_sl (P := OkR X.K (MGx X W.b) W w Q) (k := kSl) s re rl rh q (fun _ _ _ z => z) (fun z => z) fun w3 v d z lo hi e3 a3 r3 hz q3 => ?_
  cases d with
  | lst ds =>
    cases hz
    obtain ⟨a, vs, rfl, hs, hl, rs⟩ := r3.lst_inv a3.s
    · refine .inl ⟨_, _, rfl, SqL.of hs, fun p hp => ?_⟩
      obtain ⟨w', k1, k2, k3, k4, A, r⟩ := fz_lst a3.s hp (Nat.le_trans (cutV_length _ lo hi) hl) (rs.cut lo hi)
      rw [← k4]; exact q3 w' _ k1 k2 (k3.trans e3) (a3.trans A) r
  | str y =>
    have hz' : (if y.length ≤ sizeLine then some (D.str (cutS y lo hi)) else none) = some z := hz
    by_cases hh : y.length ≤ sizeLine
    · rw [if_pos hh] at hz'
      cases hz'
      exact .inr (.inl ⟨y, r3.str_inv, hh, q3 w3 _ rfl rfl e3 a3 (.str _)⟩)
    · rw [if_neg hh] at hz'; cases hz'
  | tup ds =>
    have hz' : (if HT.sIx ds.length 0 lo = 0 ∧ HT.sIx ds.length ds.length hi = ds.length then none else some (D.tup (cutD ds lo hi))) = some z := hz
    by_cases hh : HT.sIx ds.length 0 lo = 0 ∧ HT.sIx ds.length ds.length hi = ds.length
    · rw [if_pos hh] at hz'; cases hz'
    · rw [if_neg hh] at hz'
      cases hz'
      obtain ⟨a, vs, rfl, hs, hl, rs⟩ := r3.tup_inv a3.s
      · refine .inr (.inr ⟨_, _, rfl, hs, by rw [rs.len]; exact hh, fun p hp => ?_⟩)
        obtain ⟨w', k1, k2, k3, k4, A, r⟩ := fz_tup a3.s hp (Nat.le_trans (cutV_length _ lo hi) hl) (rs.cut lo hi)
        rw [← k4]; exact q3 w' _ k1 k2 (k3.trans e3) (a3.trans A) r
  | _ => cases hz
theorem takesF {X : Cx} {b : Low} : L2N.Takes X (WF b) := fun u s' h => by
  obtain ⟨_, _, _, _, _, _, _, _, _, _, _, _, _, _, _, _, h⟩ := h
  exact h.elim
theorem Room.u80 {k : Nat} {A : Around} (r : Room k A) : A.units + 80 < cLine := by have := r.un; omega
theorem Room.u65 {k : Nat} {A : Around} (r : Room k A) : A.units + 65 < cLine := by have := r.un; omega
def Cal (P : Program) (w : World) (K : PySem.W.Frag) (mg : Str → Option Value) (base : Heap) (k : Nat) (x : Str) (n : Nat) (den : Den) : Prop :=
  ∃ f fd ps, FnOk P w K mg base (L2N.CX P w) k f fd ps (spD K mg n den) ∧ mg x = some (.ref f) ∧ PySem.W.keepIn K (.ref f) = true ∧ Binds K fd ps []
def Dfn (K : PySem.W.Frag) (mg : Str → Option Value) (x : Str) (ps : List Str) (st : Stmt) : Prop := ∃ f fd, Fun K x x st f fd ∧ mg x = some (.ref f) ∧ Binds K fd ps []
theorem Cal.call {X : Cx} {W : WB} {k k' n : Nat} {den : Den} {x : Str} {p pos : Pos} {e : Expr} {es : List Expr} {fa : DEx} (C : Cal X.prog X.w X.K X.mg X.base k x n den) (hr : Room k' X.A) (hk : k ≤ k') (hg : Gl X x) (tk : L2N.Takes X W)
    (ha : DAn X W (e :: es) fa) (hn : (e :: es).length = n := by rfl) (hdb : (x == ("__debug__" : Str)) = false := by decide) (he : starEach (e :: es) X.env = (false, eval e X.env) :: starEach es X.env := by rfl) (hpl : (backTo pos (starEach es X.env)).any (·.1) = false := by rfl) :
    DE X W (.Call (.Name x p) (e :: es) [] pos) (callD den fa) := by
  obtain ⟨f, fd, ps, F, hm, kp, hb⟩ := C
  exact de_call F (hr.mono hk) hg hm kp hb tk ha hn hdb he hpl
theorem Cal.of {P : Program} {wd : World} {K : PySem.W.Frag} {mg : Str → Option Value} {base : Heap} {x : Str} {st : Stmt} {N ps : List Str} {k n m : Nat} {g : DSx} (Df : Dfn K mg x ps st) (S : FnScope N ps (defScope st)) (hn : n = N.length) (hm : m = ps.length)
    (hb : ∀ (f : Addr) (cdv : Value) (A : Around) (outer : List Env) (s : Shared) (H : Hp) (E : XK), Room k (A.deeper (PyProof.Rows.envOfC x (defScope st) s.heap.objs.size f cdv)) →
      DSs (cxOf (L2N.CX P wd) P wd K mg base N x (defScope st) f cdv A outer s H E) (WEx E) (defBody st) g) : Cal P wd K mg base (k + 1) x m (runD n g) := by
  obtain ⟨f, fd, F, hmg, hB⟩ := Df
  subst hm
  exact ⟨f, fd, ps, fn_D (funV_of F) S hn (hb f), hmg, F.kp, hB⟩
end DL
namespace DL
open PySem L2
section
variable {X : Cx} {W : WB} {x : Str} {pos : Pos}
theorem de_gintE {i : Int} (hg : Gl X x) (hm : ∃ t, X.mg x = some (.int i t)) (hdb : (x == ("__debug__" : Str)) = false := by decide) : DE X W (.Name x pos) (cst (.int i)) := let ⟨_, h⟩ := hm; de_gint hg h hdb
theorem de_gstrE {i : Str} (hg : Gl X x) (hm : ∃ t, X.mg x = some (.str i t)) (hdb : (x == ("__debug__" : Str)) = false := by decide) : DE X W (.Name x pos) (cst (.str i)) := let ⟨_, h⟩ := hm; de_gstr hg h hdb
end
theorem b_len : bootBuiltins "len" = some (.builtin "len") := by decide +kernel
theorem b_abs : bootBuiltins "abs" = some (.builtin "abs") := by decide +kernel
theorem b_max : bootBuiltins "max" = some (.builtin "max") := by decide +kernel
theorem b_min : bootBuiltins "min" = some (.builtin "min") := by decide +kernel
theorem b_all : bootBuiltins "all" = some (.builtin "all") := by decide +kernel
theorem b_int : bootBuiltins "int" = some (.type "int") := by decide +kernel
theorem b_str : bootBuiltins "str" = some (.type "str") := by decide +kernel
theorem b_bool : bootBuiltins "bool" = some (.type "bool") := by decide +kernel
theorem b_list : bootBuiltins "list" = some (.type "list") := by decide +kernel
theorem b_tuple : bootBuiltins "tuple" = some (.type "tuple") := by decide +kernel
def pInX (n : Bool) (d e : D) : Option D := (pInB d e).map fun b => .bl (if n then !b else b)
end DL
namespace DL
open PySem L2
def CPow2 (i j : Int) : Prop := 0 ≤ j ∧ j ≤ 1000 ∧ i.natAbs < 2 ^ 1000
instance (i j : Int) : Decidable (CPow2 i j) := by unfold CPow2; infer_instance
theorem op_powW {X : Cx} : OpR X (binaryOp .Pow) (rI CPow2 fun i j => .int (i ^ j.toNat)) := opI fun i j _ _ _ _ _ hc q => by
  refine PyProof.Rows.pow_int hc.1 ?_ q
  have h1 : Builtin.Int.intBits i ≤ 1000 := PyProof.Rows.intBits_le hc.2.2
  have h2 := hc.1
  have h3 := hc.2.1
  have : (Builtin.Int.intBits i : Int) * j ≤ 1000 * 1000 := Int.mul_le_mul (by omega) h3 h2 (by omega)
  omega
@[simp] def pPowW := iop CPow2 (fun i j => i ^ j.toNat)
theorem de_powW {X : Cx} {W : WB} {a b : Expr} {f g : DEx} {pos : Pos} (ha : DE X W a f) (hb : DE X W b g) : DE X W (.BinOp a .Pow b pos) (lift2 pPowW f g) := de_bin op_powW ans_iop ha hb.v
def putD (kvs : List (Key × D)) (k : Key) (d : D) : List (Key × D) :=
  if (kvs.any fun kv => decide (kv.1 = k)) = true then kvs.map (fun kv => if kv.1 = k then (kv.1, d) else kv) else kvs ++ [(k, d)]
def mergeD (kvs more : List (Key × D)) : List (Key × D) := more.foldl (fun acc kv => putD acc kv.1 kv.2) kvs
def getK (kvs : List (Key × D)) (k : Key) : Option D := (kvs.find? fun kv => decide (kv.1 = k)).map (·.2)
section
variable {K : PySem.W.Frag} {mg : MG} {G : Hp} {ι : List Addr}
theorem RepK.any : ∀ {vs : List (Key × V)} {ds : List (Key × D)} (k : Key), RepK K mg G ι vs ds → (vs.any fun kv => decide (kv.1 = k)) = ds.any fun kv => decide (kv.1 = k)
  | _, _, _, .nil => rfl
  | _, _, k, .cons r rs => by simp only [List.any_cons, RepK.any k rs]
theorem RepK.mapSet {v : V} {d : D} (k : Key) (r : Rep K mg G ι v d) : ∀ {vs : List (Key × V)} {ds : List (Key × D)}, RepK K mg G ι vs ds → RepK K mg G ι (vs.map (fun kv => if kv.1 = k then (kv.1, v) else kv)) (ds.map (fun kv => if kv.1 = k then (kv.1, d) else kv))
  | _, _, .nil => .nil
  | _, _, .cons (k := k') (v := v') (d := d') r' rs => by
    simp only [List.map_cons]
    by_cases e : k' = k
    · simp only [e, if_true]; exact .cons r (RepK.mapSet k r rs)
    · simp only [e, if_false]; exact .cons r' (RepK.mapSet k r rs)
theorem RepK.append : ∀ {vs ws : List (Key × V)} {ds es : List (Key × D)}, RepK K mg G ι vs ds → RepK K mg G ι ws es → RepK K mg G ι (vs ++ ws) (ds ++ es)
  | _, _, _, _, .nil, s => s
  | _, _, _, _, .cons r t, s => .cons r (RepK.append t s)
theorem RepK.put {v : V} {d : D} {k : Key} {vs : List (Key × V)} {ds : List (Key × D)} (h : RepK K mg G ι vs ds) (r : Rep K mg G ι v d) : RepK K mg G ι (putK vs k v) (putD ds k d) := by
  unfold putK putD
  rw [h.any k]
  split
  · exact h.mapSet k r
  · exact h.append (.cons r .nil)
theorem RepK.merge : ∀ {more : List (Key × V)} {md : List (Key × D)} {vs : List (Key × V)} {ds : List (Key × D)}, RepK K mg G ι vs ds → RepK K mg G ι more md → RepK K mg G ι (mergeK vs more) (mergeD ds md)
  | _, _, _, _, h, .nil => h
  | _, _, vs, ds, h, .cons (k := k) (v := v) (d := d) r rs => by
    have h1 := RepK.put (k := k) h r
    exact RepK.merge (vs := putK vs k v) (ds := putD ds k d) h1 rs
theorem RepK.len : ∀ {vs : List (Key × V)} {ds : List (Key × D)}, RepK K mg G ι vs ds → vs.length = ds.length
  | _, _, .nil => rfl
  | _, _, .cons _ r => by simp [RepK.len r]
theorem RepK.get {k : Key} : ∀ {vs : List (Key × V)} {ds : List (Key × D)}, RepK K mg G ι vs ds → (∀ d, getK ds k = some d → ∃ v, valV vs k = some v ∧ Rep K mg G ι v d) ∧ (getK ds k = none → valV vs k = none)
  | _, _, .nil => ⟨fun d h => by simp [getK] at h, fun _ => rfl⟩
  | _, _, .cons (k := k') (v := v') (d := d') r' rs => by
    obtain ⟨h1, h2⟩ := RepK.get (k := k) rs
    by_cases e : k' = k
    · refine ⟨fun d h => ?_, fun h => ?_⟩
      · simp [getK, List.find?_cons, e] at h
        subst h
        exact ⟨v', valV_pos e, r'⟩
      · simp [getK, List.find?_cons, e] at h
    · refine ⟨fun d h => ?_, fun h => ?_⟩
      · rw [valV_neg e]
        exact h1 d (by simpa [getK, List.find?_cons, e] using h)
      · rw [valV_neg e]
        exact h2 (by simpa [getK, List.find?_cons, e] using h)
end
@[simp] def D.key : D → Option Key
  | .int i => some (.inl i)
  | .str s => some (.inr s)
  | _ => none
theorem Rep.key {K : PySem.W.Frag} {mg : MG} {G : Hp} {ι : List Addr} {v : V} {d : D} {k : Key} (r : Rep K mg G ι v d) (h : d.key = some k) : v = kV k := by
  cases d with
  | int i => cases h; exact r.int_inv
  | str i => cases h; exact r.str_inv
  | _ => cases h
@[simp] def pairKs : List D → Option (List (Key × D))
  | [] => some []
  | k :: v :: r => match k.key, pairKs r with
    | some k, some kvs => some ((k, v) :: kvs)
    | _, _ => none
  | _ => none
@[simp] def dispD (f : DEx) (ρ : En) (st : Store) : R := (f ρ st).bind fun d ρ st => match d with
  | .tup ds => (match pairKs ds with
    | some kvs => if kvs.length ≤ 15 then .ok (.dct (mergeD [] kvs)) ρ st else .bad
    | none => .bad)
  | _ => .bad
inductive RepPr (K : PySem.W.Frag) (mg : MG) (G : Hp) (ι : List Addr) : List (V × V) → List D → Prop
  | nil : RepPr K mg G ι [] []
  | cons {x y : V} {a b : D} {ps : List (V × V)} {ds : List D} : Rep K mg G ι x a → Rep K mg G ι y b → RepPr K mg G ι ps ds → RepPr K mg G ι ((x, y) :: ps) (a :: b :: ds)
theorem RepPr.mono {K : PySem.W.Frag} {mg : MG} {G G' : Hp} {ι ι' : List Addr} (e : Same G G') (i : LeI ι ι') : ∀ {ps : List (V × V)} {ds : List D}, RepPr K mg G ι ps ds → RepPr K mg G' ι' ps ds
  | _, _, .nil => .nil
  | _, _, .cons a b r => .cons (a.mono e i) (b.mono e i) (RepPr.mono e i r)
theorem RepPr.keys {K : PySem.W.Frag} {mg : MG} {G : Hp} {ι : List Addr} : ∀ {ps : List (V × V)} {ds : List D} {kvs : List (Key × D)}, RepPr K mg G ι ps ds → pairKs ds = some kvs → ∃ vs : List (Key × V), ps = vs.map (fun kv => (kV kv.1, kv.2)) ∧ RepK K mg G ι vs kvs
  | _, _, _, .nil, h => by cases h; exact ⟨[], rfl, .nil⟩
  | _, _, kvs, .cons a b r, h => by
    unfold pairKs at h
    split at h
    · rename_i k kv e1 e2
      cases h
      obtain ⟨vs, e, rk⟩ := RepPr.keys r e2
      exact ⟨(k, _) :: vs, by rw [a.key e1, e]; rfl, .cons b rk⟩
    · cases h
def OkPr (K : PySem.W.Frag) (mg : MG) (W : WB) (w : Ws) (Q : List (V × V) → Hp → Prop) : R → Prop
  | .ok (.tup ds) ρ st => ∀ (w' : Ws) (ps : List (V × V)), w'.ρ = ρ → w'.st = st → w'.σ = w.σ → Aft K mg w w' → RepPr K mg w'.G w'.ι ps ds → Q ps w'.H
  | .ok _ _ _ => False
  | .exc c ρ st => ∀ (w' : Ws) (cls : Value) (dx : Option Addr), w'.ρ = ρ → w'.st = st → w'.σ = w.σ → Aft K mg w w' → ExcAt K mg w' c cls dx → W cls dx w'.σ w'.H
  | .bad => False
def RefPr (K : PySem.W.Frag) (mg : MG) (W : WB) (trs : List (TE × TE)) (f : DEx) : Prop := ∀ (w : Ws) (Q : List (V × V) → Hp → Prop), Sts K mg w → OkPr K mg W w Q (f w.ρ w.st) → tPairs trs w.σ w.H Q
section
variable {K : PySem.W.Frag} {mg : MG} {W : WB}
theorem OkPr.aft {Q : List (V × V) → Hp → Prop} {w w1 : Ws} {r : R} (h : OkPr K mg W w Q r) (a : Aft K mg w w1) (e : w1.σ = w.σ) : OkPr K mg W w1 Q r := by
  cases r with
  | ok d ρ st =>
    cases d with
    | tup ds => exact fun w' v h1 h2 h3 h4 h5 => h w' v h1 h2 (h3.trans e) (a.trans h4) h5
    | _ => exact h
  | exc c ρ st => exact fun w' cls dx h1 h2 h3 h4 h5 => h w' cls dx h1 h2 (h3.trans e) (a.trans h4) h5
  | bad => exact h
theorem refPr_nil : RefPr K mg W [] aNil := fun w Q s q => q w [] rfl rfl rfl (Aft.refl s) .nil
theorem refPr_cons {tk tv : TE} {trs : List (TE × TE)} {f g h : DEx} (hk : RefE K mg W tk f) (hv : RefE K mg W tv g) (hr : RefPr K mg W trs h) : RefPr K mg W ((tk, tv) :: trs) (aCons f (aCons g h)) := fun w Q s q => by
  refine hk.bind (P := OkPr K mg W w Q) s q (fun _ _ _ z => z) (fun z => z) fun w1 v1 d1 e1 a1 r1 q1 => ?_
  show tv w.σ w1.H _
  rw [← e1]
  unfold aCons at q1
  cases eg : g w1.ρ w1.st with
  | ok d2 ρ2 st2 =>
    rw [eg] at q1
    simp only [R.bind] at q1
    refine hv w1 _ a1.s ?_
    rw [eg]
    intro w2 v2 h1 h2 e2 a2 r2
    subst h1; subst h2
    rw [← e2]
    have a12 := a1.trans a2
    have e12 := e2.trans e1
    refine hr w2 _ a2.s ?_
    cases eh : h w2.ρ w2.st with
    | ok d3 ρ3 st3 =>
      rw [eh] at q1
      cases d3 with
      | tup ds =>
        intro w3 ps h1 h2 e3 a3 r3
        exact q1 w3 _ h1 h2 (e3.trans e12) (a12.trans a3) (.cons (r1.mono (a2.g.trans a3.g) (a2.i.trans a3.i)) (r2.mono a3.g a3.i) r3)
      | _ => exact q1.elim
    | exc c ρ3 st3 =>
      rw [eh] at q1
      exact fun w' cls dx h1 h2 h3 h4 h5 => q1 w' cls dx h1 h2 (h3.trans e12) (a12.trans h4) h5
    | bad => rw [eh] at q1; exact q1.elim
  | exc c ρ2 st2 =>
    rw [eg] at q1
    refine hv w1 _ a1.s ?_
    rw [eg]
    exact fun w' cls dx h1 h2 h3 h4 h5 => q1 w' cls dx h1 h2 (h3.trans e1) (a1.trans h4) h5
  | bad => rw [eg] at q1; exact q1.elim
end
def DPr (X : Cx) (W : WB) (pos : Pos) (keys : List (Option Expr)) (values : List Expr) (f : DEx) : Prop := ∃ trs, PPs X pos keys values trs ∧ RefPr X.K (MGx X W.b) W trs f
section
variable {X : Cx} {W : WB} {k v : Expr} {ks : List (Option Expr)} {vs : List Expr} {f g h : DEx} {pos : Pos}
theorem dpr_nil : DPr X W pos [] [] aNil := ⟨_, pps_nil, refPr_nil⟩
theorem dpr_cons (hk : DE X W k f) (hv : DE X W v g) (hr : DPr X W pos ks vs h) : DPr X W pos (some k :: ks) (v :: vs) (aCons f (aCons g h)) :=
  let ⟨_, p1, r1⟩ := hk; let ⟨_, p2, r2⟩ := hv; let ⟨_, p3, r3⟩ := hr; ⟨_, pps_cons p1 p2 p3, refPr_cons r1 r2 r3⟩
theorem fz_dct {K : PySem.W.Frag} {mg : MG} {w0 w : Ws} (A : Aft K mg w0 w) {p : Addr} {o : HO} (hf : w0.H p = none) (hl : Loose w p) (ho : w.H p = some o) {kvs : List (Key × V)} {ds : List (Key × D)} (r : RepK K mg w.G w.ι kvs ds) :
    ∃ w' : Ws, w'.ρ = w.ρ ∧ w'.st = w.st ∧ w'.σ = w.σ ∧ w'.H = upd w.H p (.dK kvs) ∧ Aft K mg w0 w' ∧ Rep K mg w'.G w'.ι (.ref p) (.dct ds) := by
  have A1 := A.looseUpd (o := .dK kvs) hf hl
  have A2 := A1.freeze (a := p) (o := .dK kvs) hf hl upd_same
  exact ⟨{ w with H := upd w.H p (.dK kvs), G := upd w.G p (.dK kvs) }, rfl, rfl, rfl, rfl, A2, .dct (.inl upd_same) (r.mono (same_upd hl.1) (LeI.refl _))⟩
theorem de_dict (hp : DPr X W pos ks vs f) (hall : ks.all (·.isSome) = true := by rfl) (hl : ks.length = vs.length := by rfl) (h0 : ks ≠ [] := by intro z; cases z) (h15 : ks.length ≤ 15 := by decide) : DE X W (.Dict ks vs pos) (dispD f) := by
  obtain ⟨trs, pp, rp⟩ := hp
  refine ⟨_, pe_disp pp hall hl h0 h15, fun w Q s q p hp => ?_⟩
  have A0 := Aft.loose (o := .dK []) s hp
  have L0 := s.looseAt (o := .dK []) hp
  unfold dispD at q
  refine rp { w with H := upd w.H p (.dK []) } _ A0.s ?_
  show OkPr X.K (MGx X W.b) W _ _ (f w.ρ w.st)
  cases e : f w.ρ w.st with
  | ok d ρ st =>
    rw [e] at q
    cases d with
    | tup ds =>
      intro w1 ps h1 h2 e1 a1 r1
      obtain ⟨L1, hp1⟩ := a1.still L0 upd_same
      refine ⟨hp1, ?_⟩
      simp only [R.bind] at q
      cases z : pairKs ds with
      | none => simp only [z] at q; exact q.elim
      | some kvs =>
        simp only [z] at q
        by_cases hz : kvs.length ≤ 15
        · simp only [if_pos hz] at q
          obtain ⟨vs', e', rk⟩ := r1.keys z
          obtain ⟨w', k1, k2, k3, k4, A, r⟩ := fz_dct (A0.trans a1) hp L1 hp1 (RepK.merge (ds := []) .nil rk)
          refine ⟨vs', e', by rw [rk.len]; exact hz, ?_⟩
          rw [← k4]
          exact q w' _ (k1.trans h1) (k2.trans h2) (k3.trans e1) A r
        · simp only [if_neg hz] at q; exact q.elim
    | _ => exact q.elim
  | exc c ρ st =>
    rw [e] at q
    exact fun w' cls dx h1 h2 h3 h4 h5 => q w' cls dx h1 h2 h3 (A0.trans h4) h5
  | bad => rw [e] at q; exact q.elim
end
theorem Cal.none {P : Program} {wd : World} {K : PySem.W.Frag} {mg : Str → Option Value} {base : Heap} {x : Str} {st : Stmt} {ps : List Str} {k m : Nat} (Df : Dfn K mg x ps st) (hm : m = ps.length) : Cal P wd K mg base k x m (fun _ _ => .bad) := by
  obtain ⟨f, fd, F, hmg, hB⟩ := Df
  subst hm
  refine ⟨f, fd, ps, ⟨fun vs H Q E h => h.1, fun A outer s H args us vs Q E _ _ _ _ h => ?_⟩, hmg, F.kp, hB⟩
  obtain ⟨_, w, ds, _, _, _, _, _, ok⟩ := h
  exact ok.elim
end DL
namespace DL
open PySem L2
theorem Law.of {P : Program} {wd : World} {K : PySem.W.Frag} {mg : Str → Option Value} {base : Heap} {x : Str} {st : Stmt} {N : List Str} {k n : Nat} {g : DSx} (S : FnScope N [x] (defScope st)) (hn : n = N.length)
    (hb : ∀ (f : Addr) (cdv : Value) (A : Around) (outer : List Env) (s : Shared) (H : Hp) (E : XK), Room k (A.deeper (PyProof.Rows.envOfC "law" (defScope st) s.heap.objs.size f cdv)) →
      DSs (cxOf (L2N.CX P wd) P wd K mg base N "law" (defScope st) f cdv A outer s H E) (WEx E) (defBody st) g) :
    ∀ {f : Addr} {fd : FuncData}, Fun K "law" "law" st f fd → FnOk P wd K mg base (L2N.CX P wd) (k + 1) f fd [x] (spD K mg 1 (runD n g)) := fun F => fn_D (funV_of F) S hn (hb _)
def spLaw (K : PySem.W.Frag) : Sp := fun vs H Q _ => ∃ (a : Addr) (ns : List Int), vs = [.ref a] ∧ SqL K H a (ns.map V.int) ∧ ns.length ≤ 63 ∧ ∀ H', Q (.bl true) H'
theorem reps_ints {K : PySem.W.Frag} {mg : MG} {G : Hp} {ι : List Addr} : ∀ ns : List Int, Reps K mg G ι (ns.map V.int) (ns.map D.int)
  | [] => .nil
  | n :: ns => .cons (.int n) (reps_ints ns)
end DL
namespace DL
open PySem L2
@[simp] theorem kitB_NoneType_str : kitB "NoneType" "str" = some false := by decide
@[simp] theorem kitB_NoneType_list : kitB "NoneType" "list" = some false := by decide
@[simp] theorem kitB_NoneType_tuple : kitB "NoneType" "tuple" = some false := by decide
@[simp] theorem kitB_NoneType_bool : kitB "NoneType" "bool" = some false := by decide
@[simp] theorem kitB_NoneType_int : kitB "NoneType" "int" = some false := by decide
@[simp] theorem kitB_NoneType_dict : kitB "NoneType" "dict" = some false := by decide
@[simp] theorem kitB_bool_str : kitB "bool" "str" = some false := by decide
@[simp] theorem kitB_bool_list : kitB "bool" "list" = some false := by decide
@[simp] theorem kitB_bool_tuple : kitB "bool" "tuple" = some false := by decide
@[simp] theorem kitB_bool_bool : kitB "bool" "bool" = some true := by decide
@[simp] theorem kitB_bool_int : kitB "bool" "int" = some true := by decide
@[simp] theorem kitB_bool_dict : kitB "bool" "dict" = some false := by decide
@[simp] theorem kitB_int_str : kitB "int" "str" = some false := by decide
@[simp] theorem kitB_int_list : kitB "int" "list" = some false := by decide
@[simp] theorem kitB_int_tuple : kitB "int" "tuple" = some false := by decide
@[simp] theorem kitB_int_bool : kitB "int" "bool" = some false := by decide
@[simp] theorem kitB_int_int : kitB "int" "int" = some true := by decide
@[simp] theorem kitB_int_dict : kitB "int" "dict" = some false := by decide
@[simp] theorem kitB_str_str : kitB "str" "str" = some true := by decide
@[simp] theorem kitB_str_list : kitB "str" "list" = some false := by decide
@[simp] theorem kitB_str_tuple : kitB "str" "tuple" = some false := by decide
@[simp] theorem kitB_str_bool : kitB "str" "bool" = some false := by decide
@[simp] theorem kitB_str_int : kitB "str" "int" = some false := by decide
@[simp] theorem kitB_str_dict : kitB "str" "dict" = some false := by decide
@[simp] theorem kitB_tuple_str : kitB "tuple" "str" = some false := by decide
@[simp] theorem kitB_tuple_list : kitB "tuple" "list" = some false := by decide
@[simp] theorem kitB_tuple_tuple : kitB "tuple" "tuple" = some true := by decide
@[simp] theorem kitB_tuple_bool : kitB "tuple" "bool" = some false := by decide
@[simp] theorem kitB_tuple_int : kitB "tuple" "int" = some false := by decide
@[simp] theorem kitB_tuple_dict : kitB "tuple" "dict" = some false := by decide
@[simp] theorem kitB_list_str : kitB "list" "str" = some false := by decide
@[simp] theorem kitB_list_list : kitB "list" "list" = some true := by decide
@[simp] theorem kitB_list_tuple : kitB "list" "tuple" = some false := by decide
@[simp] theorem kitB_list_bool : kitB "list" "bool" = some false := by decide
@[simp] theorem kitB_list_int : kitB "list" "int" = some false := by decide
@[simp] theorem kitB_list_dict : kitB "list" "dict" = some false := by decide
@[simp] theorem kitB_dict_str : kitB "dict" "str" = some false := by decide
@[simp] theorem kitB_dict_list : kitB "dict" "list" = some false := by decide
@[simp] theorem kitB_dict_tuple : kitB "dict" "tuple" = some false := by decide
@[simp] theorem kitB_dict_bool : kitB "dict" "bool" = some false := by decide
@[simp] theorem kitB_dict_int : kitB "dict" "int" = some false := by decide
@[simp] theorem kitB_dict_dict : kitB "dict" "dict" = some true := by decide
end DL
namespace DL
open PySem L2
class Dt (α : Type) [DecidableEq α] where
  d : α → D
  py : α → PyData
  ok : α → Prop
  dep : Nat
  pyd : ∀ a, (d a).py = some (py a)
  eqv : ∀ a b, PyData.eqv (py a) (py b) = decide (a = b)
  lay : ∀ a, ok a → (py a).canLay0 = true
  dle : ∀ a, (py a).depth ≤ dep
def okS (s : Str) : Prop := ∀ c ∈ s.cps.toList, c < 0x110000
theorem okS_lay {s : Str} (h : okS s) : (PyData.str s).canLay0 = true := by
  simp only [PyData.canLay0, PySem.PyData.strOk]
  rw [Array.all_eq_true']
  intro c hc
  exact decide_eq_true (h c (by simpa using hc))
theorem dec_beq {α : Type} [BEq α] [LawfulBEq α] [DecidableEq α] (a b : α) : (a == b) = decide (a = b) := by rw [Bool.eq_iff_iff, beq_iff_eq, decide_eq_true_eq]
instance : Dt Int where
  d := .int
  py := .int
  ok _ := True
  dep := 0
  pyd _ := by simp [D.py]
  eqv a b := by simp only [PyData.eqv]; exact dec_beq a b
  lay _ _ := by simp [PyData.canLay0]
  dle _ := Nat.le_refl _
instance : Dt Bool where
  d := .bl
  py := .bool
  ok _ := True
  dep := 0
  pyd _ := by simp [D.py]
  eqv a b := by simp only [PyData.eqv]; exact dec_beq a b
  lay _ _ := by simp [PyData.canLay0]
  dle _ := Nat.le_refl _
instance : Dt Str where
  d := .str
  py := .str
  ok s := okS s
  dep := 0
  pyd _ := by simp [D.py]
  eqv a b := by simp only [PyData.eqv]; exact dec_beq a b
  lay _ h := okS_lay h
  dle _ := Nat.le_refl _
section
variable {α : Type} [DecidableEq α] [Dt α]
theorem pyAll_dt : ∀ xs : List α, pyAll (xs.map Dt.d) = some (xs.map Dt.py)
  | [] => by simp [pyAll]
  | x :: xs => by simp only [List.map_cons, pyAll, Dt.pyd, pyAll_dt xs]
theorem eqvAll_map : ∀ xs ys : List α, PyData.eqvAll (xs.map Dt.py) (ys.map Dt.py) = decide (xs = ys)
  | [], [] => by simp [PyData.eqvAll]
  | [], _ :: _ => by simp [PyData.eqvAll]
  | _ :: _, [] => by simp [PyData.eqvAll]
  | x :: xs, y :: ys => by
    rw [List.map_cons, List.map_cons, PyData.eqvAll, Dt.eqv x y, eqvAll_map xs ys, ← Bool.decide_and]
    exact decide_eq_decide.mpr (by rw [List.cons.injEq])
theorem layAll_map : ∀ xs : List α, (∀ x ∈ xs, Dt.ok x) → PyData.canLayAll0 (xs.map Dt.py) = true
  | [], _ => by simp [PyData.canLayAll0]
  | x :: xs, h => by simp [PyData.canLayAll0, Dt.lay x (h x (by simp)), layAll_map xs fun y hy => h y (by simp [hy])]
theorem depAll_map : ∀ xs : List α, PyData.depthAll (xs.map Dt.py) ≤ Dt.dep α
  | [] => Nat.zero_le _
  | x :: xs => by
    rw [List.map_cons, PyData.depthAll]
    exact Nat.max_le.mpr ⟨Dt.dle x, depAll_map xs⟩
instance : Dt (List α) where
  d xs := .lst (xs.map Dt.d)
  py xs := .list (xs.map Dt.py)
  ok xs := ∀ x ∈ xs, Dt.ok x
  dep := Dt.dep α + 1
  pyd xs := by simp [D.py, pyAll_dt]
  eqv xs ys := by simp only [PyData.eqv]; exact eqvAll_map xs ys
  lay xs h := by simp only [PyData.canLay0]; exact layAll_map xs h
  dle xs := by simp only [PyData.depth]; exact Nat.succ_le_succ (depAll_map xs)
theorem pEqB_dt {a b : α} (ha : Dt.ok a) (hb : Dt.ok b) (h : Dt.dep α ≤ 64 := by decide) : pEqB (Dt.d a) (Dt.d b) = some (decide (a = b)) := by
  have s1 : SeqAt.shaped (Dt.py a) = true := by unfold SeqAt.shaped; rw [Dt.lay a ha]; simpa using Nat.le_trans (Dt.dle a) h
  have s2 : SeqAt.shaped (Dt.py b) = true := by unfold SeqAt.shaped; rw [Dt.lay b hb]; simpa using Nat.le_trans (Dt.dle b) h
  simp [pEqB, Dt.pyd, s1, s2, Dt.eqv]
end
theorem pEqB_int (i j : Int) : pEqB (.int i) (.int j) = some (decide (i = j)) := pEqB_dt (a := i) (b := j) trivial trivial
theorem pEqB_bl (i j : Bool) : pEqB (.bl i) (.bl j) = some (decide (i = j)) := pEqB_dt (a := i) (b := j) trivial trivial
@[simp] theorem pEq_int (i j : Int) : pEq (.int i) (.int j) = some (.bl (decide (i = j))) := by unfold pEq; rw [pEqB_int]; rfl
@[simp] theorem pNe_int (i j : Int) : pNe (.int i) (.int j) = some (.bl (!decide (i = j))) := by unfold pNe; rw [pEqB_int]; rfl
@[simp] theorem pEq_bl (i j : Bool) : pEq (.bl i) (.bl j) = some (.bl (decide (i = j))) := by unfold pEq; rw [pEqB_bl]; rfl
@[simp] theorem pNe_bl (i j : Bool) : pNe (.bl i) (.bl j) = some (.bl (!decide (i = j))) := by unfold pNe; rw [pEqB_bl]; rfl
def mkS (cs : List Nat) : Str := ⟨cs.toArray⟩
theorem mkS_of (s : Str) : mkS s.cps.toList = s := by cases s; simp [mkS]
@[simp] theorem mkS_cps (cs : List Nat) : (mkS cs).cps.toList = cs := by simp [mkS]
@[simp] theorem mkS_len (cs : List Nat) : (mkS cs).length = cs.length := by simp [mkS, Str.length]
theorem mkS_inj {a b : List Nat} : mkS a = mkS b ↔ a = b := ⟨fun h => by have := congrArg (fun s => s.cps.toList) h; simpa using this, fun h => by rw [h]⟩
theorem mkS_app (a b : List Nat) : mkS a ++ mkS b = mkS (a ++ b) := by
  show (⟨a.toArray ++ b.toArray⟩ : Str) = ⟨(a ++ b).toArray⟩
  simp
theorem mkS_ext {a b : Str} (h : a.cps.toList = b.cps.toList) : a = b := by rw [← mkS_of a, ← mkS_of b, h]
theorem cutS_cps (z : Str) (lo hi : Option Int) : (cutS z lo hi).cps.toList = (z.cps.toList.drop (HT.sIx z.length 0 lo)).take (HT.sIx z.length z.length hi - HT.sIx z.length 0 lo) := by simp [cutS]
theorem repS_cps (z : Str) (n : Nat) : (repS z n).cps.toList = (List.replicate n z.cps.toList).flatten := by simp [repS]
@[simp] theorem strL_map (xs : List Str) : strL (xs.map .str) = some xs := by
  induction xs with
  | nil => rfl
  | cons x xs ih => simp [ih]
@[simp] theorem bools_map {α : Type} (l : List α) (f : α → Bool) : bools (l.map fun x => .bl (f x)) = some (l.map f) := by
  induction l with
  | nil => rfl
  | cons x xs ih => simp [ih]
@[simp] theorem ixN_nat (n k : Nat) : ixN n (k : Int) = if k < n then some k else none := by
  unfold ixN
  rw [if_pos (by omega)]
  by_cases h : k < n
  · rw [if_pos h, if_pos (by omega)]; rfl
  · rw [if_neg h, if_neg (by omega)]
@[simp] theorem atI_nat {α : Type} (xs : List α) (k : Nat) : atI xs (k : Int) = xs[k]? := by
  unfold atI
  rw [ixN_nat]
  by_cases h : k < xs.length
  · simp [h]
  · simp [h]
@[simp] theorem atI_zero {α : Type} (xs : List α) : atI xs 0 = xs[0]? := atI_nat xs 0
@[simp] theorem atI_one {α : Type} (xs : List α) : atI xs 1 = xs[1]? := atI_nat xs 1
@[simp] theorem atI_2 {α : Type} (xs : List α) : atI xs 2 = xs[2]? := atI_nat xs 2
@[simp] theorem atI_3 {α : Type} (xs : List α) : atI xs 3 = xs[3]? := atI_nat xs 3
@[simp] theorem atI_4 {α : Type} (xs : List α) : atI xs 4 = xs[4]? := atI_nat xs 4
@[simp] theorem atI_5 {α : Type} (xs : List α) : atI xs 5 = xs[5]? := atI_nat xs 5
@[simp] theorem atI_6 {α : Type} (xs : List α) : atI xs 6 = xs[6]? := atI_nat xs 6
@[simp] theorem pInX_char (n : Bool) (c : Nat) (z : Str) : pInX n (.str ⟨#[c]⟩) (.str z) = some (.bl (if n then !decide (c ∈ z.cps.toList) else decide (c ∈ z.cps.toList))) := by simp [pInX, pInB]
@[simp] theorem pAll_map {α : Type} (l : List α) (f : α → Bool) : pAll (.lst (l.map fun x => .bl (f x))) = some (.bl (l.all f)) := by
  simp only [pAll, bools_map, Option.map_some]
  congr 2
  induction l with
  | nil => rfl
  | cons x xs ih => simp
end DL
namespace DL
open PySem L2
section
variable {K : PySem.W.Frag} {mg : MG} {w : Ws}
theorem Aft.kill (s : Sts K mg w) {l : Nat} {a : Addr} {c : Cell} {o : HO} (h0 : w.st[l]? = some c) (hd : c ≠ .dead) (h1 : w.ι[l]? = some a) (ha : w.H a = some o) :
    Aft K mg w { w with G := upd w.G a o, st := w.st.set l .dead } := by
  have own : Liv w l a := ⟨c, h0, hd, h1⟩
  have ga : w.G a = none := s.mtG own.mt
  have sg := same_upd (o := o) ga
  have sub' : Same (upd w.G a o) w.H := fun b u e => by
    by_cases h : b = a
    · subst h; rw [upd_same] at e; rw [ha]; exact e
    · rw [upd_ne h] at e; exact s.sub _ _ e
  have lv : ∀ k b, Liv { w with G := upd w.G a o, st := w.st.set l .dead } k b → Liv w k b ∧ k ≠ l := fun k b h => by
    obtain ⟨c', q1, q2, q3⟩ := h
    rcases getElem?_set_ite q1 with ⟨_, e, _⟩ | ⟨ne, e⟩
    · exact absurd e q2
    · exact ⟨⟨c', e, q2, q3⟩, ne⟩
  have gne : ∀ b, b ≠ a → w.G b = none → upd w.G a o b = none := fun b hb e => by rw [upd_ne hb]; exact e
  refine ⟨⟨s.lowG.trans sg, s.lowI, sub', s.ln, by simpa using s.len, fun k c' b q1 q2 => ?_, fun k k' b q1 q2 => s.inj k k' b (lv k b q1).1 (lv k' b q2).1, fun i x h => ?_, fun i k b q1 q2 => s.sep i k b q1 (lv k b q2).1, s.dis⟩, sg, LeI.refl _, fun _ _ h _ => h, fun b h => ?_, fun b h => ?_, fun _ h => h⟩
  · rcases getElem?_set_ite q1 with ⟨_, e2, _⟩ | ⟨ne, e⟩
    · subst e2; trivial
    · exact (s.cel k c' b e q2).keep (w' := { w with G := upd w.G a o, st := w.st.set l .dead }) sg (LeI.refl _) (fun n => ⟨gne b (fun q : b = a => ne (s.inj k l b ⟨c', e, n, q2⟩ (q ▸ own))) (s.mtG (.inl ⟨k, c', e, n, q2⟩)), fun _ e => e⟩) sub'
  · refine (s.slo i x h).keep (w' := { w with G := upd w.G a o, st := w.st.set l .dead }) sg (LeI.refl _) fun b ⟨es, e3⟩ h2 => ?_
    have o2 : OwnS w i b := ⟨es, by rw [h, e3], h2⟩
    exact ⟨gne b (fun q : b = a => s.sep i l b o2 (q ▸ own)) (s.mtG o2.mt), fun _ e => e⟩
  · rcases h with ⟨k, h⟩ | h
    · exact .inl (.inl ⟨k, (lv k b h).1⟩)
    · exact .inl (.inr h)
  · by_cases e : b = a
    · subst e; exact .inr (.inl own.mt)
    · refine .inl ?_
      have h' : upd w.G a o b ≠ none := h
      rwa [upd_ne e] at h'
theorem Aft.newCellG {w0 : Ws} (A : Aft K mg w0 w) {a : Addr} {c : Cell} (hf : w0.H a = none) (hl : Loose w a) (hc : c ≠ .dead) (r : CellAt K mg w a c) :
    Aft K mg w0 { w with ι := w.ι ++ [a], st := w.st ++ [c] } := by
  have s := A.s
  have le := leI_append w.ι a
  have lv : ∀ l b, Liv { w with ι := w.ι ++ [a], st := w.st ++ [c] } l b → (l = w.st.length ∧ b = a) ∨ Liv w l b := fun l b h => by
    obtain ⟨c, h1, h2, h3⟩ := h
    rcases getElem?_append_one h1 with h1 | ⟨h1, _⟩
    · rcases getElem?_append_one h3 with h3 | ⟨h3, _⟩
      · exact .inr ⟨c, h1, h2, h3⟩
      · have := (List.getElem?_eq_some_iff.mp h1).1
        rw [s.len] at this; omega
    · rcases getElem?_append_one h3 with h3 | ⟨_, h3⟩
      · have := (List.getElem?_eq_some_iff.mp h3).1
        rw [← s.len] at this; omega
      · exact .inl ⟨h1, h3⟩
  refine ⟨⟨s.lowG, s.lowI.trans le, s.sub, s.ln, by simp [s.len], fun l c b h1 h2 => ?_, fun l l' b h1 h2 => ?_, fun i x h => ?_, fun i l b h1 h2 => ?_, s.dis⟩, A.g, A.i.trans le, A.kp, fun b h => ?_, A.gn, A.al⟩
  · rcases getElem?_append_one h1 with h1 | ⟨h1, e⟩
    · rcases getElem?_append_one h2 with h2 | ⟨h2, _⟩
      · exact (s.cel l c b h1 h2).keep (w' := { w with ι := w.ι ++ [a], st := w.st ++ [_] }) (Same.refl _) le (fun n => ⟨s.mtG (.inl ⟨l, c, h1, n, h2⟩), fun _ e => e⟩) s.sub
      · have := (List.getElem?_eq_some_iff.mp h1).1
        rw [s.len] at this; omega
    · rcases getElem?_append_one h2 with h2 | ⟨_, h3⟩
      · have := (List.getElem?_eq_some_iff.mp h2).1
        rw [← s.len] at this; omega
      · subst e; subst h3
        exact r.keep (w' := { w with ι := w.ι ++ [_], st := w.st ++ [_] }) (Same.refl _) le (fun _ => ⟨hl.1, fun _ e => e⟩) s.sub
  · rcases lv l b h1 with ⟨e1, e⟩ | q1 <;> rcases lv l' b h2 with ⟨e2, e'⟩ | q2
    · rw [e1, e2]
    · subst e; exact (hl.2 (.inl ⟨l', q2⟩)).elim
    · subst e'; exact (hl.2 (.inl ⟨l, q1⟩)).elim
    · exact s.inj l l' b q1 q2
  · exact (s.slo i x h).keep (w' := { w with ι := w.ι ++ [a], st := w.st ++ [c] }) (Same.refl _) le fun b ⟨es, e⟩ h2 => ⟨s.mtG (.inr ⟨i, es, by rw [h, e], h2⟩), fun _ e => e⟩
  · rcases lv l b h2 with ⟨_, e⟩ | q2
    · subst e; exact hl.2 (.inr ⟨i, h1⟩)
    · exact s.sep i l b h1 q2
  · rcases h with ⟨l, h⟩ | h
    · rcases lv l b h with ⟨_, e⟩ | q
      · subst e; exact .inr hf
      · exact A.nw b (.inl ⟨l, q⟩)
    · exact A.nw b (.inr h)
end
mutual
def frz : D → Store → Option (D × Store)
  | .ref l, st => match st[l]? with
    | some (.lst ds) => some (.lst ds, st.set l .dead)
    | some (.dct ds) => some (.dct ds, st.set l .dead)
    | some (.ins c fs) => some (.ins c fs, st.set l .dead)
    | _ => none
  | .tup ds, st => match frzs ds st with
    | some (ds', st') => some (.tup ds', st')
    | none => none
  | .lst ds, st => match frzs ds st with
    | some (ds', st') => some (.lst ds', st')
    | none => none
  | d, st => some (d, st)
def frzs : List D → Store → Option (List D × Store)
  | [], st => some ([], st)
  | d :: ds, st => match frz d st with
    | some (d', st') => (match frzs ds st' with
      | some (ds', st'') => some (d' :: ds', st'')
      | none => none)
    | none => none
end
section
variable {K : PySem.W.Frag} {mg : MG}
def FrzOk (K : PySem.W.Frag) (mg : MG) (w w' : Ws) (st' : Store) : Prop := w'.ρ = w.ρ ∧ w'.σ = w.σ ∧ w'.H = w.H ∧ w'.st = st' ∧ Aft K mg w w'
theorem FrzOk.refl {w : Ws} (s : Sts K mg w) : FrzOk K mg w w w.st := ⟨rfl, rfl, rfl, rfl, .refl s⟩
theorem FrzOk.trans {w w1 w2 : Ws} {st1 st2 : Store} (a : FrzOk K mg w w1 st1) (b : FrzOk K mg w1 w2 st2) : FrzOk K mg w w2 st2 :=
  ⟨b.1.trans a.1, b.2.1.trans a.2.1, b.2.2.1.trans a.2.2.1, b.2.2.2.1, a.2.2.2.2.trans b.2.2.2.2⟩
theorem frz_ref {w : Ws} (s : Sts K mg w) {v : V} {l : Nat} {d' : D} {st' : Store} (r : Rep K mg w.G w.ι v (.ref l)) (h : frz (.ref l) w.st = some (d', st')) : ∃ w', FrzOk K mg w w' st' ∧ Rep K mg w'.G w'.ι v d' := by
  cases r with
  | ref hi =>
    rename_i a
    rw [frz] at h
    split at h
    · rename_i ds e
      cases h
      obtain ⟨_, vs, e1, e2, e3⟩ := s.cel l _ a e hi
      have A := Aft.kill s e (by simp) hi e1
      exact ⟨{ w with G := upd w.G a (.lst vs), st := w.st.set l .dead }, ⟨rfl, rfl, rfl, rfl, A⟩, .lst upd_same e2 (e3.mono A.g A.i)⟩
    · rename_i ds e
      cases h
      obtain ⟨_, vs, e1, e3⟩ := s.cel l _ a e hi
      have A := Aft.kill s e (by simp) hi e1
      exact ⟨{ w with G := upd w.G a (.dK vs), st := w.st.set l .dead }, ⟨rfl, rfl, rfl, rfl, A⟩, .dct (.inl upd_same) (e3.mono A.g A.i)⟩
    · rename_i c fs e
      cases h
      obtain ⟨_, C, dx, vs, e0, e1, e2, e3, e4⟩ := s.cel l _ a e hi
      have A := Aft.kill s e (by simp) hi e1
      exact ⟨{ w with G := upd w.G a (.ins C dx vs), st := w.st.set l .dead }, ⟨rfl, rfl, rfl, rfl, A⟩, .ins e0 upd_same (A.g _ _ e3) (e4.mono A.g A.i)⟩
    · cases h
mutual
theorem frz_ok : ∀ (d : D) {w : Ws} {v : V} {d' : D} {st' : Store}, Sts K mg w → Rep K mg w.G w.ι v d → frz d w.st = some (d', st') → ∃ w', FrzOk K mg w w' st' ∧ Rep K mg w'.G w'.ι v d'
  | .ref l, w, v, d', st', s, r, h => frz_ref s r h
  | .tup ds, w, v, d', st', s, r, h => by
    cases r with
    | tup h1 h2 h3 =>
      rw [frz] at h
      split at h
      · rename_i ds' st2 e
        cases h
        obtain ⟨w', F, rs⟩ := frzs_ok ds s h3 e
        exact ⟨w', F, .tup (SqT.mono F.2.2.2.2.g h1) h2 rs⟩
      · cases h
  | .lst ds, w, v, d', st', s, r, h => by
    cases r with
    | lst h1 h2 h3 =>
      rw [frz] at h
      split at h
      · rename_i ds' st2 e
        cases h
        obtain ⟨w', F, rs⟩ := frzs_ok ds s h3 e
        exact ⟨w', F, .lst (F.2.2.2.2.g _ _ h1) h2 rs⟩
      · cases h
  | .non, w, v, d', st', s, r, h => by simp [frz] at h; obtain ⟨rfl, rfl⟩ := h; exact ⟨w, .refl s, r⟩
  | .bl _, w, v, d', st', s, r, h => by simp [frz] at h; obtain ⟨rfl, rfl⟩ := h; exact ⟨w, .refl s, r⟩
  | .int _, w, v, d', st', s, r, h => by simp [frz] at h; obtain ⟨rfl, rfl⟩ := h; exact ⟨w, .refl s, r⟩
  | .str _, w, v, d', st', s, r, h => by simp [frz] at h; obtain ⟨rfl, rfl⟩ := h; exact ⟨w, .refl s, r⟩
  | .dct _, w, v, d', st', s, r, h => by simp [frz] at h; obtain ⟨rfl, rfl⟩ := h; exact ⟨w, .refl s, r⟩
  | .lsk _, w, v, d', st', s, r, h => by simp [frz] at h; obtain ⟨rfl, rfl⟩ := h; exact ⟨w, .refl s, r⟩
  | .dlk _, w, v, d', st', s, r, h => by simp [frz] at h; obtain ⟨rfl, rfl⟩ := h; exact ⟨w, .refl s, r⟩
  | .ins _ _, w, v, d', st', s, r, h => by simp [frz] at h; obtain ⟨rfl, rfl⟩ := h; exact ⟨w, .refl s, r⟩
  | .glb _, w, v, d', st', s, r, h => by simp [frz] at h; obtain ⟨rfl, rfl⟩ := h; exact ⟨w, .refl s, r⟩
  | .typ _, w, v, d', st', s, r, h => by simp [frz] at h; obtain ⟨rfl, rfl⟩ := h; exact ⟨w, .refl s, r⟩
theorem frzs_ok : ∀ (ds : List D) {w : Ws} {vs : List V} {ds' : List D} {st' : Store}, Sts K mg w → Reps K mg w.G w.ι vs ds → frzs ds w.st = some (ds', st') → ∃ w', FrzOk K mg w w' st' ∧ Reps K mg w'.G w'.ι vs ds'
  | [], w, vs, ds', st', s, r, h => by
    cases r
    simp [frzs] at h; obtain ⟨rfl, rfl⟩ := h; exact ⟨w, .refl s, .nil⟩
  | d :: ds, w, vs, ds', st', s, r, h => by
    cases r with
    | cons r1 r2 =>
      rw [frzs] at h
      split at h
      · rename_i d1 st1 e1
        split at h
        · rename_i ds2 st2 e2
          cases h
          obtain ⟨w1, F1, q1⟩ := frz_ok d s r1 e1
          have A1 := F1.2.2.2.2
          rw [← F1.2.2.2.1] at e2
          obtain ⟨w2, F2, q2⟩ := frzs_ok ds A1.s (r2.mono A1.g A1.i) e2
          have A2 := F2.2.2.2.2
          exact ⟨w2, F1.trans F2, .cons (q1.mono A2.g A2.i) q2⟩
        · cases h
      · cases h
end
end
section
variable {X : Cx} {W : WB} {e : Expr} {f : DEx}
end
@[simp] def cellE (f : DEx) (ρ : En) (st : Store) : R := (f ρ st).bind fun d ρ st => match d with
  | .lst ds => .ok (.ref st.length) ρ (st ++ [.lst ds])
  | _ => .bad
theorem DO.cell {X : Cx} {W : WB} {e : Expr} {f : DEx} (h : DO X W e f) : DE X W e (cellE f) := by
  obtain ⟨⟨t, p, r⟩, hl⟩ := h
  refine ⟨t, p, fun w Q s q => r w Q s ?_⟩
  unfold cellE at q
  cases e1 : f w.ρ w.st with
  | ok d ρ st =>
    rw [e1] at q
    obtain ⟨ds, rfl⟩ := hl _ _ _ _ _ e1
    intro w' a vs h1 h2 h3 A fr lo ha hz rp
    subst h1; subst h2
    have A1 := A.newCell fr lo ha hz rp
    exact q { w' with ι := w'.ι ++ [a], st := w'.st ++ [.lst ds] } (.ref a) rfl rfl h3 A1 (cellRep A)
  | exc c ρ st => rw [e1] at q; exact q
  | bad => rw [e1] at q; exact q
end DL
namespace DL
open PySem L2
@[simp] def insOf (st : Store) : D → Option (Str × List (Str × D))
  | .ins c fs => some (c, fs)
  | .ref l => match st[l]? with
    | some (.ins c fs) => some (c, fs)
    | _ => none
  | _ => none
section
variable {K : PySem.W.Frag} {mg : MG}
theorem insOf_inv {w : Ws} (s : Sts K mg w) {v : V} {d : D} {c : Str} {fs : List (Str × D)} (r : Rep K mg w.G w.ι v d) (h : insOf w.st d = some (c, fs)) :
    ∃ a C dx vs, v = .ref a ∧ mg c = some (.ref C) ∧ w.H a = some (.ins C dx vs) ∧ RepF K mg w.G w.ι vs fs := by
  unfold insOf at h
  split at h
  · cases h
    cases r with
    | ins h1 h2 h3 h4 => exact ⟨_, _, _, _, rfl, h1, s.sub _ _ h2, h4⟩
  · split at h
    · rename_i e
      cases h
      cases r with
      | ref hi =>
        obtain ⟨_, C, dx, vs, e0, e1, _, _, e4⟩ := s.cel _ _ _ e hi
        exact ⟨_, _, _, _, rfl, e0, e1, e4⟩
    · cases h
  · cases h
theorem RepF.lookup {G : Hp} {ι : List Addr} {f : Str} : ∀ {vs : List (Str × V)} {fs : List (Str × D)}, RepF K mg G ι vs fs → (∀ d, fs.lookup f = some d → ∃ v, vs.lookup f = some v ∧ Rep K mg G ι v d) ∧ (fs.lookup f = none → vs.lookup f = none)
  | _, _, .nil => ⟨fun _ h => by simp at h, fun _ => rfl⟩
  | _, _, .cons (k := k) r rs => by
    by_cases h : f = k
    · subst h
      refine ⟨fun d e => ?_, fun e => ?_⟩
      · simp only [List.lookup_cons, beq_self_eq_true] at e ⊢
        cases e; exact ⟨_, rfl, r⟩
      · simp [List.lookup_cons] at e
    · have hb : (f == k) = false := beq_eq_false_iff_ne.mpr h
      simp only [List.lookup_cons, hb]
      exact RepF.lookup rs
theorem RepF.len {G : Hp} {ι : List Addr} : ∀ {vs : List (Str × V)} {fs : List (Str × D)}, RepF K mg G ι vs fs → vs.length = fs.length
  | _, _, .nil => rfl
  | _, _, .cons r rs => by simp [RepF.len rs]
end
@[simp] def putFD (f : Str) (d : D) : List (Str × D) → List (Str × D)
  | [] => [(f, d)]
  | (g, x) :: r => if g = f then (g, d) :: r else (g, x) :: putFD f d r
theorem RepF.put {K : PySem.W.Frag} {mg : MG} {G : Hp} {ι : List Addr} {f : Str} {v : V} {d : D} (r : Rep K mg G ι v d) : ∀ {vs : List (Str × V)} {fs : List (Str × D)}, RepF K mg G ι vs fs → RepF K mg G ι (putF f v vs) (putFD f d fs)
  | _, _, .nil => .cons r .nil
  | _, _, .cons (k := k) (v := x) (d := y) (vs := vs) (ds := fs) q qs => by
    show RepF K mg G ι (if k = f then (k, v) :: vs else (k, x) :: putF f v vs) (if k = f then (k, d) :: fs else (k, y) :: putFD f d fs)
    by_cases h : k = f
    · rw [if_pos h, if_pos h]; exact .cons r qs
    · rw [if_neg h, if_neg h]; exact .cons q (RepF.put r qs)
def MCal (P : Program) (w : World) (K : PySem.W.Frag) (mg : Str → Option Value) (base : Heap) (k : Nat) (c m : Str) (n : Nat) (den : Den) (dds : List D) : Prop :=
  ∃ C f fd ps ds dvs, mg c = some (.ref C) ∧ Cls K C ∧ Meth K C m f ∧ FnOk P w K mg base (L2N.CX P w) k f fd ps (spD K mg n den) ∧ Binds K fd ps ds ∧ Vals dvs ds ∧ ∀ b G ι, Reps K ⟨mg, b⟩ G ι dvs dds
@[simp] def methD (c m : Str) (den : Den) (dds : List D) (g fa : DEx) (ρ : En) (st : Store) : R := (g ρ st).bind fun d ρ st => match insOf st d with
  | some (c', fs) => if c' = c ∧ fs.lookup m = none then (fa ρ st).bind fun a ρ st => (match a with
    | .tup ds => (match den (d :: (ds ++ dds)) st with
      | .ok r _ st' => .ok r ρ st'
      | .exc c _ st' => .exc c ρ st'
      | .bad => .bad)
    | _ => .bad) else .bad
  | none => .bad
theorem passes_const {X : Cx} {E : XK} {b : Low} (tk : L2N.Takes X (WEb b E)) : Passes (L2N.CX X.prog X.w) X E := fun pins σ H s e s' I c => L2N.passAt tk σ pins H s e s' I c
theorem ref_meth {K : PySem.W.Frag} {mg : Str → Option Value} {E : XK} {b : Low} {ta : TE} {t : TA} {C : Addr} {c m : Str} {n : Nat} {den : Den} {dvs : List V} {dds : List D} {g fa : DEx} (hm : mg c = some (.ref C)) (hd : ∀ G ι, Reps K ⟨mg, b⟩ G ι dvs dds) (ra : RefE K ⟨mg, b⟩ (WEb b E) ta g) (rt : RefA K ⟨mg, b⟩ (WEb b E) t fa)
    (hl : ∀ ρ st d ρ' st', fa ρ st = .ok d ρ' st' → ∃ ds, d = .tup ds ∧ ds.length + dds.length + 1 = n) : RefE K ⟨mg, b⟩ (WEb b E) (tMeth C m (spD K mg n den) dvs E ta t) (methD c m den dds g fa) := fun w Q s q => by
  refine ra.bindR s q fun w1 v d s1 e1 a1 rp q1 => ?_
  cases hz : insOf w1.st d with
  | none => simp only [hz] at q1; exact q1.elim
  | some cf =>
    obtain ⟨c', fs⟩ := cf
    simp only [hz] at q1
    by_cases hh : c' = c ∧ fs.lookup m = none
    · rw [if_pos hh] at q1
      obtain ⟨rfl, hlk⟩ := hh
      obtain ⟨a, C', dx, vs, rfl, hm', ha, rf⟩ := insOf_inv s1 rp hz
      have hm' := hm.symm.trans hm'
      cases hm'
      refine ⟨a, dx, vs, rfl, ha, rf.lookup.2 hlk, ?_⟩
      rw [← e1]
      refine rt.bind (P := OkR K ⟨mg, b⟩ (WEb b E) w1 Q) s1 q1 (fun d ρ st n => by cases d <;> first | rfl | exact absurd rfl (n _)) (fun _ _ _ z => z) (fun z => z) fun w2 us ds e2 a2 r2 ee q2 => ?_
      have l : us.length + dvs.length + 1 = n := by
        obtain ⟨ds', e', l⟩ := hl _ _ _ _ _ ee
        cases e'
        rw [r2.len, (hd w.G w.ι).len]; exact l
      refine sp_at (W := WEb b E) (σ := w2.σ) a2.s (by simp; omega) (.cons (rp.mono a2.g a2.i) (r2.append (hd _ _))) rfl ?_
      exact OkR.aft q2 a2 e2
    · rw [if_neg hh] at q1; exact q1.elim
theorem MCal.call {X : Cx} {E : XK} {b : Low} {k k' n : Nat} {den : Den} {c m : Str} {dds : List D} {o e : Expr} {es : List Expr} {g fa : DEx} {apos pos : Pos} {pl : Sem Bool} (M : MCal X.prog X.w X.K X.mg X.base k c m n den dds) (hr : Room k' X.A) (hk : k ≤ k') (tk : L2N.Takes X (WEb b E)) (ho : DE X (WEb b E) o g) (ha : DAn X (WEb b E) (e :: es) fa)
    (hn : (e :: es).length + dds.length + 1 = n := by rfl) (hst : starEach (e :: es) X.env = (false, eval e X.env) :: starEach es X.env := by rfl) (hpl : (backTo pos (starEach es X.env)).any (·.1) = false := by rfl)
    (ht : eval (.Call (.Attribute o m apos) (e :: es) [] pos) X.env = (do let ov ← eval o X.env; standAt apos.atName; let (f, first) ← holding [ov] (getMethod ov m pl); callWith pos f first (backTo pos (starEach (e :: es) X.env)) (backToKw pos (keywordEach [] X.env))) := by rfl) :
    DE X (WEb b E) (.Call (.Attribute o m apos) (e :: es) [] pos) (methD c m den dds g fa) := by
  obtain ⟨C, f, fd, ps, ds, dvs, hm, hC, hM, F, hB, hV, hD⟩ := M
  obtain ⟨to, po, ro⟩ := ho
  obtain ⟨⟨ta, pa, ra⟩, hl⟩ := ha
  refine ⟨_, pe_meth (pl := pl) po hC hM F (hr.mono hk) hB hV (passes_const tk) pa hst hpl ht, ref_meth hm (hD _) ro ra fun ρ st d ρ' st' h => ?_⟩
  obtain ⟨ds, e1, e2⟩ := hl _ _ _ _ _ h
  exact ⟨ds, e1, by rw [e2]; exact hn⟩
def KCal (P : Program) (w : World) (K : PySem.W.Frag) (mg : Str → Option Value) (base : Heap) (k : Nat) (c : Str) (n : Nat) (den : Den) (dds : List D) : Prop :=
  ∃ C f fd ps ds dvs, mg c = some (.ref C) ∧ Mk K C f ∧ FnOk P w K mg base (L2N.CX P w) k f fd ps (spD K mg n den) ∧ Binds K fd ps ds ∧ Vals dvs ds ∧ ∀ b G ι, Reps K ⟨mg, b⟩ G ι dvs dds
@[simp] def makeD (c : Str) (den : Den) (dds : List D) (fa : DEx) (ρ : En) (st : Store) : R := (fa ρ st).bind fun a ρ st => match a with
  | .tup ds => (match den (.ref st.length :: (ds ++ dds)) (st ++ [.ins c []]) with
    | .ok .non _ st' => .ok (.ref st.length) ρ st'
    | .exc x _ st' => .exc x ρ st'
    | _ => .bad)
  | _ => .bad
theorem ref_make {K : PySem.W.Frag} {mg : Str → Option Value} {E : XK} {b : Low} {t : TA} {C : Addr} {c : Str} {n : Nat} {den : Den} {dvs : List V} {dds : List D} {fa : DEx} (hm : mg c = some (.ref C)) (hd : ∀ G ι, Reps K ⟨mg, b⟩ G ι dvs dds) (rt : RefA K ⟨mg, b⟩ (WEb b E) t fa)
    (hl : ∀ ρ st d ρ' st', fa ρ st = .ok d ρ' st' → ∃ ds, d = .tup ds ∧ ds.length + dds.length + 1 = n) : RefE K ⟨mg, b⟩ (WEb b E) (tMake C (spD K mg n den) dvs E t) (makeD c den dds fa) := fun w Q s q => by
  refine rt.bind (P := OkR K ⟨mg, b⟩ (WEb b E) w Q) s q (fun d ρ st n => by cases d <;> first | rfl | exact absurd rfl (n _)) (fun _ _ _ z => z) (fun z => z) fun w2 us ds e2 a2 r2 ee q2 => ?_
  intro x dx hx hdx hne
  have l : us.length + dvs.length + 1 = n := by
    obtain ⟨ds', e', l⟩ := hl _ _ _ _ _ ee
    cases e'
    rw [r2.len, (hd w.G w.ι).len]; exact l
  have A1 := Aft.alloc (o := .own x) a2.s hdx
  let w3 : Ws := { w2 with G := upd w2.G dx (.own x), H := upd w2.H dx (.own x) }
  have hx3 : w3.H x = none := by show upd w2.H dx (.own x) x = none; rw [upd_ne (Ne.symm hne)]; exact hx
  have A2 : Aft K ⟨mg, b⟩ w3 { w3 with H := upd w3.H x (.ins C dx []) } := Aft.loose (o := .ins C dx []) A1.s hx3
  have lo : Loose { w3 with H := upd w3.H x (.ins C dx []) } x := Sts.looseAt (o := .ins C dx []) A1.s hx3
  have ce : CellAt K ⟨mg, b⟩ { w3 with H := upd w3.H x (.ins C dx []) } x (.ins c []) := by
    refine ⟨lo.1, C, dx, [], hm, upd_same, ?_, ?_, .nil⟩
    · show upd w3.H x _ dx = _
      rw [upd_ne hne]; exact upd_same
    · exact upd_same
  have A3 := Aft.newCellG A2 hx3 lo (by simp) ce
  have A13 := A1.trans A3
  let w4 : Ws := { w3 with H := upd w3.H x (.ins C dx []), ι := w3.ι ++ [x], st := w3.st ++ [.ins c []] }
  have A13' : Aft K ⟨mg, b⟩ w2 w4 := A13
  have rx : Rep K ⟨mg, b⟩ w4.G w4.ι (.ref x) (.ref w2.st.length) := .ref (by show (w2.ι ++ [x])[w2.st.length]? = some x; rw [a2.s.len]; simp)
  refine sp_at (W := WEb b E) (σ := w4.σ) (w := w4) A13'.s (by simp; omega) (.cons rx ((r2.mono A13'.g A13'.i).append (hd _ _))) rfl ?_
  show OkR K ⟨mg, b⟩ (WEb b E) w4 _ (match den (.ref w2.st.length :: (ds ++ dds)) (w2.st ++ [.ins c []]) with | .ok r _ st' => R.ok r w4.ρ st' | .exc c _ st' => .exc c w4.ρ st' | .bad => .bad)
  have q3 : OkR K ⟨mg, b⟩ (WEb b E) w Q (match den (.ref w2.st.length :: (ds ++ dds)) (w2.st ++ [.ins c []]) with | .ok .non _ st' => .ok (.ref w2.st.length) w2.ρ st' | .exc x _ st' => .exc x w2.ρ st' | _ => .bad) := q2
  cases e : den (.ref w2.st.length :: (ds ++ dds)) (w2.st ++ [.ins c []]) with
  | ok r ρ' st' =>
    rw [e] at q3
    cases r with
    | non =>
      intro w' v h1 h2 h3 A r
      cases r
      exact ⟨rfl, q3 w' (.ref x) h1 h2 (h3.trans e2) (a2.trans (A13'.trans A)) (rx.mono A.g A.i)⟩
    | _ => exact q3.elim
  | exc x' ρ' st' =>
    rw [e] at q3
    intro w' cls dx' h1 h2 h3 A r
    exact q3 w' cls dx' h1 h2 (h3.trans e2) (a2.trans (A13'.trans A)) r
  | bad => rw [e] at q3; exact q3.elim
theorem KCal.call {X : Cx} {E : XK} {b : Low} {k k' n : Nat} {den : Den} {c : Str} {dds : List D} {e : Expr} {es : List Expr} {fa : DEx} {p pos : Pos} (M : KCal X.prog X.w X.K X.mg X.base k c n den dds) (hr : Room k' X.A) (hk : k + 1 ≤ k') (hg : Gl X c) (tk : L2N.Takes X (WEb b E)) (ha : DAn X (WEb b E) (e :: es) fa)
    (hn : (e :: es).length + dds.length + 1 = n := by rfl) (hdb : (c == ("__debug__" : Str)) = false := by decide) (hst : starEach (e :: es) X.env = (false, eval e X.env) :: starEach es X.env := by rfl) (hpl : (backTo pos (starEach es X.env)).any (·.1) = false := by rfl) :
    DE X (WEb b E) (.Call (.Name c p) (e :: es) [] pos) (makeD c den dds fa) := by
  obtain ⟨C, f, fd, ps, ds, dvs, hm, hM, F, hB, hV, hD⟩ := M
  obtain ⟨⟨ta, pa, ra⟩, hl⟩ := ha
  refine ⟨_, pe_make hM F (hr.mono hk) hg hm hB hV (passes_const tk) pa hdb hst hpl, ref_make hm (hD _) ra fun ρ st d ρ' st' h => ?_⟩
  obtain ⟨ds, e1, e2⟩ := hl _ _ _ _ _ h
  exact ⟨ds, e1, by rw [e2]; exact hn⟩
end DL
namespace DL
open PySem L2
section
variable {K : PySem.W.Frag} {mg : MG} {W : WB}
end
section
variable {X : Cx} {W : WB} {name : Str} {id : String} {r : V → List V → Hp → VK → Prop} {k : MutK} {e o : Expr} {es : List Expr} {f g : DEx} {apos cpos : Pos}
end
end DL
namespace DL
open PySem L2
section
variable {K : PySem.W.Frag} {mg : MG} {W : WB}
end
section
variable {X : Cx} {W : WB} {name : Str} {id : String} {r : V → List V → Hp → VK → Prop} {p : Str → List D → Option D} {e o : Expr} {es : List Expr} {f g : DEx} {apos cpos : Pos}
end
end DL
namespace DL
open PySem L2
section
variable {K : PySem.W.Frag} {mg : MG} {W : WB}
def iOf (K : PySem.W.Frag) (mg : MG) (W : WB) (f : DEx) : TI := fun σ H Q => ∃ w, w.σ = σ ∧ w.H = H ∧ Sts K mg w ∧ OkI K mg W w Q (f w.ρ w.st)
theorem DI.pi {X : Cx} {W : WB} {tg e : Expr} {f : DEx} (h : DI X W tg e f) : PI X tg e (iOf X.K (MGx X W.b) W f) := by
  obtain ⟨t, p, r⟩ := h
  refine ⟨fun pins s σ H Q I q => ?_⟩
  obtain ⟨w, rfl, rfl, sw, ok⟩ := q
  exact p.run pins s _ _ Q I (r w Q sw ok)
end
section
variable {X : Cx} {W : WB} {elt tg iter tg1 iter1 : Expr} {ifs ifs1 : List Expr} {scope : Scope} {own : List (Str × Nat)} {is is1 vs1 : List Nat} {pos : Pos} {fi : DEx} {g : DGx} {c fi1 : DEx} {g1 : DGx} {c1 f : DEx}
end
end DL
namespace DL
open PySem L2
theorem RefA.bindF {K : PySem.W.Frag} {mg : MG} {W : WB} {t : TA} {f : DEx} (h : RefA K mg W t f) {w : Ws} {E : Ends} {Q1 : List V → Hp → Prop} {r : D → En → Store → Fl} (s : Sts K mg w) (hd : ∀ d ρ st, (∀ b, d ≠ .tup b) → r d ρ st = .bad)
    (hP : OkF K mg W w E (thenF f r w.ρ w.st))
    (k : ∀ (w1 : Ws) (vs : List V) (ds : List D), w1.σ = w.σ → Aft K mg w w1 → Reps K mg w1.G w1.ι vs ds → OkF K mg W w1 E (r (.tup ds) w1.ρ w1.st) → Q1 vs w1.H) : t w.σ w.H Q1 := by
  unfold thenF at hP
  refine h w Q1 s ?_
  cases e : f w.ρ w.st with
  | ok d ρ st =>
    rw [e] at hP
    cases d with
    | tup b =>
      intro w' vs h1 h2 h3 h4 h5
      subst h1; subst h2
      exact k w' vs b h3 h4 h5 (OkF.aft hP h4)
    | _ =>
      simp only at hP
      rw [hd _ ρ st (by intro b q; cases q)] at hP
      exact hP.elim
  | exc c ρ st =>
    rw [e] at hP
    exact fun w' cls dx h1 h2 _ h4 h5 => hP w' cls dx h1 h2 h4 h5
  | bad => rw [e] at hP; exact hP
section
variable {X : Cx} {W : WB} {a b c : Expr} {x y z : Str} {i j l : Nat} {f : DEx} {px py pz pt pos : Pos} {kt k2 : Nat} {pt2 : Pos}
end
section
variable {X : Cx} {W : WB} {elt tg iter tg1 iter1 : Expr} {ifs ifs1 : List Expr} {scope : Scope} {own : List (Str × Nat)} {is is1 vs1 : List Nat} {pos spos : Pos} {fi : DEx} {g : DGx} {c fi1 : DEx} {g1 : DGx} {c1 f : DEx}
end
end DL
namespace DL
open PySem L2
def Mfn (K : PySem.W.Frag) (mg : Str → Option Value) (c m qual : Str) (ps : List Str) (st : Stmt) (dds : List D) : Prop := ∃ C f fd ds dvs, mg c = some (.ref C) ∧ Cls K C ∧ Meth K C m f ∧ FunV K m qual st f fd ∧ Binds K fd ps ds ∧ Vals dvs ds ∧ ∀ b G ι, Reps K ⟨mg, b⟩ G ι dvs dds
theorem MCal.of {P : Program} {wd : World} {K : PySem.W.Frag} {mg : Str → Option Value} {base : Heap} {c m qual : Str} {st : Stmt} {N ps : List Str} {dds : List D} {k n j : Nat} {g : DSx} (M : Mfn K mg c m qual ps st dds) (S : FnScope N ps (defScope st)) (hn : n = N.length) (hj : j = ps.length)
    (hb : ∀ (f : Addr) (cdv : Value) (A : Around) (outer : List Env) (s : Shared) (H : Hp) (E : XK), Room k (A.deeper (PyProof.Rows.envOfC qual (defScope st) s.heap.objs.size f cdv)) →
      DSs (cxOf (L2N.CX P wd) P wd K mg base N qual (defScope st) f cdv A outer s H E) (WEx E) (defBody st) g) : MCal P wd K mg base (k + 1) c m j (runD n g) dds := by
  obtain ⟨C, f, fd, ds, dvs, h1, h2, h3, h4, h5, h6, h7⟩ := M
  subst hj
  exact ⟨C, f, fd, ps, ds, dvs, h1, h2, h3, fn_D h4 S hn (hb f), h5, h6, h7⟩
def Kfn (K : PySem.W.Frag) (mg : Str → Option Value) (c qual : Str) (ps : List Str) (st : Stmt) (dds : List D) : Prop := ∃ C f fd ds dvs, mg c = some (.ref C) ∧ Mk K C f ∧ FunV K "__init__" qual st f fd ∧ Binds K fd ps ds ∧ Vals dvs ds ∧ ∀ b G ι, Reps K ⟨mg, b⟩ G ι dvs dds
theorem KCal.of {P : Program} {wd : World} {K : PySem.W.Frag} {mg : Str → Option Value} {base : Heap} {c qual : Str} {st : Stmt} {N ps : List Str} {dds : List D} {k n j : Nat} {g : DSx} (M : Kfn K mg c qual ps st dds) (S : FnScope N ps (defScope st)) (hn : n = N.length) (hj : j = ps.length)
    (hb : ∀ (f : Addr) (cdv : Value) (A : Around) (outer : List Env) (s : Shared) (H : Hp) (E : XK), Room k (A.deeper (PyProof.Rows.envOfC qual (defScope st) s.heap.objs.size f cdv)) →
      DSs (cxOf (L2N.CX P wd) P wd K mg base N qual (defScope st) f cdv A outer s H E) (WEx E) (defBody st) g) : KCal P wd K mg base (k + 1) c j (runD n g) dds := by
  obtain ⟨C, f, fd, ds, dvs, h1, h3, h4, h5, h6, h7⟩ := M
  subst hj
  exact ⟨C, f, fd, ps, ds, dvs, h1, h3, fn_D h4 S hn (hb f), h5, h6, h7⟩
theorem DAn.da {X : Cx} {W : WB} {es : List Expr} {f : DEx} (h : DAn X W es f) : DA X W es f := h.1
end DL
namespace DL
open PySem L2
section
variable {X : Cx} {W : WB} {e a b : Expr} {f g : DEx} {pos : Pos}
end
end DL
namespace DL
open PySem L2
def rNil (K : PySem.W.Frag) (neg : Bool) : R2 := fun x y H Q => ∃ (a b : Addr) (xs : List V), x = .ref a ∧ y = .ref b ∧ SqL K H a xs ∧ SqL K H b [] ∧ Q (.bl (if neg then !xs.isEmpty else xs.isEmpty)) H
section
variable {X : Cx}
theorem op_eqNil (hu : X.A.units < cLine) : OpR X (compareOp .Eq) (rNil X.K false) := fun pins s σ H x y v u Q I rx ry h => by
  obtain ⟨a, b, xs, rfl, rfl, ha, hb, q⟩ := h
  cases rx
  cases ry
  obtain ⟨its, r, p, _⟩ := I.list ha
  obtain ⟨its2, r2, p2, _⟩ := I.list hb
  cases r2
  obtain ⟨o, n, e1, e2, e3, e4⟩ := p
  obtain ⟨o2, n2, f1, f2, f3, f4⟩ := p2
  show wpAny (model X.prog X.w) X.A (richCompare .Eq (.ref a) (.ref b)) (EP X pins σ Q) X.xe s
  have fin : ∀ k : Bool, k = xs.isEmpty → EP X pins σ Q (.bool k) s := fun k hk => ⟨.bl k, H, I, rfl, by rw [hk]; exact q⟩
  cases r with
  | nil => exact SeqAt.RcAt.lists (e := fun _ => true) ⟨o, e1, e2, n, e4⟩ ⟨o2, f1, f2, n2, f4⟩ rfl hu (fun j h => absurd h (Nat.not_lt_zero _)) _ _ _ _ (fin _ rfl)
  | cons h t => exact SeqAt.RcAt.lists_lengths ⟨o, e1, e2, n, e4⟩ ⟨o2, f1, f2, n2, f4⟩ rfl hu _ _ _ _ (fin _ rfl)
theorem op_neNil (hu : X.A.units < cLine) : OpR X (compareOp .NotEq) (rNil X.K true) := fun pins s σ H x y v u Q I rx ry h => by
  obtain ⟨a, b, xs, rfl, rfl, ha, hb, q⟩ := h
  cases rx
  cases ry
  obtain ⟨its, r, p, _⟩ := I.list ha
  obtain ⟨its2, r2, p2, _⟩ := I.list hb
  cases r2
  obtain ⟨o, n, e1, e2, e3, e4⟩ := p
  obtain ⟨o2, n2, f1, f2, f3, f4⟩ := p2
  show wpAny (model X.prog X.w) X.A (richCompare .NotEq (.ref a) (.ref b)) (EP X pins σ Q) X.xe s
  have fin : ∀ k : Bool, k = !xs.isEmpty → EP X pins σ Q (.bool k) s := fun k hk => ⟨.bl k, H, I, rfl, by rw [hk]; exact q⟩
  cases r with
  | nil => exact SeqAt.RcNeAt.lists (e := fun _ => true) ⟨o, e1, e2, n, e4⟩ ⟨o2, f1, f2, n2, f4⟩ rfl hu (fun j h => absurd h (Nat.not_lt_zero _)) _ _ _ _ (fin _ rfl)
  | cons h t => exact SeqAt.RcNeAt.lists_lengths ⟨o, e1, e2, n, e4⟩ ⟨o2, f1, f2, n2, f4⟩ rfl hu _ _ _ _ (fin _ rfl)
end
@[simp] def pNil (neg : Bool) : D → D → Option D
  | .lst ds, .lst [] => some (.bl (if neg then !ds.isEmpty else ds.isEmpty))
  | _, _ => none
theorem empty_reps {K : PySem.W.Frag} {mg : MG} {G : Hp} {ι : List Addr} {vs : List V} {ds : List D} (h : Reps K mg G ι vs ds) : vs.isEmpty = ds.isEmpty := by cases h <;> rfl
theorem ans_nil {K : PySem.W.Frag} {mg : MG} {neg : Bool} : Ans2 K mg (rNil K neg) (pNil neg) := fun w x y d e z Q s rx ry q k => by
  unfold pNil at q
  split at q
  · rename_i ds
    cases q
    obtain ⟨a, vs, rfl, h1, _, rs⟩ := rx.lst_inv s
    obtain ⟨b, us, rfl, h2, _, ru⟩ := ry.lst_inv s
    cases ru
    refine ⟨a, b, vs, rfl, rfl, SqL.of h1, SqL.of h2, ?_⟩
    rw [empty_reps rs]
    exact k _ (fun _ _ => .bl _)
  · cases q
@[simp] def nilP (neg : Bool) (p : DPx) (ρ : En) (st : Store) : R := match p ρ st with
  | some (.lst ds) => .ok (.bl (if neg then !ds.isEmpty else ds.isEmpty)) ρ st
  | _ => .bad
section
variable {X : Cx} {W : WB} {a : Expr} {p : DPx} {pos lpos : Pos}
theorem ref_nil {K : PySem.W.Frag} {mg : MG} {neg : Bool} {ta : TE} (ra : RefPv K mg ta p) : RefE K mg W (tOp (rNil K neg) ta (tLst tNil)) (nilP neg p) := fun w Q s q => by
  unfold nilP at q
  split at q
  · rename_i ds hp
    refine ra w _ _ s hp fun v rv => ?_
    obtain ⟨a, vs, rfl, h1, _, rs⟩ := rv.lst_inv s
    show ([] : List V).length ≤ sizeLine ∧ _
    refine ⟨Nat.zero_le _, fun l hl => ?_⟩
    have hne : a ≠ l := fun e => by rw [e, hl] at h1; cases h1
    have A := Aft.alloc (o := .lst []) s hl
    refine ⟨a, l, vs, rfl, rfl, SqL.of (by rw [upd_ne hne]; exact h1), SqL.of upd_same, ?_⟩
    rw [empty_reps rs]
    exact q { w with G := upd w.G l (.lst []), H := upd w.H l (.lst []) } _ rfl rfl rfl A (.bl _)
  · exact q.elim
theorem dt_neNil (hu : X.A.units < cLine) (ha : DPv X a p) (hm : behindInMarks .NotEq (.List [] lpos) = false := by rfl) : DT X W (.Compare a [.NotEq] [.List [] lpos] pos) (nilP true p) := let ⟨_, pa, ra⟩ := ha; ⟨_, pt_cmpR (op_neNil hu) pa (pe_lst pa_nil) hm, (ref_nil (ra _)).v.test⟩
end
end DL
namespace DL
open PySem PySem.Spec PyProof.Rows PySem.SeqAt L2
section
variable {X : Cx} {CX : CXT} {k : Nat} {f C : Addr} {fd : FuncData} {ps : List Str} {sp : Sp} {dvs : List V} {ds : List Value} {E : XK} {b : Low}
end
def NatL (n : Int) : Prop := 0 ≤ n ∧ n < 2 ^ 63
noncomputable instance (n : Int) : Decidable (NatL n) := Classical.propDecidable _
section
variable {X : Cx} {E : XK} {b : Low} {k k' : Nat} {den : Den} {c : Str} {e e2 : Expr} {g h : DEx} {p pos : Pos}
end
structure IsO (K : PySem.W.Frag) (mg : Str → Option Value) (c : Str) : Prop where
  ex : ∃ C, mg c = some (.ref C) ∧ Cls K C ∧ PySem.W.findIn K (.ref C) "__class__" = some (some (.builtin "object.__class__")) ∧ PySem.W.specialIn K (.builtin "object.__class__") "__get__" = some (some (.builtin "getset_descriptor.__get__")) ∧
    PySem.W.takesIn K (.builtin "object.__class__") = some true ∧ PySem.W.mroIn K C (.type "object") = some true ∧ ((PySem.W.clsIn K C).isSome && PySem.W.typeIn K (.ref C) == some (.type "type")) = true
end DL
namespace DL
open PySem L2
def rOrd (K : PySem.W.Frag) (g : PyData → PyData → Bool) : R2 := fun x y H Q => ∃ d e, Dp K H x d ∧ Dp K H y e ∧ PySem.W.alike d e = true ∧ d ≠ .none ∧ d.depth ≤ 64 ∧ Q (.bl (g d e)) H
section
variable {X : Cx}
theorem op_ltA (hu : X.A.units + 64 < cLine) : OpR X (compareOp .Lt) (rOrd X.K fun d e => PySem.W.dataLt d e) := fun pins s σ H x y v u Q I rx ry h => by
  obtain ⟨d, e, hd, he, ha, hn, hl, q⟩ := h
  obtain ⟨as, r1⟩ := Dp.reads I d x v hd rx
  obtain ⟨bs, r2⟩ := Dp.reads I e y u he ry
  exact PySem.W.lt_data r1 r2 ha hn (by omega) ⟨.bl _, H, I, rfl, q⟩
theorem op_gtA (hu : X.A.units + 64 < cLine) : OpR X (compareOp .Gt) (rOrd X.K fun d e => PySem.W.dataLt e d) := fun pins s σ H x y v u Q I rx ry h => by
  obtain ⟨d, e, hd, he, ha, hn, hl, q⟩ := h
  obtain ⟨as, r1⟩ := Dp.reads I d x v hd rx
  obtain ⟨bs, r2⟩ := Dp.reads I e y u he ry
  exact PySem.W.gt_data r1 r2 ha hn (by omega) ⟨.bl _, H, I, rfl, q⟩
theorem op_leA (hu : X.A.units + 64 < cLine) : OpR X (compareOp .LtE) (rOrd X.K fun d e => !PySem.W.dataLt e d) := fun pins s σ H x y v u Q I rx ry h => by
  obtain ⟨d, e, hd, he, ha, hn, hl, q⟩ := h
  obtain ⟨as, r1⟩ := Dp.reads I d x v hd rx
  obtain ⟨bs, r2⟩ := Dp.reads I e y u he ry
  exact PySem.W.le_data r1 r2 ha hn (by omega) ⟨.bl _, H, I, rfl, q⟩
theorem op_geA (hu : X.A.units + 64 < cLine) : OpR X (compareOp .GtE) (rOrd X.K fun d e => !PySem.W.dataLt d e) := fun pins s σ H x y v u Q I rx ry h => by
  obtain ⟨d, e, hd, he, ha, hn, hl, q⟩ := h
  obtain ⟨as, r1⟩ := Dp.reads I d x v hd rx
  obtain ⟨bs, r2⟩ := Dp.reads I e y u he ry
  exact PySem.W.ge_data r1 r2 ha hn (by omega) ⟨.bl _, H, I, rfl, q⟩
end
@[simp] def notNone : PyData → Bool
  | .none => false
  | _ => true
theorem notNone_ne {p : PyData} (h : notNone p = true) : p ≠ .none := fun e => by rw [e] at h; cases h
def ordB (g : PyData → PyData → Bool) (d e : D) : Option D := match d.py, e.py with
  | some p, some q => if PySem.W.alike p q = true ∧ notNone p = true ∧ p.depth ≤ 64 then some (.bl (g p q)) else none
  | _, _ => none
theorem ans_ord {K : PySem.W.Frag} {mg : MG} {g : PyData → PyData → Bool} : Ans2 K mg (rOrd K g) (ordB g) := fun w x y d e z Q s rx ry q k => by
  unfold ordB at q
  split at q
  · rename_i p p' e1 e2
    split at q
    · rename_i hh
      cases q
      exact ⟨p, p', (rx.h s).dp e1, (ry.h s).dp e2, hh.1, notNone_ne hh.2.1, hh.2.2, k _ (fun _ _ => .bl _)⟩
    · cases q
  · cases q
@[simp] def ordX (h : Int → Int → Bool) (g : PyData → PyData → Bool) : D → D → Option D
  | .int i, .int j => some (.bl (h i j))
  | d, e => ordB g d e
theorem ans_ordX {K : PySem.W.Frag} {mg : MG} {h : Int → Int → Bool} {g : PyData → PyData → Bool} (hg : ∀ i j, g (.int i) (.int j) = h i j) : Ans2 K mg (rOrd K g) (ordX h g) := fun w x y d e z Q s rx ry q k => by
  unfold ordX at q
  split at q
  · rename_i i j
    cases q
    rw [← hg] at k
    exact ⟨.int i, .int j, (rx.h s).dp (by simp [D.py]), (ry.h s).dp (by simp [D.py]), by simp [PySem.W.alike], by simp, by simp [PyData.depth], k _ (fun _ _ => .bl _)⟩
  · exact ans_ord w x y d e z Q s rx ry q k
abbrev pLtX := ordX (fun i j => decide (i < j)) (fun d e => PySem.W.dataLt d e)
abbrev pGtX := ordX (fun i j => decide (j < i)) (fun d e => PySem.W.dataLt e d)
abbrev pLeX := ordX (fun i j => decide (i ≤ j)) (fun d e => !PySem.W.dataLt e d)
abbrev pGeX := ordX (fun i j => decide (j ≤ i)) (fun d e => !PySem.W.dataLt d e)
theorem ans_ltX {K : PySem.W.Frag} {mg : MG} : Ans2 K mg (rOrd K fun d e => PySem.W.dataLt d e) pLtX := ans_ordX fun i j => PySem.W.dataLt_int i j
theorem ans_gtX {K : PySem.W.Frag} {mg : MG} : Ans2 K mg (rOrd K fun d e => PySem.W.dataLt e d) pGtX := ans_ordX fun i j => PySem.W.dataLt_int j i
theorem ans_leX {K : PySem.W.Frag} {mg : MG} : Ans2 K mg (rOrd K fun d e => !PySem.W.dataLt e d) pLeX := ans_ordX fun i j => by
  show (!PySem.W.dataLt (.int j) (.int i)) = _
  rw [PySem.W.dataLt_int]
  by_cases h : j < i
  · rw [decide_eq_true h, decide_eq_false (by omega)]; rfl
  · rw [decide_eq_false h, decide_eq_true (by omega)]; rfl
theorem ans_geX {K : PySem.W.Frag} {mg : MG} : Ans2 K mg (rOrd K fun d e => !PySem.W.dataLt d e) pGeX := ans_ordX fun i j => by
  show (!PySem.W.dataLt (.int i) (.int j)) = _
  rw [PySem.W.dataLt_int]
  by_cases h : i < j
  · rw [decide_eq_true h, decide_eq_false (by omega)]; rfl
  · rw [decide_eq_false h, decide_eq_true (by omega)]; rfl
end DL
class BK (σ : Type) where
  le : σ → σ → Bool
  emp : σ
  refl : ∀ s, le s s = true
  trans : ∀ a b c, le a b = true → le b c = true → le a c = true
  anti : ∀ a b, le a b = true → le b a = true → a = b
  emp_le : ∀ s, le emp s = true
namespace BK
section
variable {τ σ : Type} [DecidableEq τ] [DecidableEq σ] [BK σ]
structure Up (U : σ → Bool) : Prop where
  up : ∀ s t, le s t = true → U s = true → U t = true
  ne : U emp = false
def heardF (U : σ → Bool) (d : τ) (rows : List (τ × σ)) : τ := rows.foldl (fun acc r => if U r.2 then r.1 else acc) d
@[simp] theorem heardF_nil (U : σ → Bool) (d : τ) : heardF U d [] = d := rfl
@[simp] theorem heardF_cons (U : σ → Bool) (d : τ) (r : τ × σ) (rows : List (τ × σ)) : heardF U d (r :: rows) = heardF U (if U r.2 then r.1 else d) rows := rfl
theorem heardF_app (U : σ → Bool) (d : τ) (A B : List (τ × σ)) : heardF U d (A ++ B) = heardF U (heardF U d A) B := by simp [heardF]
def Eqv (non : τ) (A B : List (τ × σ)) : Prop := ∀ U : σ → Bool, Up U → heardF U non A = heardF U non B
theorem Eqv.refl (non : τ) (A : List (τ × σ)) : Eqv non A A := fun _ _ => rfl
theorem Eqv.symm {non : τ} {A B : List (τ × σ)} (h : Eqv non A B) : Eqv non B A := fun U u => (h U u).symm
theorem Eqv.trans {non : τ} {A B C : List (τ × σ)} (h : Eqv non A B) (k : Eqv non B C) : Eqv non A C := fun U u => (h U u).trans (k U u)
theorem Eqv.app {non : τ} {A B : List (τ × σ)} (h : Eqv non A B) (C : List (τ × σ)) : Eqv non (A ++ C) (B ++ C) := fun U u => by rw [heardF_app, heardF_app, h U u]
abbrev Run (τ σ : Type) := τ × List σ
def runsOf : List (τ × σ) → List (Run τ σ)
  | [] => []
  | (t, s) :: rest => match runsOf rest with
    | [] => [(t, [s])]
    | (t', lot) :: rs => if t = t' then (t, s :: lot) :: rs else (t, [s]) :: (t', lot) :: rs
def Adj : List (Run τ σ) → Prop
  | [] => True
  | [_] => True
  | a :: b :: r => a.1 ≠ b.1 ∧ Adj (b :: r)
end
end BK
namespace BK
section
variable {τ σ : Type} [DecidableEq τ] [DecidableEq σ] [BK σ]
structure RF (non : τ) (rs : List (Run τ σ)) : Prop where
  ne : ∀ p ∈ rs, p.2 ≠ []
  em : ∀ p ∈ rs, ∀ s ∈ p.2, s ≠ emp
  an : ∀ p ∈ rs, p.2.Pairwise (fun a b => le a b = false ∧ le b a = false)
  co : rs.Pairwise (fun p q => ∀ a ∈ p.2, ∀ b ∈ q.2, le a b = false)
  ad : Adj rs
  hd : rs.head?.map (·.1) ≠ some non
def PermR (A B : List (Run τ σ)) : Prop := A.length = B.length ∧ ∀ x ∈ A.zip B, x.1.1 = x.2.1 ∧ x.1.2.Perm x.2.2
theorem PermR.refl : ∀ A : List (Run τ σ), PermR A A
  | [] => ⟨rfl, fun x h => by cases h⟩
  | a :: A => ⟨rfl, fun x h => by
    rw [List.zip_cons_cons] at h
    rcases List.mem_cons.mp h with rfl | h
    · exact ⟨rfl, List.Perm.refl _⟩
    · exact (PermR.refl A).2 x h⟩
structure Nf (non : τ) (hle : σ → σ → Bool) (A : List (τ × σ)) : Prop where
  rf : RF non (runsOf A)
  so : ∀ p ∈ runsOf A, p.2.Pairwise (fun a b => hle a b = true)
def thn (lot : List σ) : List σ := lot.filter fun one => !(lot.any fun other => decide (other ≠ one) && le one other)
theorem filter_lt {α : Type} {p q : α → Bool} : ∀ {l : List α}, (∀ x ∈ l, p x = true → q x = true) → (∃ x ∈ l, q x = true ∧ p x = false) → (l.filter p).length < (l.filter q).length
  | [], _, h => by obtain ⟨x, h, _⟩ := h; cases h
  | y :: l, h, k => by
    have sub : (l.filter p).length ≤ (l.filter q).length := by
      clear k
      have h' : ∀ x ∈ l, p x = true → q x = true := fun x hx => h x (List.mem_cons_of_mem _ hx)
      clear h
      induction l with
      | nil => exact Nat.le_refl _
      | cons z l ih =>
        have := ih fun x hx => h' x (List.mem_cons_of_mem _ hx)
        have hz := h' z (List.mem_cons_self ..)
        cases e1 : p z <;> cases e2 : q z <;> simp [List.filter_cons, e1, e2] <;> first | omega | (simp [e1, e2] at hz)
    obtain ⟨x, hx, hq, hp⟩ := k
    have hy := h y (List.mem_cons_self ..)
    rcases List.mem_cons.mp hx with rfl | hx
    · simp [List.filter_cons, hq, hp]; omega
    · have := filter_lt (fun x hx => h x (List.mem_cons_of_mem _ hx)) ⟨x, hx, hq, hp⟩
      cases e1 : p y <;> cases e2 : q y <;> simp [List.filter_cons, e1, e2] <;> first | omega | (simp [e1, e2] at hy)
variable (srt : List σ → List σ)
variable {srt}
variable (sp : ∀ l, (srt l).Perm l)
include sp
end
end BK
namespace BK
section
variable {τ σ : Type} [DecidableEq τ] [DecidableEq σ] [BK σ]
def rb (pre : List (τ × σ)) (t : τ) : List (τ × σ) := pre.reverse.takeWhile fun r => decide (r.1 = t)
def ra (post : List (τ × σ)) (t : τ) : List (τ × σ) := post.takeWhile fun r => decide (r.1 = t)
variable (hle : σ → σ → Bool)
variable {hle}
end
end BK
namespace DL
open PySem L2
section
variable {α : Type} {le : α → α → Bool}
theorem sorted_ext (anti : ∀ a b, le a b = true → le b a = true → a = b) : ∀ {l m : List α}, l.Pairwise (fun a b => le a b = true) → m.Pairwise (fun a b => le a b = true) → l.Nodup → m.Nodup → (∀ x, x ∈ l ↔ x ∈ m) → l = m
  | [], [], _, _, _, _, _ => rfl
  | [], b :: m, _, _, _, _, h => by have := (h b).mpr (List.mem_cons_self ..); cases this
  | a :: l, [], _, _, _, _, h => by have := (h a).mp (List.mem_cons_self ..); cases this
  | a :: l, b :: m, hl, hm, nl, nm, h => by
    have e : a = b := by
      rcases List.mem_cons.mp ((h a).mp (List.mem_cons_self ..)) with e | ha
      · exact e
      · rcases List.mem_cons.mp ((h b).mpr (List.mem_cons_self ..)) with e | hb
        · exact e.symm
        · exact anti _ _ ((List.pairwise_cons.mp hl).1 b hb) ((List.pairwise_cons.mp hm).1 a ha)
    subst e
    have hx : ∀ x, x ∈ l ↔ x ∈ m := fun x => by
      constructor
      · intro hx
        rcases List.mem_cons.mp ((h x).mp (List.mem_cons_of_mem _ hx)) with e | hx'
        · subst e; exact absurd hx (List.nodup_cons.mp nl).1
        · exact hx'
      · intro hx
        rcases List.mem_cons.mp ((h x).mpr (List.mem_cons_of_mem _ hx)) with e | hx'
        · subst e; exact absurd hx (List.nodup_cons.mp nm).1
        · exact hx'
    rw [sorted_ext anti (List.pairwise_cons.mp hl).2 (List.pairwise_cons.mp hm).2 (List.nodup_cons.mp nl).2 (List.nodup_cons.mp nm).2 hx]
end
def sLe (a b : Str) : Bool := leD (.str a) (.str b)
theorem leD_total : PySem.W.TotalLe leD := by
  have := PySem.W.sortLe_total (α := D) (PyProof.Rows.listOrd PyProof.Rows.itemOrd) false fun d => PySem.W.keyToks (d.py.getD .none)
  exact this
theorem leD_anti {a b : D} (h1 : leD a b = true) (h2 : leD b a = true) : PySem.W.keyToks (a.py.getD .none) = PySem.W.keyToks (b.py.getD .none) := by
  have h1' : (!PyProof.Rows.lexLt PyProof.Rows.itemOrd (PySem.W.keyToks (b.py.getD .none)) (PySem.W.keyToks (a.py.getD .none))) = true := h1
  have h2' : (!PyProof.Rows.lexLt PyProof.Rows.itemOrd (PySem.W.keyToks (a.py.getD .none)) (PySem.W.keyToks (b.py.getD .none))) = true := h2
  rw [Bool.not_eq_true'] at h1' h2'
  exact PyProof.Rows.lex_total _ _ h2' h1'
theorem sLe_total : PySem.W.TotalLe sLe := ⟨fun a b c => leD_total.trans _ _ _, fun a b => leD_total.total _ _⟩
theorem sLe_anti (a b : Str) (h1 : sLe a b = true) (h2 : sLe b a = true) : a = b := by
  have := leD_anti h1 h2
  simp only [D.py, Option.getD_some, PySem.W.keyToks, List.cons.injEq, and_true, Sum.inr.injEq] at this
  exact mkS_ext this
def srt (l : List Str) : List Str := l.mergeSort sLe
theorem srt_perm (l : List Str) : (srt l).Perm l := List.mergeSort_perm _ _
theorem srt_mem {l : List Str} {x : Str} : x ∈ srt l ↔ x ∈ l := (srt_perm l).mem_iff
theorem srt_pw (l : List Str) : (srt l).Pairwise (fun a b => sLe a b = true) := PySem.W.sort_pairwise sLe_total l
theorem srt_nodup {l : List Str} (h : l.Nodup) : (srt l).Nodup := (srt_perm l).nodup_iff.mpr h
structure HS where
  l : List Str
  so : l.Pairwise (fun a b => sLe a b = true)
  nd : l.Nodup
  ok : ∀ x ∈ l, okS x
theorem HS.ext' {a b : HS} (h : a.l = b.l) : a = b := by cases a; cases b; cases h; rfl
instance : DecidableEq HS := fun a b => if h : a.l = b.l then isTrue (HS.ext' h) else isFalse fun e => h (by rw [e])
theorem HS.inj {a b : HS} : a = b ↔ a.l = b.l := ⟨fun h => by rw [h], HS.ext'⟩
def HS.nil : HS := ⟨[], .nil, .nil, fun _ h => by cases h⟩
def HS.of (l : List Str) (nd : l.Nodup) (ok : ∀ x ∈ l, okS x) : HS := ⟨srt l, srt_pw l, srt_nodup nd, fun x hx => ok x (srt_mem.mp hx)⟩
instance : BK HS where
  le a b := a.l.all fun x => decide (x ∈ b.l)
  emp := .nil
  refl s := List.all_eq_true.mpr fun x hx => decide_eq_true hx
  trans a b c h k := List.all_eq_true.mpr fun x hx => by
    have h1 := of_decide_eq_true (List.all_eq_true.mp h x hx)
    exact List.all_eq_true.mp k x h1
  anti a b h k := HS.ext' (sorted_ext sLe_anti a.so b.so a.nd b.nd fun x => ⟨fun hx => of_decide_eq_true (List.all_eq_true.mp h x hx), fun hx => of_decide_eq_true (List.all_eq_true.mp k x hx)⟩)
  emp_le s := rfl
inductive Th where
  | non | nm (s : Str) | later (s : Str)
deriving DecidableEq
instance : Dt Th where
  d | .non => .non
    | .nm s => .str s
    | .later s => .tup [.str "later", .str s]
  py | .non => .none
     | .nm s => .str s
     | .later s => .tuple [.str "later", .str s]
  ok | .non => True
     | .nm s => okS s
     | .later s => okS s
  dep := 1
  pyd a := by cases a <;> simp [D.py, pyAll]
  eqv a b := by cases a <;> cases b <;> simp [PyData.eqv, PyData.eqvAll, dec_beq]
  lay a h := by
    cases a with
    | non => simp [PyData.canLay0]
    | nm s => exact okS_lay h
    | later s =>
      have h1 : (PyData.str s).canLay0 = true := okS_lay h
      have h2 : (PyData.str "later").canLay0 = true := okS_lay (by unfold okS; decide)
      simp [PyData.canLay0, PyData.canLayAll0] at h1 h2 ⊢
      exact ⟨h2, h1⟩
  dle a := by cases a <;> simp [PyData.depth, PyData.depthAll]
theorem strs_eqv (a b : List Str) : PyData.eqvAll (a.map .str) (b.map .str) = decide (a = b) := eqvAll_map (α := Str) a b
instance : Dt HS where
  d s := .tup (s.l.map .str)
  py s := .tuple (s.l.map .str)
  ok _ := True
  dep := 1
  pyd s := by
    have := pyAll_dt (α := Str) s.l
    simp only [D.py]
    rw [show pyAll (s.l.map .str) = some (s.l.map .str) from this]
    rfl
  eqv a b := by
    simp only [PyData.eqv]
    rw [strs_eqv]
    exact decide_eq_decide.mpr HS.inj.symm
  lay s _ := by
    simp only [PyData.canLay0]
    exact layAll_map (α := Str) s.l s.ok
  dle s := by
    simp only [PyData.depth]
    have := depAll_map (α := Str) s.l
    exact Nat.succ_le_succ this
instance {α β : Type} [DecidableEq α] [DecidableEq β] [Dt α] [Dt β] : Dt (α × β) where
  d p := .tup [Dt.d p.1, Dt.d p.2]
  py p := .tuple [Dt.py p.1, Dt.py p.2]
  ok p := Dt.ok p.1 ∧ Dt.ok p.2
  dep := max (Dt.dep α) (Dt.dep β) + 1
  pyd p := by simp [D.py, pyAll, Dt.pyd]
  eqv p q := by
    simp only [PyData.eqv, PyData.eqvAll, Dt.eqv, Bool.and_true]
    rw [← Bool.decide_and]
    exact decide_eq_decide.mpr (by rw [Prod.ext_iff])
  lay p h := by simp [PyData.canLay0, PyData.canLayAll0, Dt.lay _ h.1, Dt.lay _ h.2]
  dle p := by
    simp only [PyData.depth, PyData.depthAll]
    have h1 := Dt.dle p.1
    have h2 := Dt.dle p.2
    omega
section
variable {α : Type} [DecidableEq α] [Dt α]
theorem pEq_dt {a b : α} (ha : Dt.ok a) (hb : Dt.ok b) (h : Dt.dep α ≤ 64 := by decide) : pEq (Dt.d a) (Dt.d b) = some (.bl (decide (a = b))) := by unfold pEq; rw [pEqB_dt ha hb h]; rfl
theorem pNe_dt {a b : α} (ha : Dt.ok a) (hb : Dt.ok b) (h : Dt.dep α ≤ 64 := by decide) : pNe (Dt.d a) (Dt.d b) = some (.bl (!decide (a = b))) := by unfold pNe; rw [pEqB_dt ha hb h]; rfl
theorem shaped_dt {a : α} (ha : Dt.ok a) (h : Dt.dep α ≤ 63) : SeqAt.shaped (Dt.py a) = true := by
  unfold SeqAt.shaped; rw [Dt.lay a ha]; simpa using Nat.le_trans (Dt.dle a) (by omega)
theorem any_eqv (a : α) : ∀ xs : List α, ((xs.map Dt.py).any fun z => PyData.eqv z (Dt.py a)) = decide (a ∈ xs)
  | [] => by simp
  | x :: xs => by
    rw [List.map_cons, List.any_cons, any_eqv a xs, Dt.eqv, Bool.eq_iff_iff, Bool.or_eq_true, decide_eq_true_eq, decide_eq_true_eq, decide_eq_true_eq, List.mem_cons, eq_comm]
theorem pInB_tupE (d : D) (ds : List D) : pInB d (.tup ds) = match d.py, pyAll ds with
    | some p, some ps => if SeqAt.shaped p = true ∧ SeqAt.shaped (.list ps) = true then some (ps.any fun z => PyData.eqv z p) else none
    | _, _ => none := by cases d <;> rfl
theorem pInB_lstE (d : D) (ds : List D) : pInB d (.lst ds) = match d.py, pyAll ds with
    | some p, some ps => if SeqAt.shaped p = true ∧ SeqAt.shaped (.list ps) = true then some (ps.any fun z => PyData.eqv z p) else none
    | _, _ => none := by cases d <;> rfl
theorem shaped_list {xs : List α} (hx : ∀ x ∈ xs, Dt.ok x) (h : Dt.dep α ≤ 63) : SeqAt.shaped (.list (xs.map Dt.py)) = true := by
  unfold SeqAt.shaped
  have l := layAll_map xs hx
  have dd := depAll_map (α := α) xs
  have e1 : (PyData.list (xs.map Dt.py)).canLay0 = true := by simp only [PyData.canLay0]; exact l
  have e2 : (PyData.list (xs.map Dt.py)).depth ≤ 64 := by simp only [PyData.depth]; exact Nat.le_trans (Nat.succ_le_succ dd) (by omega)
  rw [e1, decide_eq_true e2]; rfl
theorem pInB_tup {a : α} {xs : List α} (ha : Dt.ok a) (hx : ∀ x ∈ xs, Dt.ok x) (h : Dt.dep α ≤ 63 := by decide) : pInB (Dt.d a) (.tup (xs.map Dt.d)) = some (decide (a ∈ xs)) := by
  rw [pInB_tupE, Dt.pyd, pyAll_dt]
  simp only [shaped_dt ha h, shaped_list hx h, any_eqv, and_self, if_true]
theorem pInB_lst {a : α} {xs : List α} (ha : Dt.ok a) (hx : ∀ x ∈ xs, Dt.ok x) (h : Dt.dep α ≤ 63 := by decide) : pInB (Dt.d a) (.lst (xs.map Dt.d)) = some (decide (a ∈ xs)) := by
  rw [pInB_lstE, Dt.pyd, pyAll_dt]
  simp only [shaped_dt ha h, shaped_list hx h, any_eqv, and_self, if_true]
theorem pInX_tup {n : Bool} {a : α} {xs : List α} (ha : Dt.ok a) (hx : ∀ x ∈ xs, Dt.ok x) (h : Dt.dep α ≤ 63 := by decide) : pInX n (Dt.d a) (.tup (xs.map Dt.d)) = some (.bl (if n then !decide (a ∈ xs) else decide (a ∈ xs))) := by unfold pInX; rw [pInB_tup ha hx h]; rfl
theorem pInX_lst {n : Bool} {a : α} {xs : List α} (ha : Dt.ok a) (hx : ∀ x ∈ xs, Dt.ok x) (h : Dt.dep α ≤ 63 := by decide) : pInX n (Dt.d a) (.lst (xs.map Dt.d)) = some (.bl (if n then !decide (a ∈ xs) else decide (a ∈ xs))) := by unfold pInX; rw [pInB_lst ha hx h]; rfl
end
theorem py_strs (l : List Str) : pyAll (l.map .str) = some (l.map .str) := pyAll_dt (α := Str) l
theorem sortOk_strs (l : List Str) : sortOk (l.map .str) := by
  refine ⟨_, py_strs l, fun d hd d' hd' => ?_, .inr fun d hd => ?_, fun p hp => ?_⟩
  · obtain ⟨x, _, rfl⟩ := List.mem_map.mp hd
    obtain ⟨y, _, rfl⟩ := List.mem_map.mp hd'
    simp [PySem.W.alike]
  · obtain ⟨x, _, rfl⟩ := List.mem_map.mp hd
    exact ⟨by simp, fun _ => by simp⟩
  · obtain ⟨x, _, rfl⟩ := List.mem_map.mp hp
    simp [PyData.depth]
theorem sort_strs (l : List Str) : (l.map D.str).mergeSort leD = (srt l).map D.str := (PySem.W.sort_maps (r := sLe) (s := leD) D.str (fun _ _ _ _ => rfl)).symm
@[simp] theorem seen_th (st : Store) (t : Th) : seen st (.val (Dt.d t)) = some (Dt.d t) := by cases t <;> rfl
@[simp] theorem seen_hs (st : Store) (t : HS) : seen st (.val (Dt.d t)) = some (Dt.d t) := rfl
@[simp] theorem len_hs (s : HS) : pLen (Dt.d s) = some (.int s.l.length) := by simp [Dt.d]
@[simp] theorem isNon_th (t : Th) : D.isNon (Dt.d t) = some (decide (t = .non)) := by cases t <;> rfl
end DL
namespace DL
open PySem L2
theorem sz (n : Nat) (h : n ≤ 1000000) : n ≤ sizeLine := by rw [sizeLine_eq]; omega
@[simp] theorem atI_7 {α : Type} (xs : List α) : atI xs 7 = xs[7]? := DL.atI_nat xs 7
@[simp] theorem atI_8 {α : Type} (xs : List α) : atI xs 8 = xs[8]? := DL.atI_nat xs 8
@[simp] theorem atI_9 {α : Type} (xs : List α) : atI xs 9 = xs[9]? := DL.atI_nat xs 9
@[simp] theorem atI_10 {α : Type} (xs : List α) : atI xs 10 = xs[10]? := DL.atI_nat xs 10
@[simp] theorem atI_11 {α : Type} (xs : List α) : atI xs 11 = xs[11]? := DL.atI_nat xs 11
@[simp] theorem atI_12 {α : Type} (xs : List α) : atI xs 12 = xs[12]? := DL.atI_nat xs 12
@[simp] theorem atI_13 {α : Type} (xs : List α) : atI xs 13 = xs[13]? := DL.atI_nat xs 13
@[simp] theorem atI_14 {α : Type} (xs : List α) : atI xs 14 = xs[14]? := DL.atI_nat xs 14
@[simp] theorem atI_15 {α : Type} (xs : List α) : atI xs 15 = xs[15]? := DL.atI_nat xs 15
end DL
namespace DL
open PySem L2
def tApp (n m : Nat) (t tk : TA) : TA := fun σ H Q => t σ H fun vs H1 => tk σ H1 fun zs H2 => vs.length = n ∧ zs.length = m ∧ Q (vs ++ zs) H2
section
variable {X : Cx} {CX : CXT} {k n : Nat} {f C : Addr} {fd : FuncData} {ps ks : List Str} {sp : Sp} {E : XK} {b : Low} {m : Str} {apos pos : Pos} {e o : Expr} {es : List Expr} {kws : List Keyword} {t tk : TA} {ta : TE}
theorem pe_methN {pl : Sem Bool} (he : PE X o ta) (c : Cls X.K C) (hm : Meth X.K C m f) (F : FnOk X.prog X.w X.K X.mg X.base CX k f fd ps sp) (hr : Room k X.A) (hb : KBn X.K fd ps (n + 1) ks (fun a b => a ++ b) (fun a b => a ++ b)) (hx : Passes CX X E) (ha : PA X (e :: es) t) (hkw : PK X kws tk)
    (hall : (backToKw pos (keywordEach kws X.env)).all (·.1.isSome) = true := by rfl) (hks : (backToKw pos (keywordEach kws X.env)).filterMap (·.1) = ks := by rfl)
    (hst : starEach (e :: es) X.env = (false, eval e X.env) :: starEach es X.env := by rfl) (hpl : ((backTo pos (starEach (e :: es) X.env)).any (·.1) || (backToKw pos (keywordEach kws X.env)).any (·.1.isNone)) = false := by rfl)
    (ht : eval (.Call (.Attribute o m apos) (e :: es) kws pos) X.env = (do
      let ov ← eval o X.env
      standAt apos.atName
      let (f, first) ← holding [ov] (getMethod ov m pl)
      callWith pos f first (backTo pos (starEach (e :: es) X.env)) (backToKw pos (keywordEach kws X.env))) := by rfl) :
    PE X (.Call (.Attribute o m apos) (e :: es) kws pos) (tMeth C m sp [] E ta (tApp n ks.length t tk)) := by
  refine ⟨fun pins s σ H Q I h => ?_⟩
  refine PySem.W.methodCall_KW (pl := pl) (thn (he.run pins s σ H _ I h) fun u s1 ⟨x, H1, I1, rx, a, dx, fs, ex, ea, l, q⟩ => ?_) ht
  subst ex
  obtain rfl : u = Value.ref a := rx
  refine getmeth_ok I1 ea c hm l ?_
  refine PySem.W.callWith_KW (first := [.ref a]) (h₀ := X.base) I.ok.mod.kin hm.kp hall (thn (ha.run pos pins s1 σ H1 _ I1 q) fun us s2 ⟨vs, H2, I2, r, q2⟩ => ?_) hpl hst
  refine thn (hkw.run pos pins s2 σ H2 _ I2 q2) fun ws s3 ⟨zs, H3, I3, rz, l1, l2, q3⟩ => ⟨I3.kIn, ?_⟩
  rw [hks]
  refine run_fnN (us := .ref a :: us) (vs := .ref a :: vs) F hr hb hx I3 (.cons rfl r) rz (by simp [l1]) l2 ?_
  have e : ((V.ref a :: vs) ++ zs) = V.ref a :: (vs ++ zs ++ []) := by simp
  show sp ((V.ref a :: vs) ++ zs) H3 Q E
  rw [e]
  exact q3
end
def DK (X : Cx) (W : WB) (kws : List Keyword) (f : DEx) : Prop := (∃ t, PK X kws t ∧ RefA X.K (MGx X W.b) W t f) ∧ ∀ ρ st d ρ' st', f ρ st = .ok d ρ' st' → ∃ ds, d = .tup ds ∧ ds.length = kws.length
section
variable {X : Cx} {W : WB} {e : Expr} {kws : List Keyword} {f g : DEx} {nm : Option Str} {kpos : Pos}
end
@[simp] def aApp (f g : DEx) (ρ : En) (st : Store) : R := (f ρ st).bind fun d ρ st => match d with
  | .tup xs => (g ρ st).bind fun d ρ st => (match d with
    | .tup ys => .ok (.tup (xs ++ ys)) ρ st
    | _ => .bad)
  | _ => .bad
theorem refA_app {K : PySem.W.Frag} {mg : MG} {W : WB} {t tk : TA} {f g : DEx} {n m : Nat} (hf : RefA K mg W t f) (hg : RefA K mg W tk g) (lf : ∀ ρ st d ρ' st', f ρ st = .ok d ρ' st' → ∃ ds, d = .tup ds ∧ ds.length = n) (lg : ∀ ρ st d ρ' st', g ρ st = .ok d ρ' st' → ∃ ds, d = .tup ds ∧ ds.length = m) : RefA K mg W (tApp n m t tk) (aApp f g) := fun w Q s q => by
  refine hf.bind (P := OkA K mg W w Q) s q (fun d ρ st n => by cases d <;> first | rfl | exact absurd rfl (n _)) (fun _ _ _ z => z) (fun z => z) fun w1 vs ds e1 a1 r1 f1 q1 => ?_
  show tk w.σ w1.H _
  rw [← e1]
  refine hg.bind (P := OkA K mg W w1 Q) a1.s (q1.aft a1 e1) (fun d ρ st n => by cases d <;> first | rfl | exact absurd rfl (n _)) (fun _ _ _ z => z) (fun z => z) fun w2 us es e2 a2 r2 f2 q2 => ?_
  obtain ⟨d1, h1, l1⟩ := lf _ _ _ _ _ f1
  obtain ⟨d2, h2, l2⟩ := lg _ _ _ _ _ f2
  cases h1; cases h2
  exact ⟨by rw [r1.len]; exact l1, by rw [r2.len]; exact l2, q2 w2 (vs ++ us) rfl rfl e2 a2 ((r1.mono a2.g a2.i).append r2)⟩
def MKal (P : Program) (w : World) (K : PySem.W.Frag) (mg : Str → Option Value) (base : Heap) (k : Nat) (c m : Str) (j n : Nat) (ks : List Str) (den : Den) : Prop :=
  ∃ C f fd ps, mg c = some (.ref C) ∧ Cls K C ∧ Meth K C m f ∧ FnOk P w K mg base (L2N.CX P w) k f fd ps (spD K mg j den) ∧ KBn K fd ps (n + 1) ks (fun a b => a ++ b) (fun a b => a ++ b)
theorem MKal.call {X : Cx} {E : XK} {b : Low} {k k' j n : Nat} {ks : List Str} {den : Den} {c m : Str} {o e : Expr} {es : List Expr} {kws : List Keyword} {g fa fk : DEx} {apos pos : Pos} {pl : Sem Bool} (M : MKal X.prog X.w X.K X.mg X.base k c m j n ks den) (hr : Room k' X.A) (hk : k ≤ k') (tk : L2N.Takes X (WEb b E)) (ho : DE X (WEb b E) o g) (ha : DAn X (WEb b E) (e :: es) fa) (hw : DK X (WEb b E) kws fk)
    (hn : (e :: es).length = n := by rfl) (hkl : kws.length = ks.length := by rfl) (hj : n + ks.length + 1 = j := by rfl)
    (hall : (backToKw pos (keywordEach kws X.env)).all (·.1.isSome) = true := by rfl) (hks : (backToKw pos (keywordEach kws X.env)).filterMap (·.1) = ks := by rfl)
    (hst : starEach (e :: es) X.env = (false, eval e X.env) :: starEach es X.env := by rfl) (hpl : ((backTo pos (starEach (e :: es) X.env)).any (·.1) || (backToKw pos (keywordEach kws X.env)).any (·.1.isNone)) = false := by rfl)
    (ht : eval (.Call (.Attribute o m apos) (e :: es) kws pos) X.env = (do let ov ← eval o X.env; standAt apos.atName; let (f, first) ← holding [ov] (getMethod ov m pl); callWith pos f first (backTo pos (starEach (e :: es) X.env)) (backToKw pos (keywordEach kws X.env))) := by rfl) :
    DE X (WEb b E) (.Call (.Attribute o m apos) (e :: es) kws pos) (methD c m den [] g (aApp fa fk)) := by
  obtain ⟨C, f, fd, ps, hm, hC, hM, F, hB⟩ := M
  obtain ⟨to, po, ro⟩ := ho
  obtain ⟨⟨ta, pa, ra⟩, hl⟩ := ha
  obtain ⟨⟨tw, pw, rw'⟩, hl2⟩ := hw
  subst hn
  refine ⟨_, pe_methN (pl := pl) po hC hM F (hr.mono hk) hB (passes_const tk) pa pw hall hks hst hpl ht, ref_meth hm (fun _ _ => .nil) ro (refA_app ra rw' hl (fun ρ st d ρ' st' h => by rw [← hkl]; exact hl2 _ _ _ _ _ h)) fun ρ st d ρ' st' h => ?_⟩
  unfold aApp at h
  cases h1 : fa ρ st with
  | ok d1 ρ1 st1 =>
    obtain ⟨d1', rfl, l1⟩ := hl _ _ _ _ _ h1
    rw [h1] at h
    simp only [R.bind] at h
    cases h2 : fk ρ1 st1 with
    | ok d2 ρ2 st2 =>
      obtain ⟨d2', rfl, l2⟩ := hl2 _ _ _ _ _ h2
      rw [h2] at h
      simp only [R.bind] at h
      cases h
      exact ⟨_, rfl, by rw [List.length_append, l1, l2, hkl]; simpa using hj⟩
    | exc c ρ2 st2 => rw [h2] at h; cases h
    | bad => rw [h2] at h; cases h
  | exc c ρ2 st2 => rw [h1] at h; cases h
  | bad => rw [h1] at h; cases h
end DL
namespace DL
open PySem L2
def Mfk (K : PySem.W.Frag) (mg : Str → Option Value) (c m qual : Str) (ps : List Str) (st : Stmt) (n : Nat) (ks : List Str) : Prop := ∃ C f fd, mg c = some (.ref C) ∧ Cls K C ∧ Meth K C m f ∧ FunV K m qual st f fd ∧ KBn K fd ps (n + 1) ks (fun a b => a ++ b) (fun a b => a ++ b)
theorem MKal.of {P : Program} {wd : World} {K : PySem.W.Frag} {mg : Str → Option Value} {base : Heap} {c m qual : Str} {st : Stmt} {N ps ks : List Str} {k n j i : Nat} {g : DSx} (M : Mfk K mg c m qual ps st i ks) (S : FnScope N ps (defScope st)) (hn : n = N.length) (hj : j = ps.length)
    (hb : ∀ (f : Addr) (cdv : Value) (A : Around) (outer : List Env) (s : Shared) (H : Hp) (E : XK), Room k (A.deeper (PyProof.Rows.envOfC qual (defScope st) s.heap.objs.size f cdv)) →
      DSs (cxOf (L2N.CX P wd) P wd K mg base N qual (defScope st) f cdv A outer s H E) (WEx E) (defBody st) g) : MKal P wd K mg base (k + 1) c m j i ks (runD n g) := by
  obtain ⟨C, f, fd, h1, h2, h3, h4, h5⟩ := M
  subst hj
  exact ⟨C, f, fd, ps, h1, h2, h3, fn_D h4 S hn (hb f), h5⟩
end DL
namespace DL
open PySem L2 NdefX LamX PyProof.Rows
def spB (K : PySem.W.Frag) (mg : Str → Option Value) (b : Low) (n : Nat) (dn : Den) : Sp := fun vs H Q E => vs.length = n ∧
  ∃ (w : Ws) (ds : List D), w.ρ = [] ∧ w.σ = [] ∧ w.H = H ∧ Sts K ⟨mg, b⟩ w ∧ Reps K ⟨mg, b⟩ w.G w.ι vs ds ∧ OkR K ⟨mg, b⟩ (WEb b E) w Q (dn ds w.st)
structure CloX (Y : Cx) (k n : Nat) (b : Low) (dn : Den) : Prop where
  at_ : ∀ (f : Addr), b.fn = some f → ∀ (pins : List (Addr × Obj)) (σ : L2.St) (s : Shared) (w : Ws), Inv Y pins σ w.H s → Sts Y.K ⟨Y.mg, b⟩ w → PySem.W.FnAt f s.heap
  run : ∀ (f : Addr), b.fn = some f → ∀ (pins : List (Addr × Obj)) (σ : L2.St) (H : Hp) (s : Shared) (us : List Value) (vs : List V) (Q : VK) (E : XK), Inv Y pins σ H s → Room k Y.A → Vals vs us → spB Y.K Y.mg b n dn vs H Q E →
    codeAny (model Y.prog Y.w) Y.A (.call (.ref f) ⟨us, []⟩) (CR (L2N.CX Y.prog Y.w) Y.stack Y.prog Y.w H s Q E) s
section
variable {X : Cx} {k j n i : Nat} {b : Low} {dn : Den} {W : WX} {x : Str} {t : TA} {e : Expr} {es : List Expr} {p pos : Pos}
theorem clo_ends {pins : List (Addr × Obj)} {σ : L2.St} {H : Hp} {s : Shared} {Q : VK} {f : Addr} {us : List Value} (tk : L2N.Takes X W) (I : Inv X pins σ H s)
    (c : codeAny (model X.prog X.w) X.A (.call (.ref f) ⟨us, []⟩) (CR (L2N.CX X.prog X.w) X.stack X.prog X.w H s Q (WE W σ)) s) : wpAny (model X.prog X.w) X.A (call (.ref f) us) (EP X pins σ Q) X.xe s := by
  refine wpAny_call (codeAny_mono c fun r s' z => ?_)
  cases r with
  | error u => exact L2N.passAt tk σ pins H s u s' I z
  | ok o =>
    cases o with
    | ret u => exact I.after z
    | _ => exact False.elim z
end
section
variable {X : Cx} {W : WB} {k j n i : Nat} {dn : Den} {x : Str} {e : Expr} {es : List Expr} {fa : DEx} {p pos : Pos}
end
end DL
namespace DL
open PySem L2 NdefX LamX PyProof.Rows
structure RecD (P : Program) (wd : World) (K : PySem.W.Frag) (mg : Str → Option Value) (base : Heap) (k kc m : Nat) (x : Str) (st : Stmt) (N ps : List Str) (gb : Den → DSx) (f : Addr) (fd : FuncData) : Prop where
  fn : FunV K x x st f fd
  kp : PySem.W.keepIn K (.ref f) = true
  at_ : mg x = some (.ref f)
  bi : Binds K fd ps []
  sc : FnScope N ps (defScope st)
  body : ∀ (b : Low) (dn : Den) (cdv : Value) (A : Around) (outer : List Env) (s : Shared) (H : Hp) (E : XK), b.ex = none → Room k (A.deeper (envOfC x (defScope st) s.heap.objs.size f cdv)) →
    (∀ pn xe, CloX ((cxOf (L2N.CX P wd) P wd K mg base N x (defScope st) f cdv A outer s H E).tr pn xe) kc m b dn) → DSs (cxOf (L2N.CX P wd) P wd K mg base N x (defScope st) f cdv A outer s H E) (WEb b E) (defBody st) (gb dn)
end DL
namespace DL
open PySem L2 NdefX LamX PyProof.Rows
section
variable {X : Cx} {pins : List (Addr × Obj)} {σ : L2.St} {H : Hp} {s : Shared}
end
end DL
namespace DL
open PySem L2 NdefX LamX PyProof.Rows
def tSem (X : Cx) (W : WX) (g : Addr) (t : TA) : TE := fun σ H Q => t σ H fun vs H1 => ∀ (pins : List (Addr × Obj)) (s : Shared) (us : List Value), Inv X pins σ H1 s → Vals vs us → codeAny (model X.prog X.w) X.A (.call (.ref g) ⟨us, []⟩) (CR (L2N.CX X.prog X.w) X.stack X.prog X.w H1 s Q (WE W σ)) s
theorem pe_sem {X : Cx} {W : WX} {g : Addr} {x : Str} {t : TA} {e : Expr} {es : List Expr} {p pos : Pos} (hg : Gl X x) (hm : X.mg x = some (.ref g)) (hk : PySem.W.keepIn X.K (.ref g) = true) (tk : L2N.Takes X W) (ha : PA X (e :: es) t)
    (hdb : (x == ("__debug__" : Str)) = false := by decide) (he : starEach (e :: es) X.env = (false, eval e X.env) :: starEach es X.env := by rfl) (hpl : (backTo pos (starEach es X.env)).any (·.1) = false := by rfl) : PE X (.Call (.Name x p) (e :: es) [] pos) (tSem X W g t) := by
  refine ⟨fun pins s σ H Q I z => ?_⟩
  refine wpAny_Call_Name_kw (ld_glob I hg hm ?_ hdb)
  have A := ha.run pos pins s σ H _ I z
  exact PySem.W.callWith_K (h₀ := X.base) I.ok.mod.kin hk (thn A fun us s1 ⟨vs, H1, I1, r, q⟩ => ⟨I1.kIn, clo_ends tk I1 (q pins s1 us I1 r)⟩) he hpl
end DL
namespace DL
open PySem L2 NdefX LamX PyProof.Rows
structure TabAt (X : Cx) (q : Str) (c P : Addr) : Prop where
  tb : TabB X.base X.mg c P
  code : X.env.code = .ref c
  hd : PySem.W.codeHdIn X.K c P = true
  fn : ∃ (f : Addr) (fd : FuncData) (oc : Value) (od : Option Addr) (osl : Array (Option Value)), X.mg q = some (.ref f) ∧ X.K.lookup f = some ⟨oc, od, .func fd, osl⟩ ∧ fd.code = .ref c
end DL
namespace DL
open PySem L2 NdefX LamX PyProof.Rows
@[simp] def keepS : Sl → Sl
  | .val d => .val d
  | _ => .no
theorem Sts.kept {K : PySem.W.Frag} {mg : Str → Option Value} {b0 : Low} {f : Option Addr} {w w' : Ws} (s : Sts K ⟨mg, b0⟩ w) (s' : Sts K ⟨mg, ⟨w.G, w.ι, f, none⟩⟩ w') : Sts K ⟨mg, ⟨w.G, w.ι, f, none⟩⟩ { w' with ρ := w.ρ.map keepS, σ := w.σ } where
  lowG := s'.lowG
  lowI := s'.lowI
  sub := s'.sub
  ln := by simp [s.ln]
  len := s'.len
  cel := s'.cel
  inj := s'.inj
  slo := fun i x h => by
    have h' : (w.ρ.map keepS)[i]? = some x := h
    rw [List.getElem?_map] at h'
    cases e : w.ρ[i]? with
    | none => rw [e] at h'; cases h'
    | some y =>
      rw [e] at h'
      cases h'
      have z := s.slo i y e
      cases y with
      | val d => obtain ⟨v, e1, r⟩ := z; exact ⟨v, e1, (r.reb _ _).mono s'.lowG s'.lowI⟩
      | _ => trivial
  sep := fun i l a ⟨es, h, _⟩ _ => by
    have h' : (w.ρ.map keepS)[i]? = some (.ml es) := h
    rw [List.getElem?_map] at h'
    cases e : w.ρ[i]? with
    | none => rw [e] at h'; cases h'
    | some y => rw [e] at h'; cases y <;> cases h'
  dis := fun i j a ⟨es, h, _⟩ _ => by
    have h' : (w.ρ.map keepS)[i]? = some (.ml es) := h
    rw [List.getElem?_map] at h'
    cases e : w.ρ[i]? with
    | none => rw [e] at h'; cases h'
    | some y => rw [e] at h'; cases y <;> cases h'
section
variable {X : Cx} {pins : List (Addr × Obj)} {s : Shared} {w : Ws}
end
end DL
namespace DL
open PySem L2
def OkOd (K : PySem.W.Frag) (mg : MG) (W : WB) (w : Ws) (Q : VK) : R → Prop
  | .ok (.dct ds) ρ st => ∀ (w' : Ws) (a : Addr) (vs : List (Key × V)), w'.ρ = ρ → w'.st = st → w'.σ = w.σ → Aft K mg w w' → w.H a = none → Loose w' a → w'.H a = some (.dK vs) → RepK K mg w'.G w'.ι vs ds → Q (.ref a) w'.H
  | .ok _ _ _ => False
  | .exc c ρ st => ∀ (w' : Ws) (cls : Value) (dx : Option Addr), w'.ρ = ρ → w'.st = st → w'.σ = w.σ → Aft K mg w w' → ExcAt K mg w' c cls dx → W cls dx w'.σ w'.H
  | .bad => False
def RefOd (K : PySem.W.Frag) (mg : MG) (W : WB) (t : TE) (f : DEx) : Prop := ∀ (w : Ws) (Q : VK), Sts K mg w → OkOd K mg W w Q (f w.ρ w.st) → t w.σ w.H Q
def DOd (X : Cx) (W : WB) (e : Expr) (f : DEx) : Prop := ∃ t, PE X e t ∧ RefOd X.K (MGx X W.b) W t f
def LockQ (Q : VK) : VK := fun v H => Q v H ∨ ∃ d u, v = .ref d ∧ H d = some u ∧ Mut (some u) ∧ ∀ od, Q v (upd H d (.frz od u))
theorem pe_lk {X : Cx} {e : Expr} {t : TE} (h : PE X e t) : PE X e (fun σ H Q => t σ H (LockQ Q)) := by
  refine ⟨fun pins s σ H Q I z => ?_⟩
  refine thn (h.run pins s σ H _ I z) fun u s1 ⟨v, H1, I1, r, q⟩ => ?_
  rcases q with q | ⟨d, o, rfl, hd, mu, q⟩
  · exact ⟨v, H1, I1, r, q⟩
  · obtain ⟨od, J⟩ := I1.lock hd mu
    exact ⟨_, _, J, r, q od⟩
@[simp] def lkE (f : DEx) (ρ : En) (st : Store) : R := (f ρ st).bind fun d ρ st => match d with
  | .dct ds => .ok (.dlk ds) ρ st
  | _ => .bad
@[simp] def cellDE (f : DEx) (ρ : En) (st : Store) : R := (f ρ st).bind fun d ρ st => match d with
  | .dct ds => .ok (.ref st.length) ρ (st ++ [.dct ds])
  | _ => .bad
section
variable {K : PySem.W.Frag} {mg : MG} {W : WB}
theorem Aft.lockD {w0 w : Ws} (A : Aft K mg w0 w) {a : Addr} {vs : List (Key × V)} {ds : List (Key × D)} (od : Obj) (hf : w0.H a = none) (hl : Loose w a) (r : RepK K mg w.G w.ι vs ds) :
    ∃ w' : Ws, w'.ρ = w.ρ ∧ w'.st = w.st ∧ w'.σ = w.σ ∧ w'.H = upd w.H a (.frz od (.dK vs)) ∧ Aft K mg w0 w' ∧ Rep K mg w'.G w'.ι (.ref a) (.dlk ds) := by
  have A1 := A.looseUpd (o := .frz od (.dK vs)) hf hl
  have A2 := A1.freeze (a := a) (o := .frz od (.dK vs)) hf hl upd_same
  exact ⟨{ w with H := upd w.H a (.frz od (.dK vs)), G := upd w.G a (.frz od (.dK vs)) }, rfl, rfl, rfl, rfl, A2, .dlk upd_same (r.mono (same_upd hl.1) (LeI.refl _))⟩
theorem RefOd.lk {t : TE} {f : DEx} (h : RefOd K mg W t f) : RefE K mg W (fun σ H Q => t σ H (LockQ Q)) (lkE f) := fun w Q s q => by
  refine h w _ s ?_
  unfold lkE at q
  cases e : f w.ρ w.st with
  | ok d ρ st =>
    rw [e] at q
    cases d with
    | dct ds =>
      intro w' a vs h1 h2 h3 A hf hl ha r
      subst h1; subst h2
      refine .inr ⟨a, .dK vs, rfl, ha, trivial, fun od => ?_⟩
      obtain ⟨w2, e1, e2, e3, e4, A2, r2⟩ := A.lockD od hf hl r
      rw [← e4]
      exact q w2 _ e1 e2 (e3.trans h3) A2 r2
    | _ => exact q.elim
  | exc c ρ st => rw [e] at q; exact q
  | bad => rw [e] at q; exact q
theorem RefOd.cell {t : TE} {f : DEx} (h : RefOd K mg W t f) : RefE K mg W t (cellDE f) := fun w Q s q => by
  refine h w _ s ?_
  unfold cellDE at q
  cases e : f w.ρ w.st with
  | ok d ρ st =>
    rw [e] at q
    cases d with
    | dct ds =>
      intro w' a vs h1 h2 h3 A hf hl ha r
      subst h1; subst h2
      have A1 := A.newCellG (c := .dct ds) hf hl (by simp) ⟨hl.1, vs, ha, r⟩
      exact q { w' with ι := w'.ι ++ [a], st := w'.st ++ [.dct ds] } (.ref a) rfl rfl h3 A1 (cellRep A)
    | _ => exact q.elim
  | exc c ρ st => rw [e] at q; exact q
  | bad => rw [e] at q; exact q
end
section
variable {X : Cx} {W : WB} {e : Expr} {f : DEx} {pos : Pos}
theorem DOd.lk (h : DOd X W e f) : DE X W e (lkE f) := let ⟨_, p, r⟩ := h; ⟨_, pe_lk p, r.lk⟩
theorem DOd.cell (h : DOd X W e f) : DE X W e (cellDE f) := let ⟨_, p, r⟩ := h; ⟨_, p, r.cell⟩
theorem dod_new : DOd X W (.Dict [] [] pos) (cst (.dct [])) := ⟨_, pe_dnewK, fun w Q s q p hp => by
  have A := Aft.loose (o := .dK []) s hp
  exact q { w with H := upd w.H p (.dK []) } p [] rfl rfl rfl A hp (s.looseAt hp) upd_same .nil⟩
end
section
variable {K : PySem.W.Frag} {mg : MG} {W : WB}
end
end DL
namespace DL
open PySem L2 PyProof.Rows
section
variable {X : Cx} {W : WB} {kx vx tg iter : Expr} {ifs : List Expr} {scope : Scope} {own : List (Str × Nat)} {pos spos : Pos} {fi c fk f : DEx} {g : DGx} {is : List Nat}
end
end DL
namespace DL
open PySem L2 PyProof.Rows
@[simp] def dOf : D → Option (List (Key × D))
  | .dct k => some k
  | .dlk k => some k
  | _ => none
section
variable {K : PySem.W.Frag} {mg : MG}
theorem dct_at {w : Ws} (s : Sts K mg w) {v : V} {d : D} {kvs : List (Key × D)} (r : Rep K mg w.G w.ι v d) (h : dOf (lkD w.st d) = some kvs) : ∃ a vs, v = .ref a ∧ Rd w.H a (.dK vs) ∧ RepK K mg w.G w.ι vs kvs := by
  rcases lk_repV s r with r | ⟨a, vs, ds, rfl, e, _⟩ | ⟨a, vs, ds, rfl, e, h1, h2⟩
  · generalize lkD w.st d = z at r h
    cases r with
    | dct q q2 => cases h; exact ⟨_, _, rfl, Rd.mono s.sub q, q2⟩
    | dlk q q2 => cases h; exact ⟨_, _, rfl, .inr ⟨_, s.sub _ _ q⟩, q2⟩
    | _ => cases h
  · rw [e] at h; cases h
  · rw [e] at h; cases h
    exact ⟨a, vs, rfl, .inl h1, h2⟩
theorem dget_at {w : Ws} {a : Addr} {vs : List (Key × V)} {k : Key} (h : Rd w.H a (.dK vs)) : DGet w.H a (kV k) (valV vs k) := .inl ⟨vs, k, h, rfl, rfl⟩
theorem val_getD {G : Hp} {ι : List Addr} {vs : List (Key × V)} {ds : List (Key × D)} {k : Key} {u : V} {e : D} (r : RepK K mg G ι vs ds) (ru : Rep K mg G ι u e) : Rep K mg G ι ((valV vs k).getD u) ((getK ds k).getD e) := by
  cases h : getK ds k with
  | none => rw [r.get.2 h]; exact ru
  | some d => obtain ⟨v, e1, e2⟩ := r.get.1 d h; rw [e1]; exact e2
end
@[simp] def dgetD (f g h : DEx) (ρ : En) (st : Store) : R := (f ρ st).bind fun d ρ st => match dOf (lkD st d) with
  | some _ => (g ρ st).bind fun kd ρ st => (h ρ st).bind fun e ρ st => (match kd.key, dOf (lkD st d) with
    | some k, some kvs => .ok ((getK kvs k).getD e) ρ st
    | _, _ => .bad)
  | none => .bad
@[simp] def dsubD (f g : DEx) (ρ : En) (st : Store) : R := (f ρ st).bind fun d ρ st => (g ρ st).bind fun kd ρ st => match kd.key, dOf (lkD st d) with
  | some k, some kvs => (match getK kvs k with
    | some e => .ok e ρ st
    | none => .bad)
  | _, _ => .bad
section
variable {X : Cx} {W : WB} {o e x : Expr} {f g h : DEx} {pos apos cpos : Pos}
theorem de_dget2 (hu : X.A.units + 1 < cLine) (ho : DE X W o f) (he : DE X W e g) (hx : DE X W x h) (m : M2 X o "get" apos e x cpos) : DE X W (.Call (.Attribute o "get" apos) [e, x] [] cpos) (dgetD f g h) := by
  obtain ⟨to, po, ro⟩ := ho
  obtain ⟨te, pe, re⟩ := he
  obtain ⟨tx, px, rx⟩ := hx
  refine ⟨_, pe_dget2 hu po pe px m, fun w Q s q => ?_⟩
  refine ro.bindR s q fun w1 v d s1 e1 a1 r1 q1 => ?_
  cases h1 : dOf (lkD w1.st d) with
  | none => simp only [h1] at q1; exact q1.elim
  | some k1 =>
    simp only [h1] at q1
    obtain ⟨a, vs, rfl, hR, _⟩ := dct_at s1 r1 h1
    refine ⟨a, rfl, .inl ⟨vs, hR⟩, ?_⟩
    rw [← e1]
    refine re.bindR s1 q1 fun w2 kv kd s2 e2 a2 r2 q2 => ?_
    show tx w1.σ w2.H _
    rw [← e2]
    refine rx.bindR s2 q2 fun w3 z zd s3 e3 a3 r3 q3 => ?_
    cases hk : kd.key with
    | none => simp only [hk] at q3; exact q3.elim
    | some k =>
      cases h3 : dOf (lkD w3.st d) with
      | none => simp only [hk, h3] at q3; exact q3.elim
      | some kvs =>
        simp only [hk, h3] at q3
        have a13 := a2.trans a3
        obtain ⟨a', vs', ea, hR', rk⟩ := dct_at s3 (r1.mono a13.g a13.i) h3
        cases ea
        have ek := (r2.mono a3.g a3.i).key hk
        subst ek
        exact ⟨valV vs' k, dget_at hR', q3 w3 _ rfl rfl rfl (.refl s3) (val_getD rk r3)⟩
theorem isSome_get {K : PySem.W.Frag} {mg : MG} {G : Hp} {ι : List Addr} {vs : List (Key × V)} {ds : List (Key × D)} {k : Key} (r : RepK K mg G ι vs ds) : (valV vs k).isSome = (getK ds k).isSome := by
  cases h : getK ds k with
  | none => rw [r.get.2 h]; rfl
  | some d => obtain ⟨v, e1, _⟩ := r.get.1 d h; rw [e1]; rfl
theorem de_dsub (hu : X.A.units + 1 < cLine) (ho : DE X W o f) (he : DE X W e g) (hs : NoSl e) : DE X W (.Subscript o e pos) (dsubD f g) := by
  obtain ⟨to, po, ro⟩ := ho
  obtain ⟨te, pe, re⟩ := he
  refine ⟨_, pe_dget hu po pe hs, fun w Q s q => ?_⟩
  refine ro.bindR s q fun w1 v d s1 e1 a1 r1 q1 => ?_
  show te w.σ w1.H _
  rw [← e1]
  refine re.bindR s1 q1 fun w2 kv kd s2 e2 a2 r2 q2 => ?_
  cases hk : kd.key with
  | none => simp only [hk] at q2; exact q2.elim
  | some k =>
    cases h3 : dOf (lkD w2.st d) with
    | none => simp only [hk, h3] at q2; exact q2.elim
    | some kvs =>
      simp only [hk, h3] at q2
      obtain ⟨a', vs', rfl, hR', rr⟩ := dct_at s2 (r1.mono a2.g a2.i) h3
      have ek := r2.key hk
      subst ek
      cases h4 : getK kvs k with
      | none => simp only [h4] at q2; exact q2.elim
      | some z =>
        simp only [h4] at q2
        obtain ⟨u, e4, r4⟩ := rr.get.1 z h4
        have := dget_at (k := k) hR'
        rw [e4] at this
        exact ⟨a', u, rfl, this, q2 w2 u rfl rfl rfl (.refl s2) r4⟩
end
@[simp] def dputD (fo fk fv : DEx) (ρ0 : En) (st0 : Store) : Fl := thenF fv (fun vd ρ st => match fo ρ st with
  | .ok (.ref l) ρ st => (match fk ρ st with
    | .ok kd ρ st => (match kd.key, st[l]? with
      | some k, some (.dct kvs) => if kvs.length < sizeLine then .nx ρ (st.set l (.dct (putD kvs k vd))) else .bad
      | _, _ => .bad)
    | .exc c ρ st => .exc c ρ st
    | .bad => .bad)
  | .ok _ _ _ => .bad
  | .exc c ρ st => .exc c ρ st
  | .bad => .bad) ρ0 st0
section
variable {X : Cx} {W : WB} {o e x : Expr} {f g h : DEx} {pos pos' apos cpos : Pos}
theorem ds_dput (hu : X.A.units + 1 < cLine) (hv : DE X W x h) (ho : DE X W o f) (he : DE X W e g) (hs : swapsWith x (some (.Subscript o e pos')) pos.line X.env = pure false := by rfl) : DS X W (.Assign [.Subscript o e pos'] x pos) (dputD f g h) := by
  obtain ⟨to, po, ro⟩ := ho
  obtain ⟨te, pe, re⟩ := he
  obtain ⟨tx, px, rx⟩ := hv
  refine ⟨_, ps_dput hu po pe px hs, fun w E s q => ?_⟩
  refine rx.bindF s q fun w1 v vd s1 e1 a1 r1 q1 => ?_
  show to w.σ w1.H _
  rw [← e1]
  refine ro.bindF (E := E) (r := fun d ρ st => match d with
    | .ref l => (match g ρ st with
      | .ok kd ρ st => (match kd.key, st[l]? with
        | some k, some (.dct kvs) => if kvs.length < sizeLine then .nx ρ (st.set l (.dct (putD kvs k vd))) else .bad
        | _, _ => .bad)
      | .exc c ρ st => .exc c ρ st
      | .bad => .bad)
    | _ => .bad) s1 ?_ fun w2 ov od s2 e2 a2 r2 q2 => ?_
  · cases eo : f w1.ρ w1.st with
    | ok d ρ st => rw [eo] at q1; cases d <;> exact q1
    | exc c ρ st => rw [eo] at q1; exact q1
    | bad => rw [eo] at q1; exact q1
  · cases od with
    | ref l =>
      show te w1.σ w2.H _
      rw [← e2]
      refine re.bindF s2 q2 fun w3 kv kd s3 e3 a3 r3 q3 => ?_
      cases hk : kd.key with
      | none => simp only [hk] at q3; exact q3.elim
      | some k =>
        simp only [hk] at q3
        split at q3
        · rename_i k' kvs hk' hst
          cases hk'
          split at q3
          · rename_i hz
            cases r2 with
            | ref hi =>
              rename_i a
              have hi3 := a3.i _ _ hi
              obtain ⟨g0, vs, hH, rk⟩ := s3.cel l _ a hst hi3
              have ek := r3.key hk
              subst ek
              have r1' := (r1.mono a2.g a2.i).mono a3.g a3.i
              have A := Aft.mutCell s3 (o := .dK (putK vs k v)) (c := .dct (putD kvs k vd)) hst (by simp) hi3 (by simp) ⟨g0, putK vs k v, upd_same, rk.put r1'⟩
              have := q3 { w3 with H := upd w3.H a (.dK (putK vs k v)), st := w3.st.set l (.dct (putD kvs k vd)) } rfl rfl A
              refine ⟨a, _, rfl, DPut.k hH (by rw [rk.len]; exact hz), ?_⟩
              rw [← e3]
              exact this
          · exact q3.elim
        · exact q3.elim
    | _ => exact q2.elim
end
end DL
namespace DL
open PySem L2 PyProof.Rows
section
variable {K : PySem.W.Frag} {mg : MG} {w : Ws}
theorem Aft.killUpd (s : Sts K mg w) {l : Nat} {a : Addr} {c : Cell} {o : HO} (h0 : w.st[l]? = some c) (hd : c ≠ .dead) (h1 : w.ι[l]? = some a) :
    Aft K mg w { w with G := upd w.G a o, H := upd w.H a o, st := w.st.set l .dead } := by
  have own : Liv w l a := ⟨c, h0, hd, h1⟩
  have ga : w.G a = none := s.mtG own.mt
  have sg := same_upd (o := o) ga
  have sub' : Same (upd w.G a o) (upd w.H a o) := fun b u e => by
    by_cases h : b = a
    · subst h; rw [upd_same] at e ⊢; exact e
    · rw [upd_ne h] at e ⊢; exact s.sub _ _ e
  have lv : ∀ k b, Liv { w with G := upd w.G a o, H := upd w.H a o, st := w.st.set l .dead } k b → Liv w k b ∧ k ≠ l := fun k b h => by
    obtain ⟨c', q1, q2, q3⟩ := h
    rcases getElem?_set_ite q1 with ⟨_, e, _⟩ | ⟨ne, e⟩
    · exact absurd e q2
    · exact ⟨⟨c', e, q2, q3⟩, ne⟩
  have nea : ∀ b, b ≠ a → (w.G b = none → upd w.G a o b = none) ∧ ∀ u, w.H b = some u → upd w.H a o b = some u := fun b hb => ⟨fun e => by rw [upd_ne hb]; exact e, fun u e => by rw [upd_ne hb]; exact e⟩
  refine ⟨⟨s.lowG.trans sg, s.lowI, sub', s.ln, by simpa using s.len, fun k c' b q1 q2 => ?_, fun k k' b q1 q2 => s.inj k k' b (lv k b q1).1 (lv k' b q2).1, fun i x h => ?_, fun i k b q1 q2 => s.sep i k b q1 (lv k b q2).1, s.dis⟩, sg, LeI.refl _, fun b u h n => ?_, fun b h => ?_, fun b h => ?_, fun b h => ?_⟩
  · rcases getElem?_set_ite q1 with ⟨_, e2, _⟩ | ⟨ne, e⟩
    · subst e2; trivial
    · refine (s.cel k c' b e q2).keep (w' := { w with G := upd w.G a o, H := upd w.H a o, st := w.st.set l .dead }) sg (LeI.refl _) (fun n => ?_) sub'
      have hb : b ≠ a := fun q : b = a => ne (s.inj k l b ⟨c', e, n, q2⟩ (q ▸ own))
      exact ⟨(nea b hb).1 (s.mtG (.inl ⟨k, c', e, n, q2⟩)), (nea b hb).2⟩
  · refine (s.slo i x h).keep (w' := { w with G := upd w.G a o, H := upd w.H a o, st := w.st.set l .dead }) sg (LeI.refl _) fun b ⟨es, e3⟩ h2 => ?_
    have o2 : OwnS w i b := ⟨es, by rw [h, e3], h2⟩
    have hb : b ≠ a := fun q : b = a => s.sep i l b o2 (q ▸ own)
    exact ⟨(nea b hb).1 (s.mtG o2.mt), (nea b hb).2⟩
  · show upd w.H a o b = some u
    rw [upd_ne (fun q : b = a => n (q ▸ own.mt))]
    exact h
  · rcases h with ⟨k, h⟩ | h
    · exact .inl (.inl ⟨k, (lv k b h).1⟩)
    · exact .inl (.inr h)
  · by_cases e : b = a
    · subst e; exact .inr (.inl own.mt)
    · refine .inl ?_
      have h' : upd w.G a o b ≠ none := h
      rwa [upd_ne e] at h'
  · have h' : upd w.H a o b = none := h
    by_cases e : b = a
    · rw [e, upd_same] at h'; cases h'
    · rwa [upd_ne e] at h'
end
def frzKs : List (Key × D) → Store → Option (List (Key × D) × Store)
  | [], st => some ([], st)
  | (k, d) :: ds, st => match frz d st with
    | some (d', st') => (match frzKs ds st' with
      | some (ds', st'') => some ((k, d') :: ds', st'')
      | none => none)
    | none => none
theorem frzKs_ok {K : PySem.W.Frag} {mg : MG} : ∀ (ds : List (Key × D)) {w : Ws} {vs : List (Key × V)} {ds' : List (Key × D)} {st' : Store}, Sts K mg w → RepK K mg w.G w.ι vs ds → frzKs ds w.st = some (ds', st') → ∃ w', FrzOk K mg w w' st' ∧ RepK K mg w'.G w'.ι vs ds'
  | [], w, vs, ds', st', s, r, h => by
    cases r
    simp [frzKs] at h; obtain ⟨rfl, rfl⟩ := h; exact ⟨w, .refl s, .nil⟩
  | (k, d) :: ds, w, vs, ds', st', s, r, h => by
    cases r with
    | cons r1 r2 =>
      rw [frzKs] at h
      split at h
      · rename_i d1 st1 e1
        split at h
        · rename_i ds2 st2 e2
          cases h
          obtain ⟨w1, F1, q1⟩ := frz_ok d s r1 e1
          have A1 := F1.2.2.2.2
          rw [← F1.2.2.2.1] at e2
          obtain ⟨w2, F2, q2⟩ := frzKs_ok ds A1.s (r2.mono A1.g A1.i) e2
          have A2 := F2.2.2.2.2
          exact ⟨w2, F1.trans F2, .cons (q1.mono A2.g A2.i) q2⟩
        · cases h
      · cases h
@[simp] def fzdE (f : DEx) (ρ : En) (st : Store) : R := (f ρ st).bind fun d ρ st => match d with
  | .ref l => (match st[l]? with
    | some (.dct kvs) => (match frzKs kvs st with
      | some (kvs', st') => (match st'[l]? with
        | some (.dct _) => .ok (.dlk kvs') ρ (st'.set l .dead)
        | _ => .bad)
      | none => .bad)
    | _ => .bad)
  | _ => .bad
theorem RefE.fzd {K : PySem.W.Frag} {mg : MG} {W : WB} {t : TE} {f : DEx} (h : RefE K mg W t f) : RefE K mg W (fun σ H Q => t σ H (LockQ Q)) (fzdE f) := fun w Q s q => by
  refine h.bindR s q fun w1 v d s1 e1 a1 r1 q1 => ?_
  cases d with
  | ref l =>
    simp only at q1
    split at q1
    · rename_i kvs hst
      split at q1
      · rename_i kvs' st' hf
        split at q1
        · rename_i kvs2 hst'
          cases r1 with
          | ref hi =>
            rename_i a
            obtain ⟨g0, vs, hH, rk⟩ := s1.cel l _ a hst hi
            obtain ⟨w2, ⟨b1, b2, b3, b4, b5⟩, rk2⟩ := frzKs_ok kvs s1 rk hf
            refine .inr ⟨a, .dK vs, rfl, hH, trivial, fun od => ?_⟩
            have hi2 := b5.i _ _ hi
            have A := Aft.killUpd b5.s (l := l) (a := a) (c := .dct kvs2) (o := .frz od (.dK vs)) (by rw [b4]; exact hst') (by simp) hi2
            have := q1 { w2 with G := upd w2.G a (.frz od (.dK vs)), H := upd w2.H a (.frz od (.dK vs)), st := w2.st.set l .dead } (.ref a) b1 (by rw [← b4]) b2 (b5.trans A) (.dlk upd_same (rk2.mono A.g A.i))
            rw [← b3]
            exact this
        · exact q1.elim
      · exact q1.elim
    · exact q1.elim
  | _ => exact q1.elim
section
variable {X : Cx} {W : WB} {e : Expr} {f : DEx} {pos apos cpos tpos : Pos}
theorem DE.fzd (h : DE X W e f) : DE X W e (fzdE f) := let ⟨_, p, r⟩ := h; ⟨_, pe_lk p, r.fzd⟩
@[simp] def kD : Key → D
  | .inl i => .int i
  | .inr s => .str s
theorem rep_kV {K : PySem.W.Frag} {mg : MG} {G : Hp} {ι : List Addr} (k : Key) : Rep K mg G ι (kV k) (kD k) := by
  cases k with
  | inl i => exact .int i
  | inr s => exact .str s
def keysL (kvs : List (Key × D)) : List D := kvs.map fun kv => kD kv.1
theorem RepK.at {K : PySem.W.Frag} {mg : MG} {G : Hp} {ι : List Addr} : ∀ {vs : List (Key × V)} {ds : List (Key × D)} {i : Nat} {k : Key} {d : D}, RepK K mg G ι vs ds → ds[i]? = some (k, d) → ∃ v, vs[i]? = some (k, v) ∧ Rep K mg G ι v d
  | _, _, _, _, _, .nil, h => by simp at h
  | _, _, 0, _, _, .cons r _, h => by simp at h; obtain ⟨rfl, rfl⟩ := h; exact ⟨_, rfl, r⟩
  | _, _, i + 1, k, d, .cons _ t, h => by
    obtain ⟨v, h1, h2⟩ := RepK.at (i := i) (k := k) (d := d) t (by simpa using h)
    exact ⟨v, by simpa using h1, h2⟩
end
end DL
namespace DL
open PySem L2 PyProof.Rows
def CalD (P : Program) (w : World) (K : PySem.W.Frag) (mg : Str → Option Value) (base : Heap) (k : Nat) (x : Str) (n : Nat) (den : Den) (dds : List D) : Prop :=
  ∃ f fd ps ds dvs, FnOk P w K mg base (L2N.CX P w) k f fd ps (spD K mg n den) ∧ mg x = some (.ref f) ∧ PySem.W.keepIn K (.ref f) = true ∧ Binds K fd ps ds ∧ Vals dvs ds ∧ ∀ b G ι, Reps K ⟨mg, b⟩ G ι dvs dds
def CalK (P : Program) (w : World) (K : PySem.W.Frag) (mg : Str → Option Value) (base : Heap) (k : Nat) (x : Str) (n j : Nat) (ks : List Str) (den : Den) : Prop :=
  ∃ f fd ps, FnOk P w K mg base (L2N.CX P w) k f fd ps (spD K mg n den) ∧ mg x = some (.ref f) ∧ PySem.W.keepIn K (.ref f) = true ∧ KBn K fd ps j ks (fun a b => a ++ b) (fun a b => a ++ b)
def Dfd (K : PySem.W.Frag) (mg : Str → Option Value) (x : Str) (ps : List Str) (st : Stmt) (dds : List D) : Prop := ∃ f fd ds dvs, FunV K x x st f fd ∧ mg x = some (.ref f) ∧ PySem.W.keepIn K (.ref f) = true ∧ Binds K fd ps ds ∧ Vals dvs ds ∧ ∀ b G ι, Reps K ⟨mg, b⟩ G ι dvs dds
def Dfk (K : PySem.W.Frag) (mg : Str → Option Value) (x : Str) (ps : List Str) (st : Stmt) (j : Nat) (ks : List Str) : Prop := ∃ f fd, FunV K x x st f fd ∧ mg x = some (.ref f) ∧ PySem.W.keepIn K (.ref f) = true ∧ KBn K fd ps j ks (fun a b => a ++ b) (fun a b => a ++ b)
@[simp] def aDef (f : DEx) (dds : List D) (ρ : En) (st : Store) : R := (f ρ st).bind fun d ρ st => match d with
  | .tup xs => .ok (.tup (xs ++ dds)) ρ st
  | _ => .bad
theorem CalD.call {X : Cx} {W : WB} {k k' n : Nat} {den : Den} {x : Str} {dds : List D} {p pos : Pos} {e : Expr} {es : List Expr} {fa : DEx} (C : CalD X.prog X.w X.K X.mg X.base k x n den dds) (hr : Room k' X.A) (hk : k ≤ k') (hg : Gl X x) (tk : L2N.Takes X W)
    (ha : DAn X W (e :: es) fa) (hn : (e :: es).length + dds.length = n := by rfl) (hdb : (x == ("__debug__" : Str)) = false := by decide) (he : starEach (e :: es) X.env = (false, eval e X.env) :: starEach es X.env := by rfl) (hpl : (backTo pos (starEach es X.env)).any (·.1) = false := by rfl) :
    DE X W (.Call (.Name x p) (e :: es) [] pos) (callD den (aDef fa dds)) := by
  obtain ⟨f, fd, ps, ds, dvs, F, hm, kp, hb, hv, hD⟩ := C
  obtain ⟨⟨t, pt, rt⟩, hl⟩ := ha
  refine ⟨_, pe_callSD F (hr.mono hk) hg hm kp hb hv (fun σ => L2N.passAt tk σ) pt hdb he hpl, fun w Q s q => ?_⟩
  refine rt.bind (P := OkR X.K (MGx X W.b) W w Q) (r := fun d ρ st => match d with | .tup xs => callD den (fun ρ st => .ok (.tup (xs ++ dds)) ρ st) ρ st | _ => .bad) s ?_ (fun d ρ st n => by cases d <;> first | rfl | exact absurd rfl (n _)) (fun _ _ _ z => z) (fun z => z) fun w1 vs d1 e1 a1 r1 ee q1 => ?_
  · unfold callD aDef at q
    cases ef : fa w.ρ w.st with
    | ok d ρ st => rw [ef] at q; cases d <;> exact q
    | exc c ρ st => rw [ef] at q; exact q
    | bad => rw [ef] at q; exact q
  · have l : (vs ++ dvs).length = n := by
      obtain ⟨ds', e', l⟩ := hl _ _ _ _ _ ee
      cases e'
      rw [List.length_append, r1.len, l, (hD W.b w.G w.ι).len]; exact hn
    exact sp_at a1.s l (r1.append (hD _ _ _)) e1 (OkR.aft q1 a1 e1)
theorem CalK.call {X : Cx} {E : XK} {b : Low} {k k' n j : Nat} {ks : List Str} {den : Den} {x : Str} {p pos : Pos} {e : Expr} {es : List Expr} {kws : List Keyword} {fa fk : DEx} (C : CalK X.prog X.w X.K X.mg X.base k x n j ks den) (hr : Room k' X.A) (hk : k ≤ k') (hg : Gl X x) (tk : L2N.Takes X (WEb b E))
    (ha : DAn X (WEb b E) (e :: es) fa) (hw : DK X (WEb b E) kws fk) (hn : (e :: es).length = j := by rfl) (hkl : kws.length = ks.length := by rfl) (hj : j + ks.length = n := by rfl)
    (hall : (backToKw pos (keywordEach kws X.env)).all (·.1.isSome) = true := by rfl) (hks : (backToKw pos (keywordEach kws X.env)).filterMap (·.1) = ks := by rfl) (hdb : (x == ("__debug__" : Str)) = false := by decide)
    (he : starEach (e :: es) X.env = (false, eval e X.env) :: starEach es X.env := by rfl) (hpl : ((backTo pos (starEach (e :: es) X.env)).any (·.1) || (backToKw pos (keywordEach kws X.env)).any (·.1.isNone)) = false := by rfl) :
    DE X (WEb b E) (.Call (.Name x p) (e :: es) kws pos) (callD den (aApp fa fk)) := by
  obtain ⟨f, fd, ps, F, hm, kp, hB⟩ := C
  obtain ⟨⟨t, pt, rt⟩, hl⟩ := ha
  obtain ⟨⟨tw, pw, rw'⟩, hl2⟩ := hw
  subst hn
  have P := pe_callN (p := p) F (hr.mono hk) hg hm kp hB (passes_const tk) pt pw hall hks hdb he hpl
  have RA := refA_app (m := ks.length) rt rw' hl (fun ρ st d ρ' st' h => by rw [← hkl]; exact hl2 ρ st d ρ' st' h)
  refine ⟨_, P, fun w Q s q => ?_⟩
  have key : tApp (e :: es).length ks.length t tw w.σ w.H (fun vs H1 => spD X.K X.mg n den vs H1 Q E) := by
    refine RA.bind (P := OkR X.K (MGx X b) (WEb b E) w Q) s q (fun d ρ st n => by cases d <;> first | rfl | exact absurd rfl (n _)) (fun _ _ _ z => z) (fun z => z) fun w1 vs d1 e1 a1 r1 ee q1 => ?_
    have l : vs.length = n := by
      unfold aApp at ee
      cases e1' : fa w.ρ w.st with
      | ok d ρ st =>
        rw [e1'] at ee
        obtain ⟨xs, rfl, l1⟩ := hl _ _ _ _ _ e1'
        simp only [R.bind] at ee
        cases e2' : fk ρ st with
        | ok d ρ st =>
          rw [e2'] at ee
          obtain ⟨ys, rfl, l2⟩ := hl2 _ _ _ _ _ e2'
          simp only at ee
          cases ee
          rw [r1.len, List.length_append, l1, l2, hkl]; exact hj
        | exc c ρ st => rw [e2'] at ee; cases ee
        | bad => rw [e2'] at ee; cases ee
      | exc c ρ st => rw [e1'] at ee; cases ee
      | bad => rw [e1'] at ee; cases ee
    exact sp_at (W := WEb b E) (σ := w1.σ) a1.s l r1 rfl (OkR.aft q1 a1 e1)
  exact key
theorem CalD.of {P : Program} {wd : World} {K : PySem.W.Frag} {mg : Str → Option Value} {base : Heap} {x : Str} {st : Stmt} {N ps : List Str} {dds : List D} {k n m : Nat} {g : DSx} (Df : Dfd K mg x ps st dds) (S : FnScope N ps (defScope st)) (hn : n = N.length) (hm : m = ps.length)
    (hb : ∀ (f : Addr) (cdv : Value) (A : Around) (outer : List Env) (s : Shared) (H : Hp) (E : XK), Room k (A.deeper (PyProof.Rows.envOfC x (defScope st) s.heap.objs.size f cdv)) →
      DSs (cxOf (L2N.CX P wd) P wd K mg base N x (defScope st) f cdv A outer s H E) (WEx E) (defBody st) g) : CalD P wd K mg base (k + 1) x m (runD n g) dds := by
  obtain ⟨f, fd, ds, dvs, F, hmg, kp, hB, hV, hD⟩ := Df
  subst hm
  exact ⟨f, fd, ps, ds, dvs, fn_D F S hn (hb f), hmg, kp, hB, hV, hD⟩
theorem CalK.of {P : Program} {wd : World} {K : PySem.W.Frag} {mg : Str → Option Value} {base : Heap} {x : Str} {st : Stmt} {N ps ks : List Str} {k n m j : Nat} {g : DSx} (Df : Dfk K mg x ps st j ks) (S : FnScope N ps (defScope st)) (hn : n = N.length) (hm : m = ps.length)
    (hb : ∀ (f : Addr) (cdv : Value) (A : Around) (outer : List Env) (s : Shared) (H : Hp) (E : XK), Room k (A.deeper (PyProof.Rows.envOfC x (defScope st) s.heap.objs.size f cdv)) →
      DSs (cxOf (L2N.CX P wd) P wd K mg base N x (defScope st) f cdv A outer s H E) (WEx E) (defBody st) g) : CalK P wd K mg base (k + 1) x m j ks (runD n g) := by
  obtain ⟨f, fd, F, hmg, kp, hB⟩ := Df
  subst hm
  exact ⟨f, fd, ps, fn_D F S hn (hb f), hmg, kp, hB⟩
end DL
namespace DL
open PySem L2
def EOk (r : R) (P : D → En → Store → Prop) : Prop := match r with
  | .ok d ρ st => P d ρ st
  | _ => False
def SOk (r : Fl) (N : En → Store → Prop) (V : D → Store → Prop) : Prop := match r with
  | .nx ρ st => N ρ st
  | .rt d _ st => V d st
  | _ => False
def DOk (r : R) (P : D → Store → Prop) : Prop := ∃ d st, r = .ok d [] st ∧ P d st
theorem EOk.mono {r : R} {P P' : D → En → Store → Prop} (h : EOk r P) (k : ∀ d ρ st, P d ρ st → P' d ρ st) : EOk r P' := by
  cases r with
  | ok d ρ st => exact k _ _ _ h
  | _ => exact h
theorem SOk.mono {r : Fl} {N N' : En → Store → Prop} {V V' : D → Store → Prop} (h : SOk r N V) (k : ∀ ρ st, N ρ st → N' ρ st) (k' : ∀ d st, V d st → V' d st) : SOk r N' V' := by
  cases r with
  | nx ρ st => exact k _ _ h
  | rt d ρ st => exact k' _ _ h
  | _ => exact h
theorem DOk.mono {r : R} {P P' : D → Store → Prop} (h : DOk r P) (k : ∀ d st, P d st → P' d st) : DOk r P' := let ⟨d, st, e, p⟩ := h; ⟨d, st, e, k d st p⟩
section
variable {P : D → En → Store → Prop} {N : En → Store → Prop} {V : D → Store → Prop} {Q : D → Store → Prop} {ρ : En} {st : Store} {f g h fa fi c : DEx} {s t b : DSx} {den : Den} {d : D}
@[simp] theorem EOk_ok : EOk (.ok d ρ st) P ↔ P d ρ st := Iff.rfl
@[simp] theorem EOk_bad : EOk .bad P ↔ False := Iff.rfl
@[simp] theorem DOk_ok : DOk (.ok d [] st) Q ↔ Q d st := ⟨fun ⟨_, _, e, q⟩ => by cases e; exact q, fun q => ⟨_, _, rfl, q⟩⟩
@[simp] theorem SOk_nx : SOk (.nx ρ st) N V ↔ N ρ st := Iff.rfl
@[simp] theorem SOk_rt : SOk (.rt d ρ st) N V ↔ V d st := Iff.rfl
@[simp] theorem SOk_bad : SOk .bad N V ↔ False := Iff.rfl
theorem EOk_bind (r : R) (k : D → En → Store → R) : EOk (r.bind k) P ↔ EOk r fun d ρ st => EOk (k d ρ st) P := by cases r <;> exact Iff.rfl
theorem DOk_run {n : Nat} {ds : List D} (h : SOk (b (enter n ds) st) (fun _ st => Q .non st) Q) : DOk (runD n b ds st) Q := by
  unfold runD
  cases e : b (enter n ds) st with
  | nx ρ st' => rw [e] at h; exact ⟨_, _, rfl, h⟩
  | rt d ρ st' => rw [e] at h; exact ⟨_, _, rfl, h⟩
  | _ => rw [e] at h; exact h.elim
theorem SOk_thenF (r : D → En → Store → Fl) : SOk (thenF f r ρ st) N V ↔ EOk (f ρ st) fun d ρ st => SOk (r d ρ st) N V := by
  unfold thenF
  cases f ρ st <;> exact Iff.rfl
@[simp] def k_seq (t : DSx) (N : En → Store → Prop) (V : D → Store → Prop) (ρ : En) (st : Store) : Prop := SOk (t ρ st) N V
@[simp ↓] theorem SOk_seq : SOk (seqD s t ρ st) N V ↔ SOk (s ρ st) (k_seq t N V) V := by
  unfold seqD
  cases s ρ st <;> exact Iff.rfl
@[simp] def k_expr (N : En → Store → Prop) (_ : D) (ρ : En) (st : Store) : Prop := N ρ st
@[simp] def k_ret (V : D → Store → Prop) (d : D) (_ : En) (st : Store) : Prop := V d st
@[simp ↓] theorem SOk_expr : SOk (exprD f ρ st) N V ↔ EOk (f ρ st) (k_expr N) := SOk_thenF _
@[simp ↓] theorem SOk_ret : SOk (retD f ρ st) N V ↔ EOk (f ρ st) (k_ret V) := SOk_thenF _
def k_SOk_if (s : DSx) (t : DSx) (N : En → Store → Prop) (V : D → Store → Prop) (d : D) (ρ : En) (st : Store) : Prop := SOk (match d with | .bl true => s ρ st | .bl false => t ρ st | _ => .bad) N V
@[simp ↓] theorem k_SOk_if_bl (s t : DSx) (N : En → Store → Prop) (V : D → Store → Prop) (b : Bool) (ρ : En) (st : Store) : k_SOk_if s t N V (.bl b) ρ st ↔ if b = true then SOk (s ρ st) N V else SOk (t ρ st) N V := by cases b <;> exact Iff.rfl
@[simp ↓] theorem SOk_if : SOk (ifD f s t ρ st) N V ↔ EOk (f ρ st) (k_SOk_if  s t N V) := SOk_thenF _
@[simp] def k_SOk_set (k : DGx) (N : En → Store → Prop) (V : D → Store → Prop) (d : D) (ρ : En) (st : Store) : Prop := SOk (match k d ρ with | some ρ => .nx ρ st | none => .bad) N V
@[simp ↓] theorem SOk_set (k : DGx) : SOk (setD f k ρ st) N V ↔ EOk (f ρ st) (k_SOk_set k N V) := SOk_thenF _
@[simp] def k_SOk_setO (i : Nat) (N : En → Store → Prop) (V : D → Store → Prop) (d : D) (ρ : En) (st : Store) : Prop := SOk (match d with | .lst ds => .nx (ρ.set i (.ml ds)) st | _ => .bad) N V
@[simp ↓] theorem SOk_setO (i : Nat) : SOk (setOD f i ρ st) N V ↔ EOk (f ρ st) (k_SOk_setO i N V) := SOk_thenF _
@[simp] def k_SOk_retC  (N : En → Store → Prop) (V : D → Store → Prop) (d : D) (ρ : En) (st : Store) : Prop := SOk (match d with | .lst ds => .rt (.ref st.length) ρ (st ++ [.lst ds]) | _ => .bad) N V
@[simp ↓] theorem SOk_retC : SOk (retCD f ρ st) N V ↔ EOk (f ρ st) (k_SOk_retC  N V) := SOk_thenF _
@[simp] def k_SOk_for (k : DGx) (b : DSx) (N : En → Store → Prop) (V : D → Store → Prop) (d : D) (ρ : En) (st : Store) : Prop := SOk (match d.iter with | some (ds, gd) => forD k (chkS gd b) ds ρ st | none => .bad) N V
@[simp ↓] theorem SOk_for (k : DGx) : SOk (forE fi k b ρ st) N V ↔ EOk (fi ρ st) (k_SOk_for k b N V) := SOk_thenF _
@[simp] def k_EOk_lift1 (p : D → Option D) (P : D → En → Store → Prop) (d : D) (ρ : En) (st : Store) : Prop := EOk (match p d with | some z => .ok z ρ st | none => .bad) P
@[simp ↓] theorem EOk_lift1 (p : D → Option D) : EOk (lift1 p f ρ st) P ↔ EOk (f ρ st) (k_EOk_lift1 p P) := EOk_bind _ _
@[simp] def k_lift2b (p : D → D → Option D) (P : D → En → Store → Prop) (d e : D) (ρ : En) (st : Store) : Prop := EOk (match p d e with | some z => .ok z ρ st | none => .bad) P
@[simp] def k_lift2a (p : D → D → Option D) (g : DEx) (P : D → En → Store → Prop) (d : D) (ρ : En) (st : Store) : Prop := EOk (g ρ st) (k_lift2b p P d)
@[simp ↓] theorem EOk_lift2 (p : D → D → Option D) : EOk (lift2 p f g ρ st) P ↔ EOk (f ρ st) (k_lift2a p g P) :=
  (EOk_bind _ _).trans ⟨fun h => h.mono fun _ _ _ => (EOk_bind _ _).mp, fun h => h.mono fun _ _ _ => (EOk_bind _ _).mpr⟩
@[simp] def k_EOk_not (P : D → En → Store → Prop) (d : D) (ρ : En) (st : Store) : Prop := EOk (match d with | .bl b => .ok (.bl (!b)) ρ st | _ => .bad) P
@[simp ↓] theorem EOk_not : EOk (notD f ρ st) P ↔ EOk (f ρ st) (k_EOk_not P) := EOk_bind _ _
def k_EOk_and (g : DEx) (P : D → En → Store → Prop) (d : D) (ρ : En) (st : Store) : Prop := EOk (match d with | .bl true => g ρ st | .bl false => .ok (.bl false) ρ st | _ => .bad) P
@[simp ↓] theorem k_EOk_and_bl (g : DEx) (P : D → En → Store → Prop) (b : Bool) (ρ : En) (st : Store) : k_EOk_and g P (.bl b) ρ st ↔ if b = true then EOk (g ρ st) P else P (.bl false) ρ st := by cases b <;> exact Iff.rfl
@[simp ↓] theorem EOk_and : EOk (andD f g ρ st) P ↔ EOk (f ρ st) (k_EOk_and  g P) := EOk_bind _ _
def k_EOk_or (g : DEx) (P : D → En → Store → Prop) (d : D) (ρ : En) (st : Store) : Prop := EOk (match d with | .bl true => .ok (.bl true) ρ st | .bl false => g ρ st | _ => .bad) P
@[simp ↓] theorem k_EOk_or_bl (g : DEx) (P : D → En → Store → Prop) (b : Bool) (ρ : En) (st : Store) : k_EOk_or g P (.bl b) ρ st ↔ if b = true then P (.bl true) ρ st else EOk (g ρ st) P := by cases b <;> exact Iff.rfl
@[simp ↓] theorem EOk_or : EOk (orD f g ρ st) P ↔ EOk (f ρ st) (k_EOk_or  g P) := EOk_bind _ _
def k_EOk_ite (f : DEx) (g : DEx) (P : D → En → Store → Prop) (d : D) (ρ : En) (st : Store) : Prop := EOk (match d with | .bl true => f ρ st | .bl false => g ρ st | _ => .bad) P
@[simp ↓] theorem k_EOk_ite_bl (f g : DEx) (P : D → En → Store → Prop) (b : Bool) (ρ : En) (st : Store) : k_EOk_ite f g P (.bl b) ρ st ↔ if b = true then EOk (f ρ st) P else EOk (g ρ st) P := by cases b <;> exact Iff.rfl
@[simp ↓] theorem EOk_ite : EOk (iteD c f g ρ st) P ↔ EOk (c ρ st) (k_EOk_ite  f g P) := EOk_bind _ _
@[simp] def k_consb (P : D → En → Store → Prop) (d e : D) (ρ : En) (st : Store) : Prop := EOk (match e with | .tup ds => .ok (.tup (d :: ds)) ρ st | _ => .bad) P
@[simp] def k_consa (g : DEx) (P : D → En → Store → Prop) (d : D) (ρ : En) (st : Store) : Prop := EOk (g ρ st) (k_consb P d)
@[simp ↓] theorem EOk_aCons : EOk (aCons f g ρ st) P ↔ EOk (f ρ st) (k_consa g P) :=
  (EOk_bind _ _).trans ⟨fun h => h.mono fun _ _ _ => (EOk_bind _ _).mp, fun h => h.mono fun _ _ _ => (EOk_bind _ _).mpr⟩
def COk (r : R) (ρ : En) (P : D → En → Store → Prop) : Prop := EOk (match r with | .ok r _ st' => .ok r ρ st' | .exc c _ st' => .exc c ρ st' | .bad => .bad) P
@[simp] def k_call (den : Den) (P : D → En → Store → Prop) (d : D) (ρ : En) (st : Store) : Prop := match d with | .tup ds => COk (den ds st) ρ P | _ => False
@[simp ↓] theorem EOk_call : EOk (callD den f ρ st) P ↔ EOk (f ρ st) (k_call den P) := by
  refine (EOk_bind _ _).trans ⟨fun h => h.mono fun d ρ st z => ?_, fun h => h.mono fun d ρ st z => ?_⟩ <;> cases d <;> exact z
theorem COk.of {r : R} (h : DOk r fun d st => P d ρ st) : COk r ρ P := by
  obtain ⟨d, st', e, q⟩ := h
  unfold COk
  rw [e]
  exact q
@[simp] def k_EOk_lst  (P : D → En → Store → Prop) (d : D) (ρ : En) (st : Store) : Prop := EOk (match d with | .tup ds => .ok (.lst ds) ρ st | _ => .bad) P
@[simp ↓] theorem EOk_lst : EOk (lstD f ρ st) P ↔ EOk (f ρ st) (k_EOk_lst  P) := EOk_bind _ _
@[simp] def k_EOk_list  (P : D → En → Store → Prop) (d : D) (ρ : En) (st : Store) : Prop := EOk (match kOf d with | some ds => .ok (.lst ds) ρ st | none => .bad) P
@[simp ↓] theorem EOk_list : EOk (listD f ρ st) P ↔ EOk (f ρ st) (k_EOk_list  P) := EOk_bind _ _
@[simp] def k_EOk_tuple  (P : D → En → Store → Prop) (d : D) (ρ : En) (st : Store) : Prop := EOk (match kOf d with | some ds => .ok (.tup ds) ρ st | none => .bad) P
@[simp ↓] theorem EOk_tuple : EOk (tupleD f ρ st) P ↔ EOk (f ρ st) (k_EOk_tuple  P) := EOk_bind _ _
@[simp] def k_EOk_it  (P : D → En → Store → Prop) (d : D) (ρ : En) (st : Store) : Prop := EOk (match d.walk st with | some z => .ok z ρ st | none => .bad) P
@[simp ↓] theorem EOk_it : EOk (itD f ρ st) P ↔ EOk (f ρ st) (k_EOk_it  P) := EOk_bind _ _
open Classical in
@[simp] def k_EOk_rng1  (P : D → En → Store → Prop) (d : D) (ρ : En) (st : Store) : Prop := EOk (match d with | .tup [.int j] => if Rg j then .ok (.lst (rngItems 0 j.toNat)) ρ st else .bad | _ => .bad) P
@[simp ↓] theorem EOk_rng1 : EOk (rng1 f ρ st) P ↔ EOk (f ρ st) (k_EOk_rng1  P) := EOk_bind _ _
open Classical in
@[simp] def k_EOk_rng2  (P : D → En → Store → Prop) (d : D) (ρ : En) (st : Store) : Prop := EOk (match d with | .tup [.int i, .int j] => if Rg i ∧ Rg j then .ok (.lst (rngItems i (j - i).toNat)) ρ st else .bad | _ => .bad) P
@[simp ↓] theorem EOk_rng2 : EOk (rng2 f ρ st) P ↔ EOk (f ρ st) (k_EOk_rng2  P) := EOk_bind _ _
@[simp] def k_EOk_bdS  (P : D → En → Store → Prop) (d : D) (ρ : En) (st : Store) : Prop := EOk (match d with | .int i => .ok (.int i) ρ st | _ => .bad) P
@[simp ↓] theorem EOk_bdS : EOk (bdS f ρ st) P ↔ EOk (f ρ st) (k_EOk_bdS  P) := EOk_bind _ _
open Classical in
@[simp] def k_EOk_sort  (P : D → En → Store → Prop) (d : D) (ρ : En) (st : Store) : Prop := EOk (match d with | .lst ds => if sortOk ds then .ok (.lst (ds.mergeSort leD)) ρ st else .bad | _ => .bad) P
@[simp ↓] theorem EOk_sort : EOk (sortD f ρ st) P ↔ EOk (f ρ st) (k_EOk_sort  P) := EOk_bind _ _
@[simp] def k_mut (i : Nat) (k : MutK) (P : D → En → Store → Prop) (d : D) (ρ : En) (st : Store) : Prop := EOk (match d with | .tup args => mutAt i k args ρ st | _ => .bad) P
@[simp ↓] theorem EOk_mut (i : Nat) (k : MutK) : EOk (mutD i k f ρ st) P ↔ (holdsL i ρ st = true ∧ EOk (f ρ st) (k_mut i k P)) := by
  unfold mutD
  cases holdsL i ρ st with
  | true => exact ⟨fun h => ⟨rfl, (EOk_bind _ _).mp h⟩, fun h => (EOk_bind _ _).mpr h.2⟩
  | false => exact ⟨fun h => h.elim, fun h => by cases h.1⟩
@[simp] def k_slc (k : D → Option Int → Option Int → Option D) (P : D → En → Store → Prop) (d : D) (lo : Option Int) (hi : D) (ρ : En) (st : Store) : Prop := EOk (match bd hi with | some hi => (match k (lkD st d) lo hi with | some z => .ok z ρ st | none => .bad) | none => .bad) P
@[simp] def k_slb (k : D → Option Int → Option Int → Option D) (h : DEx) (P : D → En → Store → Prop) (d lo : D) (ρ : En) (st : Store) : Prop := match bd lo with
  | some lo => EOk (h ρ st) (k_slc k P d lo)
  | none => False
@[simp] def k_sla (k : D → Option Int → Option Int → Option D) (g h : DEx) (P : D → En → Store → Prop) (d : D) (ρ : En) (st : Store) : Prop := EOk (g ρ st) (k_slb k h P d)
@[simp ↓] theorem EOk_sl (k : D → Option Int → Option Int → Option D) : EOk (slX k f g h ρ st) P ↔ EOk (f ρ st) (k_sla k g h P) := by
  refine (EOk_bind _ _).trans ⟨fun z => z.mono fun d ρ st z => ((EOk_bind _ _).mp z).mono fun lo ρ st z => ?_, fun z => z.mono fun d ρ st z => (EOk_bind _ _).mpr (z.mono fun lo ρ st z => ?_)⟩
  · unfold k_slb
    cases e : bd lo with
    | none => rw [e] at z; exact z
    | some l => rw [e] at z; exact (EOk_bind _ _).mp z
  · unfold k_slb at z
    cases e : bd lo with
    | none => rw [e] at z; exact z
    | some l => rw [e] at z; exact (EOk_bind _ _).mpr z
@[simp] def k_lc (g : DGx) (c f : DEx) (vs : List Nat) (P : D → En → Store → Prop) (d : D) (ρ : En) (st : Store) : Prop := EOk (match d.iter with | some (ds, gd) => if ds.length ≤ sizeLine then lcGo g (chkE gd c) (chkE gd f) vs ds [] (wipeR ρ vs) st else .bad | none => .bad) P
@[simp ↓] theorem EOk_lc (k : DGx) (vs : List Nat) : EOk (lcD fi k c f vs ρ st) P ↔ EOk (fi ρ st) (k_lc k c f vs P) := EOk_bind _ _
@[simp] def k_enum (P : D → En → Store → Prop) (d : D) (ρ : En) (st : Store) : Prop := EOk (match d with
  | .tup [.lst ds] => .ok (.lst (enumItems ds)) ρ st
  | .tup [.ref l] => (match st[l]? with
    | some (.lst ds) => .ok (.tup [.lst (enumItems ds), .ref l, .lst ds]) ρ st
    | _ => .bad)
  | _ => .bad) P
@[simp ↓] theorem EOk_enum : EOk (enumD f ρ st) P ↔ EOk (f ρ st) (k_enum P) := EOk_bind _ _
@[simp] def k_cellD (P : D → En → Store → Prop) (d : D) (ρ : En) (st : Store) : Prop := EOk (match d with
  | .dct ds => .ok (.ref st.length) ρ (st ++ [.dct ds])
  | _ => .bad) P
@[simp ↓] theorem EOk_cellD : EOk (cellDE f ρ st) P ↔ EOk (f ρ st) (k_cellD P) := EOk_bind _ _
@[simp] def k_disp (P : D → En → Store → Prop) (d : D) (ρ : En) (st : Store) : Prop := EOk (match d with
  | .tup ds => (match pairKs ds with
    | some kvs => if kvs.length ≤ 15 then .ok (.dct (mergeD [] kvs)) ρ st else .bad
    | none => .bad)
  | _ => .bad) P
@[simp ↓] theorem EOk_disp : EOk (dispD f ρ st) P ↔ EOk (f ρ st) (k_disp P) := EOk_bind _ _
@[simp] def k_subSet (i : Nat) (p : DPx) (N : En → Store → Prop) (V : D → Store → Prop) (d : D) (ρ : En) (st : Store) : Prop := SOk (match p ρ st with
  | some j => (match mutAt i (kSet j) [d] ρ st with
    | .ok _ ρ st => .nx ρ st
    | _ => .bad)
  | none => .bad) N V
@[simp ↓] theorem SOk_subSet (i : Nat) (p : DPx) : SOk (subSetD i p f ρ st) N V ↔ EOk (f ρ st) (k_subSet i p N V) := SOk_thenF _
@[simp] def k_dgetc (P : D → En → Store → Prop) (d kd e : D) (ρ : En) (st : Store) : Prop := EOk (match kd.key, dOf (lkD st d) with
    | some k, some kvs => .ok ((getK kvs k).getD e) ρ st
    | _, _ => .bad) P
@[simp] def k_dgetb (h : DEx) (P : D → En → Store → Prop) (d kd : D) (ρ : En) (st : Store) : Prop := EOk (h ρ st) (k_dgetc P d kd)
@[simp] def k_dgeta (g h : DEx) (P : D → En → Store → Prop) (d : D) (ρ : En) (st : Store) : Prop := match dOf (lkD st d) with
  | some _ => EOk (g ρ st) (k_dgetb h P d)
  | none => False
@[simp ↓] theorem EOk_dget : EOk (dgetD f g h ρ st) P ↔ EOk (f ρ st) (k_dgeta g h P) := by
  refine (EOk_bind _ _).trans ⟨fun z => z.mono fun d ρ st z => ?_, fun z => z.mono fun d ρ st z => ?_⟩
  · unfold k_dgeta
    cases e : dOf (lkD st d) with
    | none => rw [e] at z; exact z
    | some l => rw [e] at z; exact ((EOk_bind _ _).mp z).mono fun _ _ _ z => (EOk_bind _ _).mp z
  · unfold k_dgeta at z
    cases e : dOf (lkD st d) with
    | none => rw [e] at z; exact z
    | some l => rw [e] at z; exact (EOk_bind _ _).mpr (z.mono fun _ _ _ z => (EOk_bind _ _).mpr z)
@[simp] def k_dsubb (P : D → En → Store → Prop) (d kd : D) (ρ : En) (st : Store) : Prop := EOk (match kd.key, dOf (lkD st d) with
  | some k, some kvs => (match getK kvs k with
    | some e => .ok e ρ st
    | none => .bad)
  | _, _ => .bad) P
@[simp] def k_dsuba (g : DEx) (P : D → En → Store → Prop) (d : D) (ρ : En) (st : Store) : Prop := EOk (g ρ st) (k_dsubb P d)
@[simp ↓] theorem EOk_dsub : EOk (dsubD f g ρ st) P ↔ EOk (f ρ st) (k_dsuba g P) :=
  (EOk_bind _ _).trans ⟨fun h => h.mono fun _ _ _ => (EOk_bind _ _).mp, fun h => h.mono fun _ _ _ => (EOk_bind _ _).mpr⟩
@[simp] def k_dputc (N : En → Store → Prop) (vd : D) (l : Nat) (kd : D) (ρ : En) (st : Store) : Prop := match kd.key, st[l]? with
  | some k, some (.dct kvs) => kvs.length < sizeLine ∧ N ρ (st.set l (.dct (putD kvs k vd)))
  | _, _ => False
@[simp] def k_dputb (fk : DEx) (N : En → Store → Prop) (vd d : D) (ρ : En) (st : Store) : Prop := match d with | .ref l => EOk (fk ρ st) (k_dputc N vd l) | _ => False
@[simp] def k_dputa (fo fk : DEx) (N : En → Store → Prop) (vd : D) (ρ : En) (st : Store) : Prop := EOk (fo ρ st) (k_dputb fk N vd)
@[simp ↓] theorem SOk_dput : SOk (dputD f g h ρ st) N V ↔ EOk (h ρ st) (k_dputa f g N) := by
  refine (SOk_thenF _).trans ⟨fun z => z.mono fun d ρ st z => ?_, fun z => z.mono fun d ρ st z => ?_⟩
  all_goals
    unfold k_dputa at *
    revert z
    cases f ρ st with
    | ok d2 ρ2 st2 =>
      cases d2 with
      | ref l =>
        simp only [EOk_ok, k_dputb]
        cases g ρ2 st2 with
        | ok kd ρ3 st3 =>
          simp only [EOk_ok, k_dputc]
          cases kd.key with
          | none => simp
          | some k =>
            cases st3[l]? with
            | none => simp
            | some c =>
              cases c with
              | dct kvs =>
                by_cases hlt : kvs.length < sizeLine
                · simp [hlt]
                · simp [hlt]
              | _ => simp
        | _ => exact fun z => z
      | _ => exact fun z => z
    | _ => exact fun z => z
end
theorem SOk_forD {α : Type} {k : DGx} {b : DSx} {N : En → Store → Prop} {V : D → Store → Prop} (e : α → D) (I : List α → En → Store → Prop) : ∀ (xs pre : List α) (ρ : En) (st : Store), I pre ρ st →
    (∀ p x q ρ st, pre ++ xs = p ++ x :: q → I p ρ st → ∃ ρ1, k (e x) ρ = some ρ1 ∧ SOk (b ρ1 st) (I (p ++ [x])) V) → (∀ ρ st, I (pre ++ xs) ρ st → N ρ st) → SOk (forD k b (xs.map e) ρ st) N V
  | [], pre, ρ, st, h0, _, hd => by rw [List.append_nil] at hd; exact hd ρ st h0
  | x :: xs, pre, ρ, st, h0, hs, hd => by
    obtain ⟨ρ1, e1, h1⟩ := hs pre x xs ρ st rfl h0
    show SOk (forD k b (e x :: xs.map e) ρ st) N V
    unfold forD
    simp only [e1]
    cases eb : b ρ1 st with
    | nx ρ2 st2 =>
      rw [eb] at h1
      have ea : pre ++ x :: xs = (pre ++ [x]) ++ xs := by simp
      refine SOk_forD e I xs (pre ++ [x]) ρ2 st2 h1 (fun p y q ρ st z => hs p y q ρ st (by rw [ea]; exact z)) fun ρ st z => hd ρ st (by rw [ea]; exact z)
    | rt d ρ2 st2 => rw [eb] at h1; exact h1
    | _ => rw [eb] at h1; exact h1.elim
theorem SOk_rng {k : DGx} {b : DSx} {N : En → Store → Prop} {V : D → Store → Prop} {ρ : En} {st : Store} (n : Nat) (I : Nat → En → Store → Prop) (h0 : I 0 ρ st)
    (hs : ∀ q ρ st, q < n → I q ρ st → ∃ ρ1, k (.int q) ρ = some ρ1 ∧ SOk (b ρ1 st) (I (q + 1)) V) (hd : ∀ ρ st, I n ρ st → N ρ st) : SOk (forD k b (rngItems 0 n) ρ st) N V := by
  have := SOk_forD (k := k) (b := b) (N := N) (V := V) (fun q : Nat => D.int (q : Int)) (fun p => I p.length) (List.range n) [] ρ st h0 (fun p x q ρ st e hI => by
    have hx : x = p.length := by
      have h1 : (List.range n)[p.length]? = some x := by rw [show List.range n = p ++ x :: q from e]; simp
      rw [List.getElem?_range (by have := congrArg List.length e; simp at this; omega)] at h1
      simpa using h1.symm
    subst hx
    obtain ⟨ρ1, e1, h1⟩ := hs p.length ρ st (by have := congrArg List.length e; simp at this; omega) hI
    exact ⟨ρ1, e1, by simpa using h1⟩) (fun ρ st hI => hd ρ st (by simpa using hI))
  rwa [← show rngItems 0 n = (List.range n).map (fun q : Nat => D.int (q : Int)) by simp [rngItems]] at this
theorem SOk_at {k : DGx} {b : DSx} {N : En → Store → Prop} {V : D → Store → Prop} {ρ : En} {st : Store} (ds : List D) (I : Nat → En → Store → Prop) (h0 : I 0 ρ st)
    (hs : ∀ q d ρ st, ds[q]? = some d → I q ρ st → ∃ ρ1, k d ρ = some ρ1 ∧ SOk (b ρ1 st) (I (q + 1)) V) (hd : ∀ ρ st, I ds.length ρ st → N ρ st) : SOk (forD k b ds ρ st) N V := by
  have := SOk_forD (k := k) (b := b) (N := N) (V := V) (fun d : D => d) (fun p => I p.length) ds [] ρ st h0 (fun p x q ρ st e hI => by
    obtain ⟨ρ1, e1, h1⟩ := hs p.length x ρ st (by rw [show ds = p ++ x :: q from e]; simp) hI
    exact ⟨ρ1, e1, by simpa using h1⟩) (fun ρ st hI => hd ρ st (by simpa using hI))
  simpa using this
theorem SOk_each {α : Type} {k : DGx} {b : DSx} {N : En → Store → Prop} {V : D → Store → Prop} {ρ : En} {st : Store} (e : α → D) (xs : List α) (I : Nat → En → Store → Prop) (h0 : I 0 ρ st)
    (hs : ∀ q x ρ st, xs[q]? = some x → I q ρ st → ∃ ρ1, k (e x) ρ = some ρ1 ∧ SOk (b ρ1 st) (I (q + 1)) V) (hd : ∀ ρ st, I xs.length ρ st → N ρ st) : SOk (forD k b (xs.map e) ρ st) N V :=
  SOk_at _ I h0 (fun q d ρ st hq hI => by
    rw [List.getElem?_map] at hq
    cases hx : xs[q]? with
    | none => rw [hx] at hq; cases hq
    | some x => rw [hx] at hq; cases hq; exact hs q x ρ st hx hI) fun ρ st hI => hd ρ st (by simpa using hI)
theorem SOk_enumI {α : Type} {k : DGx} {b : DSx} {N : En → Store → Prop} {V : D → Store → Prop} {ρ : En} {st : Store} (e : α → D) (xs : List α) (I : Nat → En → Store → Prop) (h0 : I 0 ρ st)
    (hs : ∀ q x ρ st, xs[q]? = some x → I q ρ st → ∃ ρ1, k (.tup [.int (q : Int), e x]) ρ = some ρ1 ∧ SOk (b ρ1 st) (I (q + 1)) V) (hd : ∀ ρ st, I xs.length ρ st → N ρ st) : SOk (forD k b (enumItems (xs.map e)) ρ st) N V :=
  SOk_at _ I h0 (fun q d ρ st hq hI => by
    obtain ⟨y, hy, rfl⟩ := enumItems_get hq
    rw [List.getElem?_map] at hy
    cases hx : xs[q]? with
    | none => rw [hx] at hy; cases hy
    | some x => rw [hx] at hy; cases hy; exact hs q x ρ st hx hI) fun ρ st hI => hd ρ st (by simpa [enumItems] using hI)
@[simp] def k_lcb (vs : List Nat) (ρ : En) (st : Store) (y : D) (y' : D) (ρ3 : En) (st3 : Store) : Prop := y' = y ∧ st3 = st ∧ wipeR ρ3 vs = ρ
@[simp] def k_lca (f : DEx) (vs : List Nat) (ρ : En) (st : Store) (b : Bool) (y : D) (d : D) (ρ2 : En) (st2 : Store) : Prop := d = .bl b ∧ st2 = st ∧ if b = true then EOk (f ρ2 st2) (k_lcb vs ρ st y) else wipeR ρ2 vs = ρ
theorem EOk_lcP {α : Type} {g : DGx} {c f : DEx} {vs : List Nat} {P : D → En → Store → Prop} {ρ : En} {st : Store} (e : α → D) (p : α → Bool) (r : α → D) : ∀ (xs : List α) (acc : List D),
    (∀ x ∈ xs, ∃ ρ1, g (e x) ρ = some ρ1 ∧ EOk (c ρ1 st) (k_lca f vs ρ st (p x) (r x))) → P (.lst (acc ++ (xs.filter p).map r)) ρ st → EOk (lcGo g c f vs (xs.map e) acc ρ st) P
  | [], acc, _, hd => by
    have : P (.lst acc) ρ st := by simpa using hd
    exact this
  | x :: xs, acc, hs, hd => by
    obtain ⟨ρ1, e1, h1⟩ := hs x (List.mem_cons_self ..)
    show EOk (lcGo g c f vs (e x :: xs.map e) acc ρ st) P
    unfold lcGo
    simp only [e1]
    cases ec : c ρ1 st with
    | ok d ρ2 st2 =>
      rw [ec] at h1
      obtain ⟨rfl, rfl, h2⟩ := h1
      cases hp : p x with
      | true =>
        rw [hp, if_pos rfl] at h2
        simp only
        cases ef : f ρ2 st2 with
        | ok y ρ3 st3 =>
          rw [ef] at h2
          obtain ⟨rfl, rfl, h5⟩ := h2
          simp only [h5]
          exact EOk_lcP e p r xs _ (fun y hy => hs y (List.mem_cons_of_mem _ hy)) (by simpa [hp] using hd)
        | _ => rw [ef] at h2; exact h2.elim
      | false =>
        rw [hp, if_neg (by simp)] at h2
        simp only [h2]
        exact EOk_lcP e p r xs _ (fun y hy => hs y (List.mem_cons_of_mem _ hy)) (by simpa [hp] using hd)
    | _ => rw [ec] at h1; exact h1.elim
theorem EOk_lcM {α : Type} {g : DGx} {f : DEx} {vs : List Nat} {P : D → En → Store → Prop} {ρ : En} {st : Store} (e : α → D) (r : α → D) (xs : List α)
    (h : ∀ x ∈ xs, ∃ ρ1, g (e x) ρ = some ρ1 ∧ EOk (f ρ1 st) (k_lcb vs ρ st (r x))) (hd : P (.lst (xs.map r)) ρ st) : EOk (lcGo g yesD f vs (xs.map e) [] ρ st) P :=
  EOk_lcP e (fun _ => true) r xs [] (fun x hx => by
    obtain ⟨ρ1, e1, h1⟩ := h x hx
    refine ⟨ρ1, e1, ?_⟩
    show k_lca f vs ρ st true (r x) (.bl true) ρ1 st
    simpa using h1) (by rw [List.filter_eq_self.mpr (fun _ _ => rfl)]; exact hd)
theorem SOk_while {c : DEx} {b : DSx} {N : En → Store → Prop} {V : D → Store → Prop} (I : Nat → En → Store → Prop) (hs : ∀ n ρ st, I n ρ st → EOk (c ρ st) fun d ρ st => match d with
      | .bl true => SOk (b ρ st) (fun ρ st => ∃ m, m < n ∧ I m ρ st) V
      | .bl false => N ρ st
      | _ => False) : ∀ (n : Nat) (ρ : En) (st : Store), I n ρ st → SOk (whileD c b ρ st) N V := by
  have key : ∀ (n : Nat) (ρ : En) (st : Store), I n ρ st → ∃ k, SOk (runW c b k ρ st) N V ∧ runW c b k ρ st ≠ .bad := by
    intro n
    induction n using Nat.strongRecOn with
    | ind n ih =>
      intro ρ st hI
      have h1 := hs n ρ st hI
      cases ec : c ρ st with
      | ok d ρ2 st2 =>
        rw [ec] at h1
        cases d with
        | bl t =>
          cases t with
          | false =>
            refine ⟨1, ?_, ?_⟩
            · unfold runW; rw [ec]; exact h1
            · unfold runW; rw [ec]; simp
          | true =>
            simp only [EOk_ok] at h1
            cases eb : b ρ2 st2 with
            | nx ρ3 st3 =>
              rw [eb] at h1
              obtain ⟨m, hm, hI3⟩ := h1
              obtain ⟨k, hk, nb⟩ := ih m hm ρ3 st3 hI3
              refine ⟨k + 1, ?_, ?_⟩
              · unfold runW; rw [ec]; simp only [eb]; exact hk
              · unfold runW; rw [ec]; simp only [eb]; exact nb
            | rt d3 ρ3 st3 =>
              rw [eb] at h1
              refine ⟨1, ?_, ?_⟩
              · unfold runW; rw [ec]; simp only [eb]; exact h1
              · unfold runW; rw [ec]; simp only [eb]; simp
            | _ => rw [eb] at h1; exact h1.elim
        | _ => exact h1.elim
      | _ => rw [ec] at h1; exact h1.elim
  intro n ρ st hI
  obtain ⟨k, hk, nb⟩ := key n ρ st hI
  rw [whileD_of (n := k) rfl nb]
  exact hk
end DL
namespace DL
open PySem PySem.Spec PyProof.Rows L2
structure FnG (P : Program) (w : World) (K : PySem.W.Frag) (mg : Str → Option Value) (base : Heap) (CX : CXT) (k : Nat) (f : Addr) (fd : FuncData) (ps : List Str) (sp : Sp) : Prop where
  len : ∀ vs H Q E, sp vs H Q E → vs.length = ps.length
  at_ : ∀ (A : Around), A.guards = some [] → Room k A → ∀ (out : List Env) (s : Shared) (H : Hp) (args : Args) (us : List Value) (vs : List V) (Q : VK) (E : XK), Env0 P w K mg base A out s H → BindsTo s fd args (ps.zip us) → Vals vs us → sp vs H Q E →
    codeAny (model P w) A (.call (.ref f) args) (CR CX out P w H s Q E) s
theorem FnG.of {P : Program} {w : World} {K : PySem.W.Frag} {mg : Str → Option Value} {base : Heap} {CX : CXT} {k : Nat} {f : Addr} {fd : FuncData} {ps : List Str} {sp : Sp} (F : FnOk P w K mg base CX k f fd ps sp) : FnG P w K mg base CX k f fd ps sp :=
  ⟨F.len, fun A _ hr out s H args us vs Q E => F.run A out s H args us vs Q E hr⟩
theorem FnG.imp {P : Program} {w : World} {K : PySem.W.Frag} {mg : Str → Option Value} {base : Heap} {CX : CXT} {k : Nat} {f : Addr} {fd : FuncData} {ps : List Str} {sp sq : Sp} (F : FnG P w K mg base CX k f fd ps sp) (h : ∀ vs H Q E, sq vs H Q E → sp vs H Q E) : FnG P w K mg base CX k f fd ps sq :=
  ⟨fun vs H Q E q => F.len vs H Q E (h _ _ _ _ q), fun A ag hr out s H args us vs Q E e b r q => F.at_ A ag hr out s H args us vs Q E e b r (h _ _ _ _ q)⟩
section
variable {P : Program} {wd : World} {K : PySem.W.Frag} {mg : Str → Option Value} {base : Heap}
theorem fnG_body {x qual : Str} {st : Stmt} {f : Addr} {fd : FuncData} {N ps : List Str} {k : Nat} {sp : Sp} (F : FunV K x qual st f fd) (S : FnScope N ps (defScope st)) (len : ∀ vs H Q E, sp vs H Q E → vs.length = ps.length)
    (hb : ∀ (cdv : Value) (A : Around) (out : List Env) (s : Shared) (H : Hp) (vs : List V) (Q : VK) (E : XK), A.guards = some [] → Room k (A.deeper (envOfC qual (defScope st) s.heap.objs.size f cdv)) → sp vs H Q E →
      ∃ t, PSs (cxOf (L2N.CX P wd) P wd K mg base N qual (defScope st) f cdv A out s H E) (defBody st) t ∧ t { nx := fun _ G => Q .non G, rt := Q } (start N vs) H) : FnG P wd K mg base (L2N.CX P wd) (k + 1) f fd ps sp := by
  obtain ⟨oc, od, dV, kV, doc, pm, an, cdv, ct, osl, rfl, lk, hcd⟩ := F.ex
  refine ⟨len, fun A ag hr out s H args us vs Q E en bd rv hs => ?_⟩
  obtain ⟨t, p, go⟩ := hb cdv A out s H vs Q E ag (hr.deeper _) hs
  have up := fun (b : Addr) (o : Obj) (e : base.get? b = some o) => (en.bs b o e).1
  have kin := en.mod.kin.keeps up
  refine codeAny_call_function hr.depth (kin _ _ lk) rfl S.co S.gen rfl (PySem.W.codeRec_of kin hcd) (bd _ _ _ _ ?_)
  refine wpAny_newFunctionEnv_cells S.kind ?_ ?_
  · rintro ⟨n, v⟩ hn
    exact (S.par n (List.of_mem_zip hn).1).imp id fun z => ⟨z, PySem.W.cellsFrom_some _ _ _ (.inl z)⟩
  · rintro _ rfl s1 new
    refine ⟨(en.mod.nolimit.keeps up).keeps new.toInCall.keep, codeAny_func ?_⟩
    refine wpAny_mono (p.run [] s1 _ H _ (inv_start S hr.hd en (len _ _ _ _ hs) rv new) go) ?_ (fun _ _ z => z)
    rintro (_ | _ | _ | u) s2 z
    · obtain ⟨_, H2, J, q⟩ := z
      exact ⟨.non, H2, J.os, J.bare, J.base, J.hok, rfl, q⟩
    · exact z.choose_spec.choose_spec.2.elim
    · exact z.choose_spec.choose_spec.2.elim
    · obtain ⟨v, _, H2, J, ru, q⟩ := z
      exact ⟨v, H2, J.os, J.bare, J.base, J.hok, ru, q⟩
theorem fn_DG {x qual : Str} {st : Stmt} {f : Addr} {fd : FuncData} {N ps : List Str} {k n : Nat} {g : DSx} (F : FunV K x qual st f fd) (S : FnScope N ps (defScope st)) (hn : n = N.length)
    (hb : ∀ (cdv : Value) (A : Around) (outer : List Env) (s : Shared) (H : Hp) (E : XK), A.guards = some [] → Room k (A.deeper (PyProof.Rows.envOfC qual (defScope st) s.heap.objs.size f cdv)) →
      DSs (cxOf (L2N.CX P wd) P wd K mg base N qual (defScope st) f cdv A outer s H E) (WEx E) (defBody st) g) : FnG P wd K mg base (L2N.CX P wd) (k + 1) f fd ps (spD K mg ps.length (runD n g)) := by
  refine fnG_body F S (fun vs H Q E h => h.1) fun cdv A outer s H vs Q E ag hr h => ?_
  obtain ⟨hl, w, ds, hρ, hσ, rfl, sts, rp, ok⟩ := h
  obtain ⟨t, pt, rt⟩ := hb cdv A outer s w.H E ag hr
  refine ⟨t, pt, ?_⟩
  have sts' := sts.enter hn rp (N := N)
  have e0 : w.strip = w := ws_strip hρ hσ
  have s0 : Sts K ⟨mg, Low.no⟩ w.strip := by rw [e0]; exact sts
  have out : ∀ w', Aft K ⟨mg, Low.no⟩ { w with ρ := DL.enter n ds, σ := start N vs } w' → Aft K ⟨mg, Low.no⟩ w w'.strip := fun w' A => by
    have := Aft.out (w := w) s0 (enter_ml n ds) A
    rwa [e0] at this
  refine rt { w with ρ := DL.enter n ds, σ := start N vs } { nx := fun _ H' => Q .non H', rt := Q } sts' ?_
  unfold runD at ok
  show OkF K ⟨mg, Low.no⟩ (WEx E) _ _ (g (DL.enter n ds) w.st)
  cases e : g (DL.enter n ds) w.st with
  | nx ρ st' =>
    rw [e] at ok
    intro w' h1 h2 A
    exact ok w'.strip .non rfl h2 hσ.symm (out w' A) .non
  | rt d ρ st' =>
    rw [e] at ok
    intro w' v h1 h2 A r
    exact ok w'.strip v rfl h2 hσ.symm (out w' A) r
  | bk ρ st' => rw [e] at ok; exact ok.elim
  | ct ρ st' => rw [e] at ok; exact ok.elim
  | exc c ρ st' =>
    rw [e] at ok
    intro w' cls dx h1 h2 A r
    exact ok w'.strip cls dx rfl h2 hσ.symm (out w' A) r
  | bad => rw [e] at ok; exact ok.elim
theorem LawG.of {x : Str} {st : Stmt} {N : List Str} {k n : Nat} {g : DSx} (S : FnScope N [x] (defScope st)) (hn : n = N.length)
    (hb : ∀ (f : Addr) (cdv : Value) (A : Around) (outer : List Env) (s : Shared) (H : Hp) (E : XK), A.guards = some [] → Room k (A.deeper (PyProof.Rows.envOfC "law" (defScope st) s.heap.objs.size f cdv)) →
      DSs (cxOf (L2N.CX P wd) P wd K mg base N "law" (defScope st) f cdv A outer s H E) (WEx E) (defBody st) g) :
    ∀ {f : Addr} {fd : FuncData}, Fun K "law" "law" st f fd → FnG P wd K mg base (L2N.CX P wd) (k + 1) f fd [x] (spD K mg 1 (runD n g)) := fun F => fn_DG (funV_of F) S hn (hb _)
theorem lawG_of {k : Nat} {f : Addr} {fd : FuncData} {x : Str} {den : Den} (F : FnG P wd K mg base (L2N.CX P wd) k f fd [x] (spD K mg 1 den))
    (hd : ∀ ns : List Int, ns.length ≤ 63 → ∃ st, den [.lsk (ns.map .int)] [] = .ok (.bl true) [] st) : FnG P wd K mg base (L2N.CX P wd) k f fd [x] (spLaw K) := by
  refine F.imp fun vs H Q E h => ?_
  obtain ⟨a, ns, rfl, hS, hl, q⟩ := h
  obtain ⟨st, e⟩ := hd ns hl
  have s : Sts K ⟨mg, Low.no⟩ ⟨[], [], H, [], H, []⟩ := {
    lowG := fun _ _ z => by cases z
    lowI := fun _ _ z => by cases z
    sub := fun _ _ z => z
    ln := rfl
    len := rfl
    cel := fun i c a h => by cases h
    inj := fun i j a h => by obtain ⟨_, h, _⟩ := h; cases h
    slo := fun i x h => by cases h
    sep := fun i l a ⟨es, h, _⟩ => by cases h
    dis := fun i j a ⟨es, h, _⟩ => by cases h }
  have hsz : sizeLine = 16777216 := sizeLine_eq
  refine ⟨rfl, ⟨[], [], H, [], H, []⟩, [.lsk (ns.map .int)], rfl, rfl, rfl, s, .cons (.lsk hS (by rw [List.length_map]; omega) (reps_ints ns)) .nil, ?_⟩
  show OkR K ⟨mg, Low.no⟩ (WEx E) _ Q (den [.lsk (ns.map .int)] [])
  rw [e]
  intro w' v h1 h2 h3 A r
  cases r
  exact q _
structure Lies (K : PySem.W.Frag) (s : Shared) (a : Addr) (H : Hp) : Prop where
  only : ∀ b, H b = none ∨ (b = a ∧ ∃ o xs, H b = some (.frz o (.lst xs)))
  mine : H a ≠ none → K.lookup a = none
theorem Lies.none_of {s : Shared} {a b : Addr} {H : Hp} (L : Lies K s a H) (h : b ≠ a) : H b = none := (L.only b).elim id fun z => absurd z.1 h
theorem lawG_head {mb : Str → Option Value} {k : Nat} {fa a : Addr} {fd : FuncData} {x : Str} {s : Shared} {us : List Value} {ns : List Int} {H : Hp} (L : Lies K s a H) (hok : HOk P wd H s.heap) (hS : SqL K H a (ns.map V.int)) (kin : K.In s.heap) (gl : s.heap.Ns mainGlobals mg) (bl : s.heap.Ns builtinsNs mb)
    (bb : ∀ y : Str, y ≠ "__name__" → mb y = bootBuiltins y) (li : s.heap.NoLimit) (g0 : s.gens = #[]) (scr : s.heap.get? a = some { cls := .type "list", data := .seq us.toArray }) (h63 : ns.length ≤ 63) (hr : Room k callerA)
    (F : ∀ base : Heap, K.In base → base.Ns mainGlobals mg → FnG P wd K mg base (L2N.CX P wd) k fa fd [x] (spLaw K)) (bd : ∀ (s : Shared) (u : Value), BindsTo s fd ⟨[u], []⟩ [(x, u)]) :
    codeAny (model P wd) callerA (.call (.ref fa) ⟨[.ref a], []⟩) (fun r s' => r = .ok (.ret (.bool true)) ∧ OldK s.heap s'.heap ∧ s'.os = s.os ∧ AllBare s'.gens) s := by
  have low : ∀ {b : Addr} {m : Str → Option Value}, s.heap.Ns b m → (hidT s.heap H).Ns b m := fun {b m} ⟨o, es, ep, e, d, r⟩ => by
    refine ⟨o, es, ep, hidT_get e ?_, d, r⟩
    by_cases hb : b = a
    · rw [hb, scr] at e
      cases e
      cases d
    · exact L.none_of hb
  have kin' : K.In (hidT s.heap H) := fun b o e => hidT_get (kin b o e) (by
    by_cases hb : b = a
    · subst hb
      refine Classical.byContradiction fun z => ?_
      rw [L.mine z] at e
      cases e
    · exact L.none_of hb)
  have md : Mod K mg (hidT s.heap H) := ⟨kin', low gl, ⟨mb, low bl, bb⟩, li.elim fun mc z => ⟨mc, low z.1, z.2⟩⟩
  have en : Env0 P wd K mg (hidT s.heap H) callerA [] s H := by
    refine ⟨rfl, md, fun b o e => of_hidT e, ?_, trivial, ?_, hok, .of_eq g0⟩
    · rw [hidT_size]; exact Nat.le_refl _
    · intro b z; cases z
  have run := (F _ kin' (low gl)).at_ callerA rfl hr [] s H ⟨[.ref a], []⟩ [.ref a] [.ref a] (fun v _ => v = .bl true) (fun _ _ _ => False) en (bd s (.ref a)) (.cons rfl .nil) ⟨a, ns, rfl, hS, h63, fun _ => rfl⟩
  refine codeAny_mono run ?_
  rintro (e | fl) s' z
  · obtain ⟨_, _, _, _, _, _, _, _, _, _, _, _, _, _, _, _, z⟩ := z
  · rcases fl with _ | _ | _ | u
    · exact z.elim
    · exact z.elim
    · exact z.elim
    · obtain ⟨v, H', os, bare, un, hok', ru, rfl⟩ := z
      cases ru
      refine ⟨rfl, OldK.of_keep fun b o e => ?_, os, bare⟩
      rcases L.only b with z | ⟨_, ob, xs, z⟩
      · exact un.keep b o e z (by intro q; cases q) (by intro q; cases q)
      · have h1 := (hok b _ z).1
        have h2 := (hok' b _ (un.frzs b ob _ z)).1
        rw [e] at h1
        cases h1
        exact h2
end
theorem law_walkG {l : PySem.W.OpenLaw} {k : Nat} {x : Str} {q : Program} {loose : List Str} {XP : (Str → Option Value) → Heap → Prop} {YP : World → Heap → Prop} {d : DefRec} {K : Params → PySem.W.Frag} (hn : l.most = some 63) (hdf : d.params.defaults = []) (hr : Room k callerA)
    (hY : ∀ (w : World) (h : Heap), YP w h → (K w.params).In h)
    (F : ∀ (w : World) (mg : Str → Option Value) (fa : Addr) (h : Heap), (K w.params).In h → h.Ns mainGlobals mg → mg d.name = some (.ref fa) →
      ∃ fd : FuncData, (∀ (s : Shared) (u : Value), BindsTo s fd ⟨[u], []⟩ [(x, u)]) ∧ ∀ base : Heap, (K w.params).In base → base.Ns mainGlobals mg → FnG l.prog w (K w.params) mg base (L2N.CX l.prog w) k fa fd [x] (spLaw (K w.params))) :
    PySem.W.WalkO q loose XP YP l.row.toRowW d [] (fun f vs => PySem.call f vs) := by
  refine Att.attach_call hn hdf fun w s0 s mg mb fa o pm cd doc a us ns G Y ho hd hcd hmg scr hi h63 g0 => ?_
  have kin := hY w _ Y
  obtain ⟨fd, bd, hF⟩ := F w mg fa _ kin G.T.g hmg
  have rv := vals_ints hi
  have hsz : ns.length ≤ sizeLine := Nat.le_trans h63 (by decide)
  cases lk : (K w.params).lookup a with
  | some oa =>
    have e := kin a oa lk
    rw [scr] at e
    cases e
    have hS : SqL (K w.params) (fun _ => none) a (ns.map V.int) := .inr ⟨_, us.toArray, _, lk, rfl, rfl, rfl, by rw [List.size_toArray, hi.length]; exact hsz, by simpa using rv⟩
    exact lawG_head ⟨fun _ => .inl rfl, fun z => absurd rfl z⟩ (fun b u z => by cases z) hS kin G.T.g G.T.b G.T.builtins G.T.nolimit g0 scr h63 hr hF bd
  | none =>
    obtain ⟨H, eH⟩ : ∃ H : Hp, H = fun b => if b = a then some (.frz { cls := .type "list", data := .seq us.toArray } (.lst (ns.map V.int))) else none := ⟨_, rfl⟩
    have hA : H a = some (.frz { cls := .type "list", data := .seq us.toArray } (.lst (ns.map V.int))) := by rw [eH]; exact if_pos rfl
    have hB : ∀ b, b ≠ a → H b = none := fun b hb => by rw [eH]; exact if_neg hb
    have L : Lies (K w.params) s a H := ⟨fun b => by
      by_cases hb : b = a
      · exact .inr ⟨hb, _, _, by rw [hb]; exact hA⟩
      · exact .inl (hB b hb), fun _ => lk⟩
    refine lawG_head L (fun b u z => ?_) (.inl (.inr ⟨_, hA⟩)) kin G.T.g G.T.b G.T.builtins G.T.nolimit g0 scr h63 hr hF bd
    by_cases hb : b = a
    · subst hb
      rw [hA] at z
      cases z
      exact ⟨scr, by rw [List.length_map]; exact hsz, us, _, rv, scr⟩
    · rw [hB b hb] at z
      cases z
def pEqS : D → D → Option D
  | .str x, .str y => some (.bl (decide (x = y)))
  | _, _ => none
theorem ans_eqS {K : PySem.W.Frag} {mg : MG} : Ans2 K mg rEq pEqS := fun w x y d e z Q s rx ry q k => by
  unfold pEqS at q
  split at q
  · cases q
    have h1 := rx.str_inv
    have h2 := ry.str_inv
    subst h1; subst h2
    refine ⟨rfl, k _ fun _ _ => ?_⟩
    simp only [V.str.injEq]
    exact .bl _
  · cases q
theorem b_repr : bootBuiltins "repr" = some (.builtin "repr") := by decide +kernel
end DL
namespace DL
open PySem PySem.Spec PyProof.Rows L2 NdefX LamX
section
variable {P : Program} {wd : World} {K : PySem.W.Frag} {mg : Str → Option Value} {base : Heap}
def Recv (P : Program) (wd : World) (K : PySem.W.Frag) (mg : Str → Option Value) (base : Heap) (k kc m : Nat) (x : Str) (st : Stmt) (N ps : List Str) (gb : Den → DSx) : Prop := ∃ f fd, RecD P wd K mg base k kc m x st N ps gb f fd
theorem Recv.of {x : Str} {st : Stmt} {N ps : List Str} {k kc m : Nat} {gb : Den → DSx} (Df : Dfn K mg x ps st) (S : FnScope N ps (defScope st))
    (hb : ∀ (f : Addr) (b : Low) (dn : Den) (cdv : Value) (A : Around) (outer : List Env) (s : Shared) (H : Hp) (E : XK), b.ex = none → Room k (A.deeper (envOfC x (defScope st) s.heap.objs.size f cdv)) →
      (∀ pn xe, CloX ((cxOf (L2N.CX P wd) P wd K mg base N x (defScope st) f cdv A outer s H E).tr pn xe) kc m b dn) → DSs (cxOf (L2N.CX P wd) P wd K mg base N x (defScope st) f cdv A outer s H E) (WEb b E) (defBody st) (gb dn)) : Recv P wd K mg base k kc m x st N ps gb := by
  obtain ⟨f, fd, F, hmg, hB⟩ := Df
  exact ⟨f, fd, funV_of F, F.kp, hmg, hB, S, hb f⟩
structure LiesT (K : PySem.W.Frag) (s : Shared) (a : Addr) (cs : List (Addr × Addr)) (H : Hp) : Prop where
  only : ∀ b, H b = none ∨ (b = a ∧ ∃ o xs, H b = some (.frz o (.lst xs))) ∨ (b ∈ cs.map (·.2) ∧ H b = some (.tbl #[]))
  mine : H a ≠ none → K.lookup a = none
  tabs : ∀ p ∈ cs, H p.2 = some (.tbl #[])
end
end DL
namespace DL
open PySem PySem.Spec PyProof.Rows L2 NdefX LamX
structure ScN (N : List Str) : Prop where
  nd : N.Nodup
def CalG (P : Program) (w : World) (K : PySem.W.Frag) (mg : Str → Option Value) (base : Heap) (k : Nat) (x : Str) (n : Nat) (den : Den) : Prop :=
  ∃ f fd ps, FnG P w K mg base (L2N.CX P w) k f fd ps (spD K mg n den) ∧ mg x = some (.ref f) ∧ PySem.W.keepIn K (.ref f) = true ∧ Binds K fd ps []
theorem CalG.call {X : Cx} {W : WB} {k k' n : Nat} {den : Den} {x : Str} {p pos : Pos} {e : Expr} {es : List Expr} {fa : DEx} (C : CalG X.prog X.w X.K X.mg X.base k x n den) (ag : X.A.guards = some []) (hr : Room k' X.A) (hk : k ≤ k') (hg : Gl X x) (tk : L2N.Takes X W)
    (ha : DAn X W (e :: es) fa) (hn : (e :: es).length = n := by rfl) (hdb : (x == ("__debug__" : Str)) = false := by decide) (he : starEach (e :: es) X.env = (false, eval e X.env) :: starEach es X.env := by rfl) (hpl : (backTo pos (starEach es X.env)).any (·.1) = false := by rfl) :
    DE X W (.Call (.Name x p) (e :: es) [] pos) (callD den fa) := by
  obtain ⟨f, fd, ps, F, hm, kp, hb⟩ := C
  obtain ⟨⟨t, pt, rt⟩, hl⟩ := ha
  refine ⟨_, pe_sem (W := W) hg hm kp tk pt hdb he hpl, fun w Q s q => ?_⟩
  refine rt.bind (P := OkR X.K (MGx X W.b) W w Q) s q (fun d ρ st n => by cases d <;> first | rfl | exact absurd rfl (n _)) (fun _ _ _ z => z) (fun z => z) fun w1 vs ds e1 a1 r1 ee q1 => ?_
  have l : vs.length = n := by
    obtain ⟨ds', e', l⟩ := hl _ _ _ _ _ ee
    cases e'
    rw [r1.len, l]; exact hn
  have sp := sp_at a1.s l r1 e1 (OkR.aft q1 a1 e1)
  intro pins s0 us I rv
  have hl2 := F.len _ _ _ _ sp
  refine F.at_ X.A ag (hr.mono hk) X.stack s0 w1.H ⟨us, []⟩ us vs Q _ I.env0 ?_ rv sp
  have := hb s0 us I.kIn (by rw [List.append_nil, ← rv.length]; exact hl2)
  rwa [List.append_nil] at this
theorem CalG.of {P : Program} {wd : World} {K : PySem.W.Frag} {mg : Str → Option Value} {base : Heap} {x : Str} {st : Stmt} {N ps : List Str} {k n m : Nat} {g : DSx} (Df : Dfn K mg x ps st) (S : FnScope N ps (defScope st)) (hn : n = N.length) (hm : m = ps.length)
    (hb : ∀ (f : Addr) (cdv : Value) (A : Around) (outer : List Env) (s : Shared) (H : Hp) (E : XK), A.guards = some [] → Room k (A.deeper (envOfC x (defScope st) s.heap.objs.size f cdv)) →
      DSs (cxOf (L2N.CX P wd) P wd K mg base N x (defScope st) f cdv A outer s H E) (WEx E) (defBody st) g) : CalG P wd K mg base (k + 1) x m (runD n g) := by
  obtain ⟨f, fd, F, hmg, hB⟩ := Df
  subst hm
  exact ⟨f, fd, ps, fn_DG (funV_of F) S hn (hb f), hmg, F.kp, hB⟩
end DL
namespace DL
open PySem PySem.Spec PyProof.Rows L2
structure CMeth (K : PySem.W.Frag) (C f : Addr) (m : Str) : Prop where
  ga : PySem.W.specialIn K (.ref C) "__getattribute__" = some (some (.builtin "type.__getattribute__"))
  rd : PySem.W.readsIn K C (.type "type") = true
  fc : PySem.W.findCls K (.ref C) (.type "type") m = some (.val (.ref f))
  kp : PySem.W.keepIn K (.ref f) = true
def CCal (P : Program) (w : World) (K : PySem.W.Frag) (mg : Str → Option Value) (base : Heap) (k : Nat) (c m : Str) (n : Nat) (den : Den) : Prop :=
  ∃ C f fd ps, mg c = some (.ref C) ∧ CMeth K C f m ∧ FnOk P w K mg base (L2N.CX P w) k f fd ps (spD K mg n den) ∧ Binds K fd ps []
def Cfn (K : PySem.W.Frag) (mg : Str → Option Value) (c m qual : Str) (ps : List Str) (st : Stmt) : Prop := ∃ C f fd, mg c = some (.ref C) ∧ CMeth K C f m ∧ FunV K m qual st f fd ∧ Binds K fd ps []
theorem CCal.of {P : Program} {wd : World} {K : PySem.W.Frag} {mg : Str → Option Value} {base : Heap} {c m qual : Str} {st : Stmt} {N ps : List Str} {k n j : Nat} {g : DSx} (M : Cfn K mg c m qual ps st) (S : FnScope N ps (defScope st)) (hn : n = N.length) (hj : j = ps.length)
    (hb : ∀ (f : Addr) (cdv : Value) (A : Around) (outer : List Env) (s : Shared) (H : Hp) (E : XK), Room k (A.deeper (PyProof.Rows.envOfC qual (defScope st) s.heap.objs.size f cdv)) →
      DSs (cxOf (L2N.CX P wd) P wd K mg base N qual (defScope st) f cdv A outer s H E) (WEx E) (defBody st) g) : CCal P wd K mg base (k + 1) c m j (runD n g) := by
  obtain ⟨C, f, fd, h1, h2, h3, h4⟩ := M
  subst hj
  exact ⟨C, f, fd, ps, h1, h2, fn_D h3 S hn (hb f), h4⟩
theorem pe_csem {X : Cx} {W : WX} {C g : Addr} {c m : Str} {t : TA} {e : Expr} {es : List Expr} {p apos pos : Pos} {pl : Sem Bool} (hg : Gl X c) (hm : X.mg c = some (.ref C)) (M : CMeth X.K C g m) (tk : L2N.Takes X W) (ha : PA X (e :: es) t)
    (ht : eval (.Call (.Attribute (.Name c p) m apos) (e :: es) [] pos) X.env = (do let ov ← eval (.Name c p) X.env; standAt apos.atName; let (f, first) ← holding [ov] (getMethod ov m pl); callWith pos f first (backTo pos (starEach (e :: es) X.env)) (backToKw pos (keywordEach [] X.env))) := by rfl)
    (hdb : (c == ("__debug__" : Str)) = false := by decide) (he : starEach (e :: es) X.env = (false, eval e X.env) :: starEach es X.env := by rfl) (hpl : (backTo pos (starEach es X.env)).any (·.1) = false := by rfl) : PE X (.Call (.Attribute (.Name c p) m apos) (e :: es) [] pos) (tSem X W g t) := by
  refine ⟨fun pins s σ H Q I z => ?_⟩
  refine PySem.W.methodCall_KW (pl := pl) (ld_glob I hg hm ?_ hdb) ht
  refine PySem.W.method_cls I.kIn M.ga (PySem.W.cls_value I.kIn M.rd M.fc (by rfl) ?_)
  have A := ha.run pos pins { s with toks := s.toks + 1 } σ H _ (I.tok _) z
  exact PySem.W.callWith_K (h₀ := X.base) I.ok.mod.kin M.kp (thn A fun us s1 ⟨vs, H1, I1, r, q⟩ => ⟨I1.kIn, clo_ends tk I1 (q pins s1 us I1 r)⟩) he hpl
theorem CCal.call {X : Cx} {W : WB} {k k' n : Nat} {den : Den} {c m : Str} {p apos pos : Pos} {e : Expr} {es : List Expr} {fa : DEx} {pl : Sem Bool} (M : CCal X.prog X.w X.K X.mg X.base k c m n den) (hr : Room k' X.A) (hk : k ≤ k') (hg : Gl X c) (tk : L2N.Takes X W)
    (ha : DAn X W (e :: es) fa) (hn : (e :: es).length = n := by rfl)
    (ht : eval (.Call (.Attribute (.Name c p) m apos) (e :: es) [] pos) X.env = (do let ov ← eval (.Name c p) X.env; standAt apos.atName; let (f, first) ← holding [ov] (getMethod ov m pl); callWith pos f first (backTo pos (starEach (e :: es) X.env)) (backToKw pos (keywordEach [] X.env))) := by rfl)
    (hdb : (c == ("__debug__" : Str)) = false := by decide) (he : starEach (e :: es) X.env = (false, eval e X.env) :: starEach es X.env := by rfl) (hpl : (backTo pos (starEach es X.env)).any (·.1) = false := by rfl) :
    DE X W (.Call (.Attribute (.Name c p) m apos) (e :: es) [] pos) (callD den fa) := by
  obtain ⟨C, f, fd, ps, hm, M, F, hb⟩ := M
  obtain ⟨⟨t, pt, rt⟩, hl⟩ := ha
  refine ⟨_, pe_csem (W := W) (pl := pl) hg hm M tk pt ht hdb he hpl, fun w Q s q => ?_⟩
  refine rt.bind (P := OkR X.K (MGx X W.b) W w Q) s q (fun d ρ st n => by cases d <;> first | rfl | exact absurd rfl (n _)) (fun _ _ _ z => z) (fun z => z) fun w1 vs ds e1 a1 r1 ee q1 => ?_
  have l : vs.length = n := by
    obtain ⟨ds', e', l⟩ := hl _ _ _ _ _ ee
    cases e'
    rw [r1.len, l]; exact hn
  have sp := sp_at a1.s l r1 e1 (OkR.aft q1 a1 e1)
  intro pins s0 us I rv
  have hl2 := F.len _ _ _ _ sp
  refine F.run X.A X.stack s0 w1.H ⟨us, []⟩ us vs Q _ (hr.mono hk) I.env0 ?_ rv sp
  have := hb s0 us I.kIn (by rw [List.append_nil, ← rv.length]; exact hl2)
  rwa [List.append_nil] at this
end DL
namespace DL
open PySem PySem.Spec PyProof.Rows L2
section
variable {X : Cx} {W : WB} {a b e o x : Expr} {f g h : DEx} {pos apos cpos p : Pos}
def dropKD (kvs : List (Key × D)) (k : Key) : List (Key × D) := kvs.filter fun kv => decide (kv.1 ≠ k)
theorem RepK.drop {K : PySem.W.Frag} {mg : MG} {G : Hp} {ι : List Addr} {k : Key} : ∀ {vs : List (Key × V)} {ds : List (Key × D)}, RepK K mg G ι vs ds → RepK K mg G ι (dropK vs k) (dropKD ds k)
  | _, _, .nil => .nil
  | _, _, .cons (k := k') r1 r2 => by
    unfold dropK dropKD
    by_cases h : k' = k
    · rw [List.filter_cons_of_neg (by simp [h]), List.filter_cons_of_neg (by simp [h])]
      exact RepK.drop r2
    · rw [List.filter_cons_of_pos (by simp [h]), List.filter_cons_of_pos (by simp [h])]
      exact .cons r1 (RepK.drop r2)
theorem OkOd.mk {K : PySem.W.Frag} {mg : MG} {w w1 : Ws} {Q : VK} {ds : List (Key × D)} {vs : List (Key × V)} {p : Addr} (A : Aft K mg w w1) (e1 : w1.σ = w.σ) (hp : w1.H p = none) (r : RepK K mg w1.G w1.ι vs ds)
    (q : OkOd K mg W w Q (.ok (.dct ds) w1.ρ w1.st)) : Q (.ref p) (upd w1.H p (.dK vs)) :=
  q { w1 with H := upd w1.H p (.dK vs) } p vs rfl rfl e1 (A.trans (Aft.loose A.s hp)) (A.al p hp) (A.s.looseAt hp) upd_same r
theorem Aft.grow {K : PySem.W.Frag} {mg : MG} {w : Ws} (s : Sts K mg w) {H1 : Hp} {S : Addr → Prop} [DecidablePred S] (hx : ∀ b o, w.H b = some o → H1 b = some o) (hS : ∀ a, S a → w.H a = none) : Aft K mg w { w with H := H1, G := fun b => if S b then H1 b else w.G b } where
  s := s.heap (G' := fun b => if S b then H1 b else w.G b) (H' := H1) (fun b u e => by
      have n : ¬ S b := fun z => by have := s.sub _ _ e; rw [hS b z] at this; cases this
      show (if S b then H1 b else w.G b) = some u
      rw [if_neg n]; exact e) (fun b u e => by
      have e' : (if S b then H1 b else w.G b) = some u := e
      by_cases z : S b
      · rwa [if_pos z] at e'
      · rw [if_neg z] at e'; exact hx _ _ (s.sub _ _ e')) fun b m => ⟨by
      have n : ¬ S b := fun z => by obtain ⟨o, ho⟩ := s.mtH m; rw [hS b z] at ho; cases ho
      show (if S b then H1 b else w.G b) = none
      rw [if_neg n]; exact s.mtG m, fun u e => hx _ _ e⟩
  g := fun b u e => by
    have n : ¬ S b := fun z => by have := s.sub _ _ e; rw [hS b z] at this; cases this
    show (if S b then H1 b else w.G b) = some u
    rw [if_neg n]; exact e
  i := LeI.refl _
  kp := fun a u h _ => hx _ _ h
  nw := fun a h => .inl h
  gn := fun b h => by
    have h' : (if S b then H1 b else w.G b) ≠ none := h
    by_cases z : S b
    · exact .inr (.inr (hS b z))
    · rw [if_neg z] at h'; exact .inl h'
  al := fun a h => by
    cases e : w.H a with
    | none => rfl
    | some u => have := hx _ _ e; rw [show H1 a = none from h] at this; cases this
end
section
variable {P : Program} {wd : World} {K : PySem.W.Frag} {mg : Str → Option Value} {base : Heap} {k n j : Nat} {x y : Str} {den : Den} {dds : List D} {ks : List Str} {v : Value}
end
end DL
namespace DL
open PySem PySem.Spec PyProof.Rows L2
end DL
namespace DL
open PySem PySem.Spec PyProof.Rows L2
section
variable {P : Program} {wd : World} {κ : Type} [DecidableEq κ] {knd : KeyKind P wd κ} {A : Around} {E : Value → Shared → Prop} {J : Shared → Prop}
inductive HitsJ (P : Program) (wd : World) {κ : Type} [DecidableEq κ] (A : Around) (E : Value → Shared → Prop) (J : Shared → Prop) (kb : List (κ × Value)) : List (κ × Value) → Bool → Prop
  | nil : HitsJ P wd A E J kb [] true
  | miss {k : κ} {v : Value} {r : List (κ × Value)} : valueAt kb k = none → HitsJ P wd A E J kb ((k, v) :: r) false
  | hit {k : κ} {v y : Value} {r : List (κ × Value)} {e b : Bool} : valueAt kb k = some y → (∀ t, J t → wpAny (model P wd) A (eqBool v y) (fun z t' => z = e ∧ J t') E t) → HitsJ P wd A E J kb r b → HitsJ P wd A E J kb ((k, v) :: r) (e && b)
end
section
variable {X : Cx} {CX : CXT} {k : Nat} {f C : Addr} {fd : FuncData} {ps : List Str} {sp : Sp} {E : XK}
end
section
variable {X : Cx} {pins : List (Addr × Obj)} {σ : L2.St} {H G : Hp} {s : Shared} {mg : MG} {ι : List Addr}
end
section
variable {K : PySem.W.Frag} {mg : MG} {G : Hp} {ι : List Addr}
end
theorem repK_mem {K : PySem.W.Frag} {mg : MG} {G : Hp} {ι : List Addr} {k : Key} {v : V} : ∀ {vs : List (Key × V)} {ds : List (Key × D)}, RepK K mg G ι vs ds → (k, v) ∈ vs → ∃ d, (k, d) ∈ ds ∧ Rep K mg G ι v d
  | _, _, .cons r1 r2, h => by
    rcases List.mem_cons.mp h with e | h
    · cases e; exact ⟨_, by simp, r1⟩
    · obtain ⟨d, m, r⟩ := repK_mem r2 h
      exact ⟨d, by simp [m], r⟩
theorem repK_val {K : PySem.W.Frag} {mg : MG} {G : Hp} {ι : List Addr} {k : Key} : ∀ {vs : List (Key × V)} {ds : List (Key × D)}, RepK K mg G ι vs ds → (valV vs k = none ∧ getK ds k = none) ∨ ∃ v d, valV vs k = some v ∧ getK ds k = some d ∧ Rep K mg G ι v d
  | _, _, .nil => .inl ⟨rfl, rfl⟩
  | _, _, .cons (k := k') r1 r2 => by
    by_cases h : k' = k
    · refine .inr ⟨_, _, by simp [valV, List.find?_cons, h], by simp [getK, List.find?_cons, h], r1⟩
    · have e1 := repK_val (k := k) r2
      unfold valV getK at *
      rw [List.find?_cons_of_neg (by simpa using h), List.find?_cons_of_neg (by simpa using h)]
      exact e1
theorem getK_mem {k : Key} {d : D} : ∀ {ds : List (Key × D)}, (ds.map (·.1)).Nodup → (k, d) ∈ ds → getK ds k = some d
  | (k', d') :: ds, n, h => by
    rcases List.mem_cons.mp h with e | h
    · cases e; simp [getK]
    · simp only [List.map_cons, List.nodup_cons] at n
      have ne : k' ≠ k := fun e => n.1 (by rw [e]; exact List.mem_map.mpr ⟨_, h, rfl⟩)
      have := getK_mem n.2 h
      unfold getK at *
      rw [List.find?_cons_of_neg (by simpa using ne)]
      exact this
section
variable {X : Cx} {E : XK} {b : Low} {k k' : Nat} {den : Den} {c : Str} {e e2 : Expr} {g h : DEx} {pos : Pos}
end
end DL
namespace DL
open PySem PySem.Spec PyProof.Rows L2
section
variable {K : PySem.W.Frag} {mg : MG} {G G' : Hp} {ι ι' : List Addr}
end
end DL
namespace DL
open PySem PySem.W PySem.Calls PyProof.Rows
section
variable {prog : Program} {w : World} {A : Around} {E : Value → Shared → Prop} {s : Shared}
end
end DL
namespace DL
open PySem L2
section
variable {X : Cx} {W : WB} {e : Expr} {f : DEx} {p pos : Pos}
end
end DL
namespace DL
open PySem PySem.Spec PyProof.Rows L2 PySem.W
end DL
namespace DL
open PySem PySem.Spec PyProof.Rows L2 PySem.Froz
def SetT (P : Program) (w : World) (h : Heap) (a : Addr) (l : List Str) : Prop :=
  ∃ D : SD, h.get? a = some (sObj "set" D) ∧ TxOk P w D l ∧ l.Nodup ∧ Ris D.2.2.place.toList ∧ (w.params.followText "set-order" = true ∨ D.2.2.led = true)
theorem SetT.at {P : Program} {w : World} {h h' : Heap} {a : Addr} {l : List Str} (R : SetT P w h a l) (k : ∀ o, h.get? a = some o → h'.get? a = some o) : SetT P w h' a l := let ⟨D, e, r⟩ := R; ⟨D, k _ e, r⟩
theorem setT_new {P : Program} {w : World} {h : Heap} {a : Addr} (ho : h.get? a = some { cls := .type "set", dict := none, data := .set #[] 0 (.fresh 0 0 (!w.params.followText "set-order")) }) : SetT P w h a [] :=
  ⟨(#[], 0, .fresh 0 0 (!w.params.followText "set-order")), ho, TxOk.nil (by rfl), List.nodup_nil, List.Pairwise.nil, by
    show _ ∨ (!w.params.followText "set-order") = true
    cases w.params.followText "set-order"
    · exact .inr rfl
    · exact .inl rfl⟩
theorem tail_ris {ep : Nat} {es1 : Array (Int × Value)} {t2 : SetTable} {wd : Bool} (r : Ris t2.place.toList) : Ris (tailTx ep es1 t2 wd).2.2.place.toList := by
  unfold tailTx
  by_cases c : (!wd && t2.tooFull) = true
  · rw [if_pos c]; exact relayAll_ris _ _ _
  · rw [if_neg c]; exact r
theorem tail_led {ep : Nat} {es1 : Array (Int × Value)} {t2 : SetTable} {wd : Bool} : (tailTx ep es1 t2 wd).2.2.led = t2.led := by
  unfold tailTx
  by_cases c : (!wd && t2.tooFull) = true
  · rw [if_pos c]; exact relayAll_led _ _ _
  · rw [if_neg c]
theorem add_ris {h : Int} {v : Value} {D : SD} (r : Ris D.2.2.place.toList) : Ris (addTx h v D).2.2.place.toList := by
  have h1 := layNew_ris D.2.2 D.1 h v r
  refine tail_ris ?_
  by_cases c : (layNew D.2.2 D.1 h v).2.1.plain = true
  · rw [if_pos c]; exact h1
  · rw [if_neg c]; exact h1
theorem add_led {h : Int} {v : Value} {D : SD} : (addTx h v D).2.2.led = D.2.2.led := by
  have h1 := layNew_led D.2.2 D.1 h v
  refine tail_led.trans ?_
  by_cases c : (layNew D.2.2 D.1 h v).2.1.plain = true
  · rw [if_pos c]; exact h1
  · rw [if_neg c]; exact h1
section
variable {P : Program} {w : World} {A : Around} {E : Value → Shared → Prop} {s : Shared} {a : Addr}
theorem setT_add {l : List Str} {k : Str} {u : Tok} {Q : Bool → Shared → Prop} (R : SetT P w s.heap a l) (room : l.length + 1 < scanBound)
    (hQ : ∀ h' b l', Heap.SameBut a s.heap h' → SetT P w h' a l' → (∀ x, x ∈ l' ↔ x ∈ l ∨ x = k) → l'.length ≤ l.length + 1 → Q b { s with heap := h' }) : wpAny (model P w) A (setAddHashed a (.str k u) (hashStr w k)) Q E s := by
  obtain ⟨D, ho, F, nd, hr, hl⟩ := R
  by_cases hk : k ∈ l
  · obtain ⟨es, ep, t⟩ := D
    have hd : (sObj "set" (es, ep, t)).data = .set es ep t := rfl
    have hsz : es.size = l.length := F.sz
    have hb0 : es.size < scanBound := by omega
    have hkey : (strKind P w).is k (.str k u) = true := is_str k u
    unfold setAddHashed setAddHashedIn
    refine wpAny_holding (wpAny_bind (wpAny_setState_of ho hd F.fit ?_))
    dsimp only
    rw [byScan_of rfl hb0 F.el]
    simp only [↓reduceIte]
    unfold setAddByScan
    refine wpAny_bind ?_
    refine wpAny_bind (wpAny_rule ?_)
    refine wpAny_bind (wpAny_setScan_of (knd := strKind P w) (k := k) hkey ho hd F.fit F.el ?_)
    cases hfi : List.findIdx? (fun e => (strKind P w).is k e.2) es.toList with
    | some j =>
      dsimp only
      refine wpAny_pure (wpAny_pure ?_)
      exact hQ s.heap _ l (Heap.SameBut.refl a s.heap) ⟨(es, ep, t), ho, F, nd, hr, hl⟩ (fun x => ⟨.inl, fun h => h.elim id fun e => e ▸ hk⟩) (Nat.le_succ _)
    | none =>
      obtain ⟨e, he, q⟩ := (F.mem k).mp hk
      have c := List.findIdx?_eq_none_iff.mp hfi e he
      rw [q] at c
      cases c
  · refine add_x ho F hk room ?_
    refine hQ _ _ (k :: l) (Heap.SameBut.update s.heap a _) ⟨_, get_upd _ ho rfl, add_ok u F, List.nodup_cons.mpr ⟨hk, nd⟩, add_ris hr, hl.imp id fun z => by rw [add_led]; exact z⟩ (fun x => by rw [List.mem_cons]; exact Or.comm) (by simp)
theorem set_update_texts {I : Addr} {fp wr : List Addr} {G : Array GenState → Array GenState → Prop} {n : Nat} {Pv : Nat → Value → Prop} {St : Nat → Shared → Prop} {R : Result → Shared → Prop}
    (W : WalksS P w A.in1 I fp wr G n Pv St) (S : Addr) (hSf : S ∉ fp) (xs : List Str) (hn : n = xs.length) (hb : xs.length + 1 < scanBound) (hval : ∀ i v, Pv i v → ∃ k t, xs[i]? = some k ∧ v = .str k t) :
    ∀ (k i : Nat) (s : Shared), n - i = k → i ≤ n → St i s → (∃ l, SetT P w s.heap S l ∧ l.length ≤ i ∧ ∀ x, x ∈ l ↔ x ∈ xs.take i) →
      (∀ s' l, Moved (S :: wr) G s s' → SetT P w s'.heap S l → l.length ≤ n → (∀ x, x ∈ l ↔ x ∈ xs) → R (.ok (.ret .none)) s') →
      codeAny (model P w) A (.builtin "set.update.loop" ⟨[.ref S, .ref I], []⟩) R s := by
  have hSw : S ∉ wr := fun h => hSf (W.sub _ h)
  have hsub : ∀ b ∈ wr, b ∈ S :: wr := fun b hb => List.mem_cons_of_mem _ hb
  intro k
  induction k with
  | zero =>
    intro i s hk' hi hst ⟨l, hS, hll, hm0⟩ hR
    have hin : i = n := by omega
    subst hin
    refine codeAny_builtin F.entry_set_update_loop ?_
    rw [Around.under_plainId F.plain_set_update_loop _]
    show wpAny _ A.in1 (pyNext (.ref I) >>= _) _ _ s
    refine wpAny_bind (W.done s _ _ hst fun s' hm => ?_)
    show wpAny _ A.in1 (ret Value.none) _ _ s'
    have e : xs.take i = xs := List.take_of_length_le (by omega)
    rw [e] at hm0
    exact wpAny_pure (hR s' l (hm.mono hsub) (hS.at fun o e => hm.heap S o hSw e) hll hm0)
  | succ k ih =>
    intro i s hk' hi hst ⟨l, hS, hll, hm0⟩ hR
    have hlt : i < n := by omega
    refine codeAny_builtin F.entry_set_update_loop ?_
    rw [Around.under_plainId F.plain_set_update_loop _]
    show wpAny _ A.in1 (pyNext (.ref I) >>= _) _ _ s
    refine wpAny_bind (W.item i s _ _ hlt hst fun v s' hP hst' hm => ?_)
    obtain ⟨z, t, hz, rfl⟩ := hval i v hP
    have hS' : SetT P w s'.heap S l := hS.at fun o e => hm.heap S o hSw e
    show wpAny _ A.in1 (holding [Value.str z t] (setAdd S (.str z t)) >>= _) _ _ s'
    refine wpAny_bind (wpAny_holding ?_)
    unfold setAdd
    refine wpAny_holding ?_
    refine wpAny_bind ((strKind P w).pyHash (k := z) (is_str z t) ?_)
    refine setT_add (s := { s' with toks := s'.toks + 1 }) hS' (by omega) fun h' b l' hsb hS2 hm2 hl2 => ?_
    have hm3 : ∀ x, x ∈ l' ↔ x ∈ xs.take (i + 1) := fun x => by
      rw [List.take_add_one, hz, hm2 x, hm0 x]
      simp [List.mem_append]
    refine wpAny_pure ⟨plainId_quiet F.plain_set_update_loop _, ih (i + 1) _ (by omega) hlt (W.frame _ s' _ _ hst' (Nat.le_succ _) fun b hb o e => ?_) ⟨l', hS2, by omega, hm3⟩ fun s'' l2 hm'' hS'' hl'' hx'' => ?_⟩
    · rw [hsb.2 b (fun h : b = S => hSf (by rw [← h]; exact hb))]; exact e
    · refine hR s'' l2 (Moved.trans W.gtrans ((hm.mono hsub).then_heap (Nat.le_succ _) fun b o hb e => ?_) hm'') hS'' hl'' hx''
      rw [hsb.2 b (fun h : b = S => hb (by rw [h]; exact List.mem_cons_self))]; exact e
end
end DL
namespace DL
open PySem PySem.Spec PyProof.Rows L2 PySem.Froz
abbrev nS (w : World) : Obj := { cls := .type "set", dict := none, data := .set #[] 0 (.fresh 0 0 (!w.params.followText "set-order")) }
section
variable {P : Program} {w : World} {A : Around} {E : Value → Shared → Prop} {s : Shared}
set_option maxHeartbeats 3200000 in
theorem call_setT_list {l : Addr} {items : Array Value} (xs : List Str) {Q : Value → Shared → Prop} (hh : A.handled = none) (hl : s.heap.IsList l items) (hit : StrsAre items.toList xs) (hb : xs.length + 1 < scanBound)
    (h : ∀ (h' : Heap) (tk : Nat) (ys : List Str), SetT P w h' s.heap.objs.size ys → ys.length ≤ xs.length → (∀ x, x ∈ ys ↔ x ∈ xs) → (∀ b o, s.heap.get? b = some o → h'.get? b = some o) → Q (.ref s.heap.objs.size) { s with heap := h', toks := tk }) :
    wpAny (model P w) A (call (.type "set") [.ref l]) Q E s := by
  have hisz : xs.length = items.size := by rw [← StrsAre.len_eq hit, Array.length_toList]
  obtain ⟨c, tl, hmro⟩ := PySem.F.called_set.mro
  have hmade := PySem.F.called_set.made
  have hsub := PySem.F.called_set.sub
  refine wpAny_call (codeAny_of_tree ?_)
  show wpAny _ _ (callAny (.type "set") _) _ _ _
  refine wpAny_pure ⟨Code.quiet_builtin _ (by decide +kernel), codeAny_builtin PySem.F.entry_type_call ?_⟩
  rw [Around.under_plain (weight_type_call_type "set" [.ref l] []) rfl]
  have h1 := PySem.F.called_set.notType
  have h2 := PySem.F.called_set.canCreate
  have hct := PySem.F.typeCall_set_1 (.ref l)
  repeat (any_goals (first | assumption | wp_step))
  refine codeAny_mono (code_set_led1 (.ref l) (E := E) (Q₁ := fun obj s₁ => obj = .ref s.heap.objs.size ∧ s₁ = { s with heap := s.heap.push (nS w) }) ⟨rfl, rfl⟩) fun r s₁ hr => ?_
  cases r with
  | error e => exact hr
  | ok fl =>
    cases fl with
    | ret obj =>
      obtain ⟨rfl, rfl⟩ := hr
      have hS : (s.heap.push (nS w)).get? s.heap.objs.size = some (nS w) := Heap.get?_push_size _ rfl
      have hT : Shared.TypeIs { s with heap := s.heap.push (nS w) } (.ref s.heap.objs.size) "set" := ⟨_, hS, rfl⟩
      have hli := PySem.F.called_set.init.lookup
      have hbi := PySem.F.called_set.init.bind (.ref s.heap.objs.size)
      repeat (any_goals (first | assumption | wp_step))
      refine codeAny_mono (codeAny_call_builtin (R := wants (fun r s₂ => r = .none ∧ ∃ h' tk ys, s₂ = { s with heap := h', toks := tk } ∧ SetT P w h' s.heap.objs.size ys ∧ ys.length ≤ xs.length ∧ (∀ x, x ∈ ys ↔ x ∈ xs) ∧
          (∀ b o, s.heap.get? b = some o → h'.get? b = some o)) E) PySem.F.called_set.init.plain PySem.F.entry_set_init (check_set_init_1 hT ?_)) fun r₂ s₂ hr₂ => ?_
      · obtain ⟨ol, hol, hcl, nl, hdl⟩ := hl
        obtain ⟨ocls, odict, odata, oslots⟩ := ol
        simp only at hcl hdl
        subst hcl; subst hdl
        have hol' : (s.heap.push (nS w)).get? l = some { cls := .type "list", dict := odict, data := .seq items nl, slots := oslots } := Heap.get?_push_of_some _ hol
        have hsls := PySem.F.sub_list_set
        have hslf := PySem.F.sub_list_frozenset
        have hne : (Value.type "list" == Value.type "dict") = false := by decide
        have hl1 : (s.heap.push (nS w)).IsList l items := ⟨_, hol', rfl, nl, rfl⟩
        unfold Builtin.«set.__init__» noKeywords Builtin.Frozenset.updateFrom
        generalize hPI : pyIter = PI
        wp_walk
        subst hPI
        refine wpAny_pyIter_list hl1 ?_
        refine wpAny_bind (wpAny_runValue ?_)
        have hlS : l < s.heap.objs.size := Heap.lt_size hol
        have hh3 : A.in1.in1.in1.handled = none := by simp [hh]
        have hneI : l ≠ (s.heap.push (nS w)).objs.size := by
          rw [Heap.size_push]; exact Nat.ne_of_lt (Nat.lt_succ_of_lt hlS)
        have hSf : s.heap.objs.size ∉ [(s.heap.push (nS w)).objs.size, l] := by
          rw [Heap.size_push]; simp only [List.mem_cons, List.mem_singleton, List.not_mem_nil, or_false, not_or]
          exact ⟨Nat.ne_of_lt (Nat.lt_succ_self _), Nat.ne_of_gt hlS⟩
        have hval : ∀ (i : Nat) (v : Value), items[i]? = some v → ∃ k t, xs[i]? = some k ∧ v = .str k t := fun i v hv => by
          have hi : i < xs.length := by rw [hisz]; exact (Array.getElem?_eq_some_iff.mp hv).1
          obtain ⟨t, e⟩ := SS.strs_at hit i v (by rw [Array.getElem?_toList]; exact hv)
          refine ⟨xs[i], t, List.getElem?_eq_getElem hi, ?_⟩
          rw [e, List.getD_eq_getElem?_getD, List.getElem?_eq_getElem hi] <;> rfl
        refine set_update_texts ((Walks.list hh3 _ l hneI items).toS) s.heap.objs.size
          hSf xs hisz.symm hb hval (items.size - 0) 0 _ (by omega) (Nat.zero_le _)
          ⟨⟨_, Heap.get?_push_size _ rfl, rfl, rfl⟩, (hl1.push _)⟩ ?hS0 ?hR
        case hS0 => exact ⟨[], setT_new (Heap.get?_push_of_some _ hS), Nat.le_refl 0, fun x => by simp⟩
        case hR =>
          intro s' ys hm hS' hl' hx'
          obtain ⟨h', g2, d', tk', os'⟩ := s'
          have eg : g2 = s.gens := hm.gens
          have ed : d' = s.drawn := hm.drawn
          have eo : os' = s.os := hm.os
          subst eg; subst ed; subst eo
          show wpAny _ _ _ _ _ _
          refine wpAny_pure ?_
          show wpAny _ _ (ret Value.none) _ _ _
          refine wpAny_pure ⟨rfl, h', tk', ys, rfl, hS', by omega, hx', fun b o e => ?_⟩
          have hb0 : b < s.heap.objs.size := Heap.lt_size e
          have hb1 : b ≠ s.heap.objs.size := Nat.ne_of_lt hb0
          have hb2 : b ≠ (s.heap.push (nS w)).objs.size := by
            rw [Heap.size_push]; exact Nat.ne_of_lt (Nat.lt_succ_of_lt hb0)
          exact hm.heap b o (by simp only [List.mem_cons, List.mem_singleton, List.not_mem_nil, or_false, not_or]; exact ⟨hb1, hb2⟩) (Heap.get?_push_of_some _ (Heap.get?_push_of_some _ e))
      · cases r₂ with
        | error e => exact hr₂
        | ok fl₂ =>
          cases fl₂ with
          | ret r =>
            obtain ⟨rfl, h', tk, ys, rfl, hS', hl', hx', hk'⟩ := hr₂
            repeat (any_goals (first | assumption | wp_step))
            exact h _ _ _ hS' hl' hx' hk'
          | _ => exact hr₂.elim
    | _ => exact hr.elim
set_option maxHeartbeats 3200000 in
theorem call_setT_tuple {l : Addr} {items : Array Value} (xs : List Str) {Q : Value → Shared → Prop} (hh : A.handled = none) (hl : s.heap.IsTuple l items) (hit : StrsAre items.toList xs) (hb : xs.length + 1 < scanBound)
    (h : ∀ (h' : Heap) (tk : Nat) (ys : List Str), SetT P w h' s.heap.objs.size ys → ys.length ≤ xs.length → (∀ x, x ∈ ys ↔ x ∈ xs) → (∀ b o, s.heap.get? b = some o → h'.get? b = some o) → Q (.ref s.heap.objs.size) { s with heap := h', toks := tk }) :
    wpAny (model P w) A (call (.type "set") [.ref l]) Q E s := by
  have hisz : xs.length = items.size := by rw [← StrsAre.len_eq hit, Array.length_toList]
  obtain ⟨c, tl, hmro⟩ := PySem.F.called_set.mro
  have hmade := PySem.F.called_set.made
  have hsub := PySem.F.called_set.sub
  refine wpAny_call (codeAny_of_tree ?_)
  show wpAny _ _ (callAny (.type "set") _) _ _ _
  refine wpAny_pure ⟨Code.quiet_builtin _ (by decide +kernel), codeAny_builtin PySem.F.entry_type_call ?_⟩
  rw [Around.under_plain (weight_type_call_type "set" [.ref l] []) rfl]
  have h1 := PySem.F.called_set.notType
  have h2 := PySem.F.called_set.canCreate
  have hct := PySem.F.typeCall_set_1 (.ref l)
  repeat (any_goals (first | assumption | wp_step))
  refine codeAny_mono (code_set_led1 (.ref l) (E := E) (Q₁ := fun obj s₁ => obj = .ref s.heap.objs.size ∧ s₁ = { s with heap := s.heap.push (nS w) }) ⟨rfl, rfl⟩) fun r s₁ hr => ?_
  cases r with
  | error e => exact hr
  | ok fl =>
    cases fl with
    | ret obj =>
      obtain ⟨rfl, rfl⟩ := hr
      have hS : (s.heap.push (nS w)).get? s.heap.objs.size = some (nS w) := Heap.get?_push_size _ rfl
      have hT : Shared.TypeIs { s with heap := s.heap.push (nS w) } (.ref s.heap.objs.size) "set" := ⟨_, hS, rfl⟩
      have hli := PySem.F.called_set.init.lookup
      have hbi := PySem.F.called_set.init.bind (.ref s.heap.objs.size)
      repeat (any_goals (first | assumption | wp_step))
      refine codeAny_mono (codeAny_call_builtin (R := wants (fun r s₂ => r = .none ∧ ∃ h' tk ys, s₂ = { s with heap := h', toks := tk } ∧ SetT P w h' s.heap.objs.size ys ∧ ys.length ≤ xs.length ∧ (∀ x, x ∈ ys ↔ x ∈ xs) ∧
          (∀ b o, s.heap.get? b = some o → h'.get? b = some o)) E) PySem.F.called_set.init.plain PySem.F.entry_set_init (check_set_init_1 hT ?_)) fun r₂ s₂ hr₂ => ?_
      · obtain ⟨ol, hol, hcl, nl, hdl⟩ := hl
        obtain ⟨ocls, odict, odata, oslots⟩ := ol
        simp only at hcl hdl
        subst hcl; subst hdl
        have hol' : (s.heap.push (nS w)).get? l = some { cls := .type "tuple", dict := odict, data := .seq items nl, slots := oslots } := Heap.get?_push_of_some _ hol
        have hsls := PySem.F.sub_tuple_set
        have hslf := PySem.F.sub_tuple_frozenset
        have hne : (Value.type "tuple" == Value.type "dict") = false := by decide
        have hl1 : (s.heap.push (nS w)).IsTuple l items := ⟨_, hol', rfl, nl, rfl⟩
        unfold Builtin.«set.__init__» noKeywords Builtin.Frozenset.updateFrom
        generalize hPI : pyIter = PI
        wp_walk
        subst hPI
        refine wpAny_pyIter_tuple hl1 ?_
        refine wpAny_bind (wpAny_runValue ?_)
        have hlS : l < s.heap.objs.size := Heap.lt_size hol
        have hh3 : A.in1.in1.in1.handled = none := by simp [hh]
        have hneI : l ≠ (s.heap.push (nS w)).objs.size := by
          rw [Heap.size_push]; exact Nat.ne_of_lt (Nat.lt_succ_of_lt hlS)
        have hSf : s.heap.objs.size ∉ [(s.heap.push (nS w)).objs.size, l] := by
          rw [Heap.size_push]; simp only [List.mem_cons, List.mem_singleton, List.not_mem_nil, or_false, not_or]
          exact ⟨Nat.ne_of_lt (Nat.lt_succ_self _), Nat.ne_of_gt hlS⟩
        have hval : ∀ (i : Nat) (v : Value), items[i]? = some v → ∃ k t, xs[i]? = some k ∧ v = .str k t := fun i v hv => by
          have hi : i < xs.length := by rw [hisz]; exact (Array.getElem?_eq_some_iff.mp hv).1
          obtain ⟨t, e⟩ := SS.strs_at hit i v (by rw [Array.getElem?_toList]; exact hv)
          refine ⟨xs[i], t, List.getElem?_eq_getElem hi, ?_⟩
          rw [e, List.getD_eq_getElem?_getD, List.getElem?_eq_getElem hi] <;> rfl
        refine set_update_texts ((Walks.tuple hh3 _ l hneI items).toS) s.heap.objs.size
          hSf xs hisz.symm hb hval (items.size - 0) 0 _ (by omega) (Nat.zero_le _)
          ⟨⟨_, Heap.get?_push_size _ rfl, rfl, rfl⟩, (hl1.push _)⟩ ?hS0 ?hR
        case hS0 => exact ⟨[], setT_new (Heap.get?_push_of_some _ hS), Nat.le_refl 0, fun x => by simp⟩
        case hR =>
          intro s' ys hm hS' hl' hx'
          obtain ⟨h', g2, d', tk', os'⟩ := s'
          have eg : g2 = s.gens := hm.gens
          have ed : d' = s.drawn := hm.drawn
          have eo : os' = s.os := hm.os
          subst eg; subst ed; subst eo
          show wpAny _ _ _ _ _ _
          refine wpAny_pure ?_
          show wpAny _ _ (ret Value.none) _ _ _
          refine wpAny_pure ⟨rfl, h', tk', ys, rfl, hS', by omega, hx', fun b o e => ?_⟩
          have hb0 : b < s.heap.objs.size := Heap.lt_size e
          have hb1 : b ≠ s.heap.objs.size := Nat.ne_of_lt hb0
          have hb2 : b ≠ (s.heap.push (nS w)).objs.size := by
            rw [Heap.size_push]; exact Nat.ne_of_lt (Nat.lt_succ_of_lt hb0)
          exact hm.heap b o (by simp only [List.mem_cons, List.mem_singleton, List.not_mem_nil, or_false, not_or]; exact ⟨hb1, hb2⟩) (Heap.get?_push_of_some _ (Heap.get?_push_of_some _ e))
      · cases r₂ with
        | error e => exact hr₂
        | ok fl₂ =>
          cases fl₂ with
          | ret r =>
            obtain ⟨rfl, h', tk, ys, rfl, hS', hl', hx', hk'⟩ := hr₂
            repeat (any_goals (first | assumption | wp_step))
            exact h _ _ _ hS' hl' hx' hk'
          | _ => exact hr₂.elim
    | _ => exact hr.elim
end
end DL
namespace DL
open PySem PySem.Spec PyProof.Rows L2 PySem.Froz
theorem sLe_cps (p x : Str) : sLe p x = !ltCps x.cps.toList p.cps.toList := by
  show (!PyProof.Rows.lexLt PyProof.Rows.itemOrd [.inr x.cps.toList] [.inr p.cps.toList]) = _
  congr 1
  show PyProof.Rows.lexLt PyProof.Rows.itemOrd [.inr x.cps.toList] [.inr p.cps.toList] = ltCps x.cps.toList p.cps.toList
  rw [ltCps_eq]
  have h1 : itemLt (.inr x.cps.toList) (.inr p.cps.toList) = decide (x.cps.toList < p.cps.toList) := rfl
  have h2 : PyProof.Rows.lexLt PyProof.Rows.itemOrd [] [] = false := rfl
  unfold PyProof.Rows.lexLt
  show (itemLt (.inr x.cps.toList) (.inr p.cps.toList) || (!itemLt (.inr p.cps.toList) (.inr x.cps.toList) && PyProof.Rows.lexLt PyProof.Rows.itemOrd [] [])) = _
  rw [h1, h2, Bool.and_false, Bool.or_false]
theorem rising_pw : ∀ (r : List Str) (p : Str), risingS p r = true → (p :: r).Pairwise (fun a b => sLe a b = true)
  | [], p, _ => List.pairwise_singleton ..
  | x :: r, p, h => by
    unfold risingS at h
    rw [Bool.and_eq_true] at h
    have ih := rising_pw r x h.2
    have h1 : sLe p x = true := by rw [sLe_cps]; exact h.1
    refine List.pairwise_cons.mpr ⟨fun y hy => ?_, ih⟩
    rcases List.mem_cons.mp hy with rfl | hy
    · exact h1
    · exact sLe_total.trans _ _ _ h1 ((List.pairwise_cons.mp ih).1 y hy)
theorem sortedS_pw {ys : List Str} (h : sortedS ys = true) : ys.Pairwise (fun a b => sLe a b = true) := by
  cases ys with
  | nil => exact .nil
  | cons x r => exact rising_pw r x h
theorem perm_of_nodup {α : Type} [DecidableEq α] : ∀ {l m : List α}, l.Nodup → (∀ x ∈ l, x ∈ m) → m.length ≤ l.length → m.Perm l
  | [], m, _, _, h => by
    have : m = [] := List.length_eq_zero_iff.mp (Nat.le_zero.mp h)
    rw [this]
  | a :: l, m, nd, hs, hl => by
    obtain ⟨n1, n2⟩ := List.nodup_cons.mp nd
    have ha := hs a (List.mem_cons_self ..)
    have p := List.perm_cons_erase ha
    have hle : (m.erase a).length ≤ l.length := by
      have := List.length_erase_of_mem ha
      simp at hl
      omega
    exact p.trans ((perm_of_nodup n2 (fun x hx => (List.mem_erase_of_ne (fun e : x = a => n1 (by rw [← e]; exact hx))).mpr (hs x (List.mem_cons_of_mem _ hx))) hle).cons a)
section
variable {P : Program} {w : World}
theorem strs_of_els {es : List (Int × Value)} (h : ElemsOf (strKind P w) es) : ∀ (vs : List Value), (∀ v ∈ vs, v ∈ es.map (·.2)) → ∃ xs, StrsAre vs xs ∧ ∀ x, x ∈ xs ↔ ∃ v ∈ vs, (strKind P w).is x v = true
  | [], _ => ⟨[], .nil, fun x => by simp⟩
  | v :: vs, hm => by
    obtain ⟨xs, hx, hi⟩ := strs_of_els h vs fun u hu => hm u (List.mem_cons_of_mem _ hu)
    obtain ⟨e, he, q⟩ := List.mem_map.mp (hm v (List.mem_cons_self ..))
    obtain ⟨⟨k, hk, _⟩, _⟩ := h e he
    rw [q] at hk
    obtain ⟨t, rfl⟩ := Value.isStrOf_shape (x := k) hk
    refine ⟨k :: xs, .cons k t hx, fun x => ?_⟩
    rw [List.mem_cons, hi x]
    constructor
    · rintro (rfl | ⟨v, hv, q⟩)
      · exact ⟨_, List.mem_cons_self .., hk⟩
      · exact ⟨v, List.mem_cons_of_mem _ hv, q⟩
    · rintro ⟨v, hv, q⟩
      rcases List.mem_cons.mp hv with rfl | hv
      · exact .inl ((strKind P w).inj _ _ _ q hk)
      · exact .inr ⟨v, hv, q⟩
end
section
variable {X : Cx} {pins : List (Addr × Obj)} {σ : L2.St} {H : Hp} {s : Shared}
theorem call_sortedT {a : Addr} {l : List Str} {Q : VK} (hc : X.calm = true) (I : Inv X pins σ H s) (R : SetT X.prog X.w s.heap a l) (h64 : l.length < 64)
    (q : ∀ (ys : List Str) p, ys.Perm l → ys.Pairwise (fun a b => sLe a b = true) → H p = none → Q (.ref p) (upd H p (.lst (ys.map V.str)))) : wpAny (model X.prog X.w) X.A (call (.builtin "sorted") [.ref a]) (EP X pins σ Q) X.xe s := by
  obtain ⟨⟨es, ep, t⟩, ho, F, nd, hr, hl⟩ := R
  have hsz : es.size = l.length := F.sz
  refine Calls.call_function_entry PyProof.Rows.kind_sorted PyProof.Rows.plain_sorted PyProof.Rows.entry_sorted (PyProof.Rows.args_sorted1 _) ?_
  unfold Builtin.«sorted»
  refine wpAny_bind (m := checkCount "sorted" 1 1 _) (wpAny_pure ?_)
  refine wpAny_bind (collect_set (A := X.A.in1) (I.ok.hd hc) ⟨_, ho, rfl, rfl⟩ F.fit (by rw [hsz]; unfold scanBound; omega) hr hl fun s1 vs k1 hz g1 o1 pm => ?_)
  have hvl : vs.length = l.length := by rw [pm.length_eq, List.length_map, Array.length_toList]; exact hsz
  obtain ⟨xs, hS, hx⟩ := strs_of_els F.el vs fun v hv => pm.mem_iff.mp hv
  have hxl : xs.length = vs.length := (StrsAre.len_eq hS).symm
  have px : xs.Perm l := perm_of_nodup nd (fun x hxl => by
    obtain ⟨e, he, q⟩ := (F.mem x).mp hxl
    exact (hx x).mpr ⟨e.2, pm.mem_iff.mpr (List.mem_map_of_mem (f := (·.2)) he), q⟩) (by omega)
  refine wpAny_bind (wpAny_newList ?_ (by rw [hvl, sizeLine_eq]; omega))
  have hoL : (s1.heap.push (seqObj "list" vs.toArray 0)).get? s1.heap.objs.size = some (seqObj "list" vs.toArray 0) := Heap.get?_push_size _ rfl
  show wpAny _ _ _ _ _ { s1 with heap := s1.heap.push (seqObj "list" vs.toArray 0) }
  refine wpAny_bind (wpAny_holding (wpAny_call_entry PyProof.Rows.slot_list_sort ⟨_, hoL, rfl⟩ PyProof.Rows.entry_list_sort
    (list_sort_treeK strKind_oneLt (s := { s1 with heap := s1.heap.push (seqObj "list" vs.toArray 0) }) hoL hS.keysOf (fun v₁ v₂ rest e => keyKind_strs (by rw [← e]; exact hS)) (by rw [hvl]; exact h64) fun st' hp hs => ⟨_, rfl, ?_⟩)
    (PyProof.Rows.args_list_sort _)))
  obtain ⟨ys, y1, y2, y3⟩ := sorted_out_str hS hp hs
  obtain ⟨e', he'⟩ := PyProof.Rows.sortedHeap_at (vs := vs) (out := (arrOf st').map (·.2)) hoL
  have hlen : (ys.map V.str).length ≤ sizeLine := by
    rw [List.length_map, y2.length_eq, hxl, hvl]
    exact Nat.le_trans (Nat.le_of_lt h64) (by decide)
  have hn : H s1.heap.objs.size = none := I.hok.fresh hz
  have kp : ∀ b u, s.heap.get? b = some u → (PyProof.Rows.sortedHeap (s1.heap.push (seqObj "list" vs.toArray 0)) s1.heap.objs.size vs ((arrOf st').map (·.2))).get? b = some u := fun b u e => by
    have e1 := k1 b u e
    have hb : b < s1.heap.objs.size := Heap.lt_size e1
    rw [PyProof.Rows.sortedHeap_old (Nat.ne_of_lt hb) (by rw [size_push']; exact Nat.lt_succ_of_lt hb)]
    exact Heap.get?_push_of_some _ e1
  have J : Inv X pins σ (upd H s1.heap.objs.size (.lst (ys.map V.str))) { s with heap := PyProof.Rows.sortedHeap (s1.heap.push (seqObj "list" vs.toArray 0)) s1.heap.objs.size vs ((arrOf st').map (·.2)), gens := s1.gens, drawn := s1.drawn, toks := s1.toks } :=
    I.call (ch := []) (Un.laid kp hz hn) (I.hok.laid kp hz ⟨hlen, ((arrOf st').map (·.2)).toList, e', vals_of_strs y1, by rw [Array.toArray_toList]; exact he'⟩) (by rw [g1]; exact I.bare) (fun _ z => nomatch z)
  have e : ({ s1 with heap := PyProof.Rows.sortedHeap (s1.heap.push (seqObj "list" vs.toArray 0)) s1.heap.objs.size vs ((arrOf st').map (·.2)) } : Shared) = { s with heap := PyProof.Rows.sortedHeap (s1.heap.push (seqObj "list" vs.toArray 0)) s1.heap.objs.size vs ((arrOf st').map (·.2)), gens := s1.gens, drawn := s1.drawn, toks := s1.toks } := by
    cases s1
    cases s
    cases o1
    rfl
  refine wpAny_pure ⟨_, rfl, ?_⟩
  show EP X pins σ Q (.ref s1.heap.objs.size) { s1 with heap := PyProof.Rows.sortedHeap (s1.heap.push (seqObj "list" vs.toArray 0)) s1.heap.objs.size vs ((arrOf st').map (·.2)) }
  rw [e]
  exact ⟨.ref s1.heap.objs.size, _, J, rfl, q ys _ (y2.trans px) (sortedS_pw y3) hn⟩
end
end DL
namespace DL
open PySem PySem.Spec PyProof.Rows L2 PySem.Froz
def ddp : List Str → List Str
  | [] => []
  | x :: r => if x ∈ ddp r then ddp r else x :: ddp r
theorem ddp_mem : ∀ {xs : List Str} {x : Str}, x ∈ ddp xs ↔ x ∈ xs
  | [], x => Iff.rfl
  | y :: r, x => by
    unfold ddp
    split
    · rename_i h
      rw [ddp_mem, List.mem_cons]
      exact ⟨.inr, fun z => z.elim (fun e => e ▸ ddp_mem.mp h) id⟩
    · rw [List.mem_cons, List.mem_cons, ddp_mem]
theorem ddp_nodup : ∀ xs : List Str, (ddp xs).Nodup
  | [] => List.nodup_nil
  | y :: r => by
    unfold ddp
    split
    · exact ddp_nodup r
    · rename_i h
      exact List.nodup_cons.mpr ⟨h, ddp_nodup r⟩
theorem ddp_len : ∀ xs : List Str, (ddp xs).length ≤ xs.length
  | [] => Nat.le_refl _
  | y :: r => by
    have := ddp_len r
    unfold ddp
    split
    · simp; omega
    · simp; omega
def sst (xs : List Str) : List Str := srt (ddp xs)
theorem sst_mem {xs : List Str} {x : Str} : x ∈ sst xs ↔ x ∈ xs := srt_mem.trans ddp_mem
theorem sst_nodup (xs : List Str) : (sst xs).Nodup := srt_nodup (ddp_nodup xs)
theorem sst_pw (xs : List Str) : (sst xs).Pairwise (fun a b => sLe a b = true) := srt_pw _
theorem sst_len (xs : List Str) : (sst xs).length ≤ xs.length := by
  unfold sst
  rw [(srt_perm _).length_eq]; exact ddp_len xs
theorem sst_id {xs : List Str} (nd : xs.Nodup) (so : xs.Pairwise (fun a b => sLe a b = true)) : sst xs = xs := sorted_ext sLe_anti (sst_pw xs) so (sst_nodup xs) nd fun _ => sst_mem
theorem sst_uniq {xs ys : List Str} (nd : ys.Nodup) (so : ys.Pairwise (fun a b => sLe a b = true)) (h : ∀ x, x ∈ ys ↔ x ∈ xs) : ys = sst xs := sorted_ext sLe_anti so (sst_pw xs) nd (sst_nodup xs) fun x => (h x).trans sst_mem.symm
def tSortSet (K : PySem.W.Frag) (ta : TE) : TE := fun σ H Q => ta σ H fun x H1 => ∃ l, ∃ xs : List Str, x = .ref l ∧ (SqL K H1 l (xs.map V.str) ∨ SqT K H1 l (xs.map V.str)) ∧ xs.length < 64 ∧ ∀ p, H1 p = none → Q (.ref p) (upd H1 p (.lst ((sst xs).map V.str)))
theorem pe_sortSet {X : Cx} {a : Expr} {ta : TE} {p p2 q pos : Pos} (hc : X.calm = true) (hg : Gl X "sorted") (hm : X.mg "sorted" = none) (hg2 : Gl X "set") (hm2 : X.mg "set" = none) (ha : PE X a ta)
    (na : starEach [a] X.env = (false, eval a X.env) :: starEach [] X.env := by rfl) : PE X (.Call (.Name "sorted" p) [.Call (.Name "set" p2) [a] [] q] [] pos) (tSortSet X.K ta) := by
  refine ⟨fun pins s σ H Q I h => ?_⟩
  refine Call_ (ld_blt I hg hm boot_sorted ?_)
  refine PyProof.Rows.callWith_builtin1 (PyProof.Rows.args_cons ?_ rfl) rfl rfl
  refine Call_ (ld_blt I hg2 hm2 boot_set ?_)
  refine PyProof.Rows.callWith_type1 (PyProof.Rows.args_cons (thn (ha.run pins s σ H _ I h) fun v s1 ⟨x, H1, I1, r1, q1⟩ => PyProof.Rows.args_nil ?_) na) na rfl
  obtain ⟨l, xs, rfl, hq, h64, q1⟩ := q1
  cases r1
  have fin : ∀ (h' : Heap) (tk : Nat) (ys : List Str), SetT X.prog X.w h' s1.heap.objs.size ys → ys.length ≤ xs.length → (∀ x, x ∈ ys ↔ x ∈ xs) → (∀ b o, s1.heap.get? b = some o → h'.get? b = some o) →
      wpAny (model X.prog X.w) X.A (spliced (backTo pos (starEach [] X.env))) (fun vs s₂ => wpAny (model X.prog X.w) X.A (call (.builtin "sorted") (Value.ref s1.heap.objs.size :: vs)) (EP X pins σ Q) X.xe s₂) X.xe { s1 with heap := h', toks := tk } := fun h' tk ys hS hl hx hk => by
    refine PyProof.Rows.args_nil ?_
    have I2 : Inv X pins σ H1 { s1 with heap := h', toks := tk } := I1.kept hk
    have nd : ys.Nodup := let ⟨_, _, _, nd, _⟩ := hS; nd
    refine call_sortedT (s := { s1 with heap := h', toks := tk }) hc I2 hS (by omega) fun zs p pz ps hp => ?_
    rw [sst_uniq (xs := xs) (pz.nodup_iff.mpr nd) ps (fun x => pz.mem_iff.trans (hx x))]
    exact q1 p hp
  have hb : xs.length + 1 < scanBound := by unfold scanBound; omega
  rcases hq with hq | hq
  · obtain ⟨its, r, pl, hz⟩ := I1.list hq
    exact call_setT_list xs (I1.ok.hd hc) pl.isList (by simpa using strsAre_of r) hb fin
  · obtain ⟨its, r, pl, hz⟩ := I1.tuple hq
    exact call_setT_tuple xs (I1.ok.hd hc) pl (by simpa using strsAre_of r) hb fin
@[simp] def sstD (f : DEx) (ρ : En) (st : Store) : R := (f ρ st).bind fun d ρ st => match kOf d with
  | some ds => (match strL ds with
    | some xs => if xs.length < 64 then .ok (.lst ((sst xs).map .str)) ρ st else .bad
    | none => .bad)
  | none => .bad
theorem sstD_isL {f : DEx} : IsL (sstD f) := fun ρ st d ρ' st' h => by
  unfold sstD at h
  cases e : f ρ st with
  | ok d1 ρ1 st1 =>
    rw [e] at h
    simp only [R.bind] at h
    split at h
    · split at h
      · split at h
        · cases h; exact ⟨_, rfl⟩
        · cases h
      · cases h
    · cases h
  | exc c ρ1 st1 => rw [e] at h; cases h
  | bad => rw [e] at h; cases h
theorem reps_of_strs {K : PySem.W.Frag} {mg : MG} {G : Hp} {ι : List Addr} : ∀ xs : List Str, Reps K mg G ι (xs.map V.str) (xs.map D.str)
  | [] => .nil
  | x :: r => .cons (.str x) (reps_of_strs r)
theorem do_sortSet {X : Cx} {W : WB} {e : Expr} {f : DEx} {p p2 q pos : Pos} (hc : X.calm = true) (hg : Gl X "sorted") (hm : X.mg "sorted" = none) (hg2 : Gl X "set") (hm2 : X.mg "set" = none) (ha : DV X W e f) (he : starEach [e] X.env = (false, eval e X.env) :: starEach [] X.env := by rfl) :
    DO X W (.Call (.Name "sorted" p) [.Call (.Name "set" p2) [e] [] q] [] pos) (sstD f) := by
  obtain ⟨te, pe, re⟩ := ha
  refine ⟨⟨_, pe_sortSet hc hg hm hg2 hm2 pe he, fun w Q s q => ?_⟩, sstD_isL⟩
  refine re.bindO s q fun w1 v d e1 a1 r1 q1 => ?_
  cases z : kOf d with
  | none => simp only [z] at q1; exact q1.elim
  | some ds =>
    simp only [z] at q1
    obtain ⟨a, vs, rfl, h1, h2, h3⟩ := r1.seq a1.s z
    cases y : strL ds with
    | none => simp only [y] at q1; exact q1.elim
    | some xs =>
      simp only [y] at q1
      split at q1
      · rename_i h64
        have ev := strL_reps h3 y
        subst ev
        refine ⟨a, xs, rfl, ?_, h64, fun l hl => OkO.mk a1 e1 hl (by rw [List.length_map]; exact Nat.le_trans (sst_len xs) (by rw [sizeLine_eq]; omega)) (reps_of_strs _) q1⟩
        rcases h1 with h1 | h1
        · exact .inl h1
        · exact .inr (SqT.mono a1.s.sub h1)
      · exact q1.elim
@[simp] def k_sst (P : D → En → Store → Prop) (d : D) (ρ : En) (st : Store) : Prop := EOk (match kOf d with
  | some ds => (match strL ds with
    | some xs => if xs.length < 64 then .ok (.lst ((sst xs).map .str)) ρ st else .bad
    | none => .bad)
  | none => .bad) P
@[simp ↓] theorem EOk_sst {f : DEx} {ρ : En} {st : Store} {P : D → En → Store → Prop} : EOk (sstD f ρ st) P ↔ EOk (f ρ st) (k_sst P) := EOk_bind _ _
end DL
namespace DL
open PySem PySem.Spec PyProof.Rows L2
end DL
namespace DL
open PySem PySem.Spec PyProof.Rows L2
end DL
namespace DL
open PySem PySem.Spec PyProof.Rows L2
structure XMeth (K : PySem.W.Frag) (B : Addr) : Prop where
  ga : PySem.W.specialIn K (.ref B) "__getattribute__" = some (some (.builtin "type.__getattribute__"))
  rd : PySem.W.readsIn K B (.type "type") = true
  fc : PySem.W.findCls K (.ref B) (.type "type") "__init__" = some (.val (.builtin "ValueError.__init__"))
def spX (K : PySem.W.Frag) (C : Addr) (fld : Str) : Sp := fun vs H Q _ => ∃ (a : Addr) (y : V), vs = [.ref a, y] ∧ H a = some (exo a C none) ∧ OexC K C ∧ PySem.W.findIn K (.ref C) fld = some none ∧
  ∀ dx, H dx = none → dx ≠ a → Q .non (upd (upd H dx (exd dx [(fld, y)])) a (exo a C (some dx)))
def tXi (K : PySem.W.Frag) (fld msg : Str) : TS := tSeq (tDrop (tVeI K (tCons (tVar 0) (tCons (tC (.str msg)) tNil)))) (tOst K fld (tVar 0) (tVar 1))
def XCls (P : Program) (w : World) (K : PySem.W.Frag) (mg : Str → Option Value) (base : Heap) (c fld : Str) : Prop :=
  ∃ C fI fd ps, mg c = some (.ref C) ∧ OexC K C ∧ PySem.W.findIn K (.ref C) "__init__" = some (some (.ref fI)) ∧ PySem.W.typeIn K (.ref fI) = some (.type "function") ∧ PySem.W.findIn K (.ref C) fld = some none ∧
    FnOk P w K mg base (L2N.CX P w) 1 fI fd ps (spX K C fld) ∧ Binds K fd ps []
theorem XCls.of {P : Program} {wd : World} {K : PySem.W.Frag} {mg : Str → Option Value} {base : Heap} {c fld qual msg x0 x1 : Str} {C fI : Addr} {st : Stmt} {fd : FuncData} (hC : mg c = some (.ref C)) (T : OexC K C) (iC : PySem.W.findIn K (.ref C) "__init__" = some (some (.ref fI)))
    (tI : PySem.W.typeIn K (.ref fI) = some (.type "function")) (nf : PySem.W.findIn K (.ref C) fld = some none) (F : FunV K "__init__" qual st fI fd) (S : FnScope [x0, x1] [x0, x1] (defScope st)) (B : Binds K fd [x0, x1] [])
    (hb : ∀ (f : Addr) (cdv : Value) (A : Around) (outer : List Env) (s : Shared) (H : Hp) (E : XK), PSs (cxOf (L2N.CX P wd) P wd K mg base [x0, x1] qual (defScope st) f cdv A outer s H E) (defBody st) (tXi K fld msg)) : XCls P wd K mg base c fld := by
  refine ⟨C, fI, fd, [x0, x1], hC, T, iC, tI, nf, ?_, B⟩
  refine F.okD S (fun vs H Q E h => ?_) fun cdv A outer s H vs Q E hr h => ?_
  · obtain ⟨a, y, rfl, _⟩ := h
    rfl
  · obtain ⟨a, y, rfl, h1, h2, h3, h4⟩ := h
    refine ⟨_, hb _ cdv A outer s H E, ?_⟩
    refine ⟨V.ref a, rfl, a, C, [V.str msg], rfl, by simp, T, h1, ?_⟩
    refine ⟨y, rfl, V.ref a, rfl, a, C, rfl, T, h3, .inl ⟨h1, fun dx hd hn => h4 dx hd hn⟩⟩
end DL
set_option maxHeartbeats 2000000
namespace HotX
open PySem PySem.Spec PyProof.Rows
section
variable {prog : Program} {w : World} {A : Around} {E : Value → Shared → Prop} {s : Shared}
end
end HotX
namespace L2H
open PySem PySem.Spec PyProof.Rows L2 HotX
section
variable {X : Cx}
theorem vals_ints {F : Value → Value → Prop} (hF : ∀ v y, F v y → ∃ b t, v = .bool b ∧ y = .int (if b then 1 else 0) t) : ∀ {bs : List Bool} {vs ys : List Value}, Paired F vs ys → vs.length = bs.length → (∀ (j : Nat) v, vs[j]? = some v → ∃ b, bs[j]? = some b ∧ v = .bool b) → Vals (bs.map fun b => V.int (if b then 1 else 0)) ys := by
  intro bs vs ys hp
  induction hp generalizing bs with
  | nil =>
    intro hl _
    cases bs with
    | nil => exact .nil
    | cons _ _ => cases hl
  | cons h t ih =>
    intro hl hj
    cases bs with
    | nil => cases hl
    | cons b bs =>
      obtain ⟨b', e1, e2⟩ := hj 0 _ rfl
      cases e1
      obtain ⟨b2, tk, e3, e4⟩ := hF _ _ h
      rw [e2] at e3
      cases e3
      subst e4
      exact .cons ⟨_, rfl⟩ (ih (by simpa using hl) fun j v e => hj (j + 1) v e)
end
end L2H
set_option maxHeartbeats 2000000
namespace L2H
open PySem PySem.Spec PyProof.Rows L2 HotX
structure XcC (K : PySem.W.Frag) (C : Addr) : Prop where
  i : ExcC K C
  f : XfC K C
  cl : (PySem.W.clsIn K C).isSome = true
structure Xat (X : Cx) (a C : Addr) (d : Option Addr) : Prop where
  hd : X.A.handled = some (.ref a)
  pn : ∃ p ∈ X.pn, p.1 = a ∧ L2N.Zn (.ref C) d p.2 ∧ ∃ vs, p.2.data = .fields vs
theorem Xat.hot {X : Cx} {a C : Addr} {d : Option Addr} (x : Xat X a C d) : HotC X := by
  obtain ⟨p, hp, rfl, hz, vs, hv⟩ := x.pn
  exact ⟨p, ⟨x.hd, vs, hv, hz.2.2 vs hv⟩, hp⟩
section
variable {X : Cx} {a C : Addr} {d : Option Addr}
end
end L2H
namespace DL
open PySem PySem.Spec PyProof.Rows L2 L2H
section
variable {X : Cx} {W : WB} {a C : Addr} {c : Str} {od : Option Addr} {i : Nat} {x T : Str}
end
end DL
set_option maxHeartbeats 2000000
namespace L2H
open PySem PySem.Spec PyProof.Rows L2
end L2H
namespace DL
open PySem PySem.Spec PyProof.Rows L2 L2H
section
variable {K : PySem.W.Frag} {f : Str → Option Value} {b : Low} {w w' w3 : Ws} {i : Nat} {a : Addr} {c : Str} {od : Option Addr} {fs : List (Str × D)} {vs : List (Str × V)} {x : Option (Addr × Str × Option Addr)}
end
end DL
set_option maxHeartbeats 2000000
namespace L2H
open PySem PySem.Spec PyProof.Rows L2 HotX
structure FnX (P : Program) (w : World) (K : PySem.W.Frag) (mg : Str → Option Value) (base : Heap) (CX : CXT) (k : Nat) (f : Addr) (fd : FuncData) (ps : List Str) (p : Addr × Obj) (sp : Sp) : Prop where
  len : ∀ vs H Q E, sp vs H Q E → vs.length = ps.length
  run : ∀ (A : Around) (outer : List Env) (s : Shared) (H : Hp) (args : Args) (us : List Value) (vs : List V) (Q : VK) (E : XK), RoomH k A → Hot1 A p → PinOk outer H s p → Env0 P w K mg base A outer s H → BindsTo s fd args (ps.zip us) → Vals vs us → sp vs H Q E →
    codeAny (model P w) A (.call (.ref f) args) (CR CX outer P w H s Q E) s
theorem fnX_of {CX : CXT} {P : Program} {w : World} {K : PySem.W.Frag} {mg : Str → Option Value} {base : Heap} {k : Nat} {x qual : Str} {st : Stmt} {f : Addr} {fd : FuncData} {N ps : List Str} {sp : Sp} {p : Addr × Obj} (F : DL.FunV K x qual st f fd) (S : FnScope N ps (defScope st))
    (len : ∀ vs H Q E, sp vs H Q E → vs.length = ps.length)
    (hbody : ∀ (cdv : Value) (A : Around) (outer : List Env) (s : Shared) (H : Hp) (vs : List V) (Q : VK) (E : XK), Hot1 A p → RoomH k (A.deeper (envOfC qual (defScope st) s.heap.objs.size f cdv)) → sp vs H Q E →
      ∃ t, PSs (cxH CX P w K mg base N qual (defScope st) f cdv A outer s H E p) (defBody st) t ∧ t { nx := fun _ H' => Q .non H', rt := Q } (L2.start N vs) H) : FnX P w K mg base CX (k + 1) f fd ps p sp := by
  obtain ⟨oc, od, dV, kV, doc, pm, an, cdv, ct, osl, rfl, lk, hcd⟩ := F.ex
  refine ⟨len, fun A outer s H args us vs Q E hr hot hpin e0 hb r hsp => ?_⟩
  have hl := len _ _ _ _ hsp
  have kp : ∀ b o, base.get? b = some o → s.heap.get? b = some o := fun b o e => (e0.bs b o e).1
  have KX := e0.mod.kin.keeps kp
  have hkind : ∀ y ∈ ps.zip us, (defScope st).names.lookup y.1 = some .local ∨ ((defScope st).names.lookup y.1 = some .cell ∧ ((cellsFrom (s.heap.objs.size + 1) (defScope st).names []).lookup y.1).isSome = true) := fun ⟨n, v⟩ hy => by
    rcases S.par n (List.of_mem_zip hy).1 with q | q
    · exact .inl q
    · exact .inr ⟨q, PySem.W.cellsFrom_some _ _ _ (.inl q)⟩
  refine codeAny_call_function hr.depth (KX _ _ lk) rfl S.co S.gen rfl (PySem.W.codeRec_of KX hcd) (hb _ _ _ _ (wpAny_newFunctionEnv_cells S.kind hkind fun env he s1 x => ?_))
  subst he
  refine ⟨(e0.mod.nolimit.keeps kp).keeps x.toInCall.keep, codeAny_func ?_⟩
  obtain ⟨t, ht, hq⟩ := hbody cdv A outer s H vs Q E hot (hr.deeper _) hsp
  refine wpAny_mono (ht.run [] s1 (L2.start N vs) H _ (inv_startH S hpin e0 hl r x) hq) (fun fl s' hs => ?_) fun e s' hs => hs
  cases fl with
  | ret u =>
    obtain ⟨v, σ', H', J, rv, q⟩ := hs
    exact ⟨v, H', J.os, J.bare, J.base, J.hok, rv, q⟩
  | next =>
    obtain ⟨σ', H', J, q⟩ := hs
    exact ⟨.non, H', J.os, J.bare, J.base, J.hok, rfl, q⟩
  | brk => exact False.elim hs.choose_spec.choose_spec.2
  | cont => exact False.elim hs.choose_spec.choose_spec.2
end L2H
set_option maxHeartbeats 2000000
namespace DL
open PySem PySem.Spec PyProof.Rows L2 L2H
abbrev DenX := Str → List (Str × D) → Store → R
def lowX (a : Addr) (c : Str) (od : Option Addr) : Low := ⟨fun _ => none, [], none, some (a, c, od)⟩
@[simp] def enterX (n : Nat) (c : Str) (fs : List (Str × D)) : En := .exv c fs :: List.replicate (n - 1) .no
@[simp] def runX (n : Nat) (g : DSx) : DenX := fun c fs st => endR (g (enterX n c fs) st)
def spE (K : PySem.W.Frag) (mg : Str → Option Value) (a : Addr) (c : Str) (od : Option Addr) (dn : DenX) : Sp := fun vs H Q E => vs = [.ref a] ∧
  ∃ (w : Ws) (fs : List (Str × D)) (us : List (Str × V)), w.ρ = [] ∧ w.σ = [] ∧ w.H = H ∧ Sts K ⟨mg, lowX a c od⟩ w ∧ (∀ d, od = some d → w.G d = some (.xd us)) ∧ (od = none → us = []) ∧ RepF K ⟨mg, lowX a c od⟩ w.G w.ι us fs ∧ OkR K ⟨mg, lowX a c od⟩ (WEb (lowX a c od) E) w Q (dn c fs w.st)
theorem enterX_ml (n : Nat) (c : Str) (fs : List (Str × D)) (i : Nat) (es : List D) : (enterX n c fs)[i]? ≠ some (.ml es) := by
  intro h
  rcases List.mem_cons.mp (List.mem_of_getElem? h) with h | h
  · cases h
  · have := List.eq_of_mem_replicate h; cases this
theorem Sts.enterX {K : PySem.W.Frag} {mg : Str → Option Value} {w : Ws} {n : Nat} {N : List Str} {a : Addr} {c : Str} {od : Option Addr} {fs : List (Str × D)} {us : List (Str × V)} (s : Sts K ⟨mg, lowX a c od⟩ w) (hn : n = N.length) (h0 : 0 < n)
    (h1 : ∀ d, od = some d → w.G d = some (.xd us)) (h2 : od = none → us = []) (r : RepF K ⟨mg, lowX a c od⟩ w.G w.ι us fs) : Sts K ⟨mg, lowX a c od⟩ { w with ρ := DL.enterX n c fs, σ := L2.start N [.ref a] } where
  lowG := s.lowG
  lowI := s.lowI
  sub := s.sub
  ln := by unfold DL.enterX L2.start; simp [← hn]
  len := s.len
  cel := s.cel
  inj := s.inj
  slo := fun i x h => by
    show SlotAt K ⟨mg, lowX a c od⟩ { w with ρ := DL.enterX n c fs, σ := L2.start N [.ref a] } (L2.start N [.ref a])[i]? x
    have h' : (DL.enterX n c fs)[i]? = some x := h
    cases i with
    | zero =>
      have e : Sl.exv c fs = x := by simpa using h'
      subst e
      exact ⟨a, od, us, by unfold L2.start; simp, rfl, h1, h2, r⟩
    | succ j =>
      have h2 : (List.replicate (n - 1) Sl.no)[j]? = some x := by simpa using h'
      have := List.eq_of_mem_replicate (List.mem_of_getElem? h2)
      subst this; trivial
  sep := fun i l a ⟨es, h, _⟩ _ => absurd h (enterX_ml _ _ _ _ _)
  dis := fun i j a ⟨es, h, _⟩ _ => absurd h (enterX_ml _ _ _ _ _)
theorem fnX_D {P : Program} {wd : World} {K : PySem.W.Frag} {mg : Str → Option Value} {base : Heap} {x qual : Str} {st : Stmt} {f : Addr} {fd : FuncData} {N ps : List Str} {k n : Nat} {g : DSx} {a : Addr} {c : Str} {od : Option Addr} {p : Addr × Obj} (F : FunV K x qual st f fd) (S : FnScope N ps (defScope st)) (hn : n = N.length) (h1 : ps.length = 1) (h0 : 0 < n)
    (hb : ∀ (cdv : Value) (A : Around) (outer : List Env) (s : Shared) (H : Hp) (E : XK), Hot1 A p → RoomH k (A.deeper (PyProof.Rows.envOfC qual (defScope st) s.heap.objs.size f cdv)) →
      DSs (cxH (L2N.CX P wd) P wd K mg base N qual (defScope st) f cdv A outer s H E p) (WEb (lowX a c od) E) (defBody st) g) : FnX P wd K mg base (L2N.CX P wd) (k + 1) f fd ps p (spE K mg a c od (runX n g)) := by
  refine fnX_of F S (fun vs H Q E h => by rw [h.1, h1]; rfl) fun cdv A outer s H vs Q E hot hr h => ?_
  obtain ⟨rfl, w, fs, us, hρ, hσ, rfl, sts, g1, g2, r, ok⟩ := h
  obtain ⟨t, pt, rt⟩ := hb cdv A outer s w.H E hot hr
  refine ⟨t, pt, ?_⟩
  have sts' := sts.enterX hn h0 g1 g2 r (N := N)
  have e0 : w.strip = w := ws_strip hρ hσ
  have s0 : Sts K ⟨mg, lowX a c od⟩ w.strip := by rw [e0]; exact sts
  have out : ∀ w', Aft K ⟨mg, lowX a c od⟩ { w with ρ := DL.enterX n c fs, σ := start N [V.ref a] } w' → Aft K ⟨mg, lowX a c od⟩ w w'.strip := fun w' A => by
    have := Aft.out (w := w) s0 (enterX_ml n c fs) A
    rwa [e0] at this
  refine rt { w with ρ := DL.enterX n c fs, σ := start N [V.ref a] } { nx := fun _ H' => Q .non H', rt := Q } sts' ?_
  unfold runX at ok
  show OkF K ⟨mg, lowX a c od⟩ (WEb (lowX a c od) E) _ _ (g (DL.enterX n c fs) w.st)
  cases e : g (DL.enterX n c fs) w.st with
  | nx ρ st' =>
    rw [e] at ok
    intro w' k1 k2 A
    exact ok w'.strip .non rfl k2 hσ.symm (out w' A) .non
  | rt d ρ st' =>
    rw [e] at ok
    intro w' v k1 k2 A r
    exact ok w'.strip v rfl k2 hσ.symm (out w' A) r
  | bk ρ st' => rw [e] at ok; exact ok.elim
  | ct ρ st' => rw [e] at ok; exact ok.elim
  | exc c ρ st' =>
    rw [e] at ok
    intro w' cls dx k1 k2 A r
    exact ok w'.strip cls dx rfl k2 hσ.symm (out w' A) r
  | bad => rw [e] at ok; exact ok.elim
def XCal (P : Program) (w : World) (K : PySem.W.Frag) (mg : Str → Option Value) (base : Heap) (cs : Str → Bool) (k : Nat) (x : Str) (dn : DenX) : Prop :=
  ∃ f fd ps, mg x = some (.ref f) ∧ PySem.W.keepIn K (.ref f) = true ∧ Binds K fd ps [] ∧ ∀ (a : Addr) (c : Str) (C : Addr) (od : Option Addr) (p : Addr × Obj), p.1 = a → L2N.Zn (.ref C) od p.2 → (∃ vs, p.2.data = .fields vs) → mg c = some (.ref C) → cs c = true → FnX P w K mg base (L2N.CX P w) k f fd ps p (spE K mg a c od dn)
end DL
set_option maxHeartbeats 2000000
namespace L2
theorem Room.u80 {k : Nat} {A : PySem.Around} (r : Room k A) : A.units + 80 < PySem.cLine := by have := r.un; omega
theorem Room.u65 {k : Nat} {A : PySem.Around} (r : Room k A) : A.units + 65 < PySem.cLine := by have := r.un; omega
end L2
namespace L2H
open PySem PySem.Spec PyProof.Rows L2
theorem RoomH.units {k : Nat} {A : Around} (r : RoomH k A) : A.units + 64 < cLine := by have := r.un; omega
theorem RoomH.units0 {k : Nat} {A : Around} (r : RoomH k A) : A.units < cLine := by have := r.un; omega
theorem RoomH.u65 {k : Nat} {A : Around} (r : RoomH k A) : A.units + 65 < cLine := by have := r.un; omega
theorem RoomH.u80 {k : Nat} {A : Around} (r : RoomH k A) : A.units + 80 < cLine := by have := r.un; omega
end L2H
namespace DL
open PySem PySem.Spec PyProof.Rows L2 L2H
section
variable {X : Cx} {W : WB} {a C : Addr} {c : Str} {od : Option Addr} {i : Nat}
theorem XCal.of {P : Program} {wd : World} {K : PySem.W.Frag} {mg : Str → Option Value} {base : Heap} {cs : Str → Bool} {x : Str} {st : Stmt} {N ps : List Str} {k n : Nat} {g : DSx} (Df : Dfn K mg x ps st) (S : FnScope N ps (defScope st)) (hn : n = N.length) (h1 : ps.length = 1) (h0 : 0 < n)
    (hb : ∀ (f : Addr) (cdv : Value) (A : Around) (outer : List Env) (s : Shared) (H : Hp) (E : XK) (a : Addr) (c : Str) (C : Addr) (od : Option Addr) (p : Addr × Obj), mg c = some (.ref C) → cs c = true → Xat (cxH (L2N.CX P wd) P wd K mg base N x (defScope st) f cdv A outer s H E p) a C od → RoomH k (A.deeper (PyProof.Rows.envOfC x (defScope st) s.heap.objs.size f cdv)) →
      DSs (cxH (L2N.CX P wd) P wd K mg base N x (defScope st) f cdv A outer s H E p) (WEb (lowX a c od) E) (defBody st) g) : XCal P wd K mg base cs (k + 1) x (runX n g) := by
  obtain ⟨f, fd, F, hmg, hB⟩ := Df
  refine ⟨f, fd, ps, hmg, F.kp, hB, fun a c C od p hp hz hv hC hcs => ?_⟩
  refine fnX_D (funV_of F) S hn h1 h0 fun cdv A outer s H E hot hr => hb f cdv A outer s H E a c C od p hC hcs ⟨?_, p, ?_, hp, hz, hv⟩ hr
  · rw [← hp]; exact hot.1
  · show p ∈ [p]
    simp
end
end DL
namespace DL
open PySem PySem.Spec PyProof.Rows L2 L2H
section
variable {K : PySem.W.Frag} {mg : Str → Option Value} {x y : Str} {A B : Addr}
end
end DL
namespace DL
open PySem PySem.Spec PyProof.Rows L2
@[simp] def keysI (f : DEx) (ρ : En) (st : Store) : R := (f ρ st).bind fun d ρ st => match d with
  | .dlk kvs => .ok (.lst (keysL kvs)) ρ st
  | _ => .bad
theorem di_keys {X : Cx} {W : WB} {tg e : Expr} {f : DEx} (he : DE X W e f) : DI X W tg e (keysI f) := by
  obtain ⟨t, p, r⟩ := he
  refine ⟨_, pi_keys p, fun w Q s q => ?_⟩
  refine r w _ s ?_
  unfold keysI at q
  cases e1 : f w.ρ w.st with
  | ok d ρ st =>
    rw [e1] at q
    cases d with
    | dlk kvs =>
      simp only [R.bind, OkI, D.iter] at q
      intro w1 v h1 h2 h3 A rp
      cases rp with
      | dlk hG rk =>
        rename_i a o vs
        refine ⟨a, o, rfl, .inl ⟨vs, A.s.sub _ _ hG, q w1 _ h1 h2 h3 A ?_ trivial⟩⟩
        refine ⟨_, _, by rw [show (keysL kvs).length = vs.length by simp [keysL, rk.len]]; exact walk_keys, fun w2 F _ => F.s.sub _ _ (F.g _ _ hG), ?_⟩
        rintro i w2 x H' d hd F _ ⟨rfl, k, v, hk, rfl⟩
        unfold keysL at hd
        rw [List.getElem?_map] at hd
        cases ek : kvs[i]? with
        | none => rw [ek] at hd; cases hd
        | some kv =>
          rw [ek] at hd
          cases hd
          obtain ⟨u, hu, ru⟩ := rk.at (k := kv.1) (d := kv.2) ek
          rw [hu] at hk
          cases hk
          exact ⟨w2.G, Aft.refl F.s, rep_kV _⟩
    | _ => exact q.elim
  | exc c ρ st => rw [e1] at q; exact q
  | bad => rw [e1] at q; exact q
section
variable {X : Cx} {W : WB} {o e x : Expr} {f g h : DEx} {apos cpos : Pos}
end
end DL
namespace DL
open PySem PySem.Spec PyProof.Rows L2
section
variable {K : PySem.W.Frag} {mg : MG}
end
end DL
namespace DL
open PySem PySem.Spec PyProof.Rows L2
section
variable {K : PySem.W.Frag} {mg : MG} {G G' : Hp} {ι ι' : List Addr}
end
def Fst (w : Ws) (b : Addr) : Prop := ∃ (l : Nat) (ds : List D), w.st[l]? = some (Cell.lst ds) ∧ w.ι[l]? = some b
theorem Fst.at {K : PySem.W.Frag} {mg : MG} {w : Ws} {b : Addr} (s : Sts K mg w) (h : Fst w b) : w.G b = none ∧ ∃ vs, w.H b = some (HO.lst vs) := by
  obtain ⟨l, ds, h1, h2⟩ := h
  obtain ⟨g0, vs, e1, _, _⟩ := s.cel l _ b h1 h2
  exact ⟨g0, vs, e1⟩
end DL
namespace DL
open PySem PySem.Spec PyProof.Rows L2
def kP : Key → PyData
  | .inl i => .int i
  | .inr s => .str s
inductive DpK (K : PySem.W.Frag) (H : Hp) : List (Key × V) → List (PyData × PyData) → Prop
  | nil : DpK K H [] []
  | cons {k : Key} {v : V} {d : PyData} {vs : List (Key × V)} {ds : List (PyData × PyData)} : Dp K H v d → DpK K H vs ds → DpK K H ((k, v) :: vs) ((kP k, d) :: ds)
end DL
set_option maxHeartbeats 2000000
namespace DL
open PySem PySem.Spec PyProof.Rows L2 PySem.Froz
section
variable {X : Cx} {c d : Expr} {t u : TT}
end
section
variable {X : Cx} {pins : List (Addr × Obj)} {σ : L2.St} {H : Hp} {s : Shared}
end
section
variable {X : Cx}
end
section
variable {K : PySem.W.Frag} {mg : MG} {W : WB}
end
section
variable {X : Cx} {W : WB} {elt tg iter : Expr} {ifs : List Expr} {scope : Scope} {own : List (PySem.Str × Nat)} {p pos cpos : Pos} {is : List Nat} {fi : DEx} {g : DGx} {c f : DEx}
end
section
variable {X : Cx} {W : WB} {a b : Expr} {f g : DEx} {pos : Pos}
end
theorem RepV.allocd {K : PySem.W.Frag} {mg : MG} {w : Ws} {v : V} {d : D} (s : Sts K mg w) {p : Addr} {o : HO} (hp : w.H p = none) (h : RepV K mg w v d) : RepV K mg { w with G := upd w.G p o, H := upd w.H p o } v d := by
  have A := Aft.alloc (o := o) s hp
  have k : ∀ a u, w.H a = some u → upd w.H p o a = some u := fun a u e => by rw [upd_ne (fun z => by rw [z, hp] at e; cases e)]; exact e
  rcases h with h | ⟨a, vs, ds, e1, e2, h1, h2, h3⟩ | ⟨a, vs, ds, e1, e2, h1, h2⟩
  · exact .inl (h.mono A.g A.i)
  · exact .inr (.inl ⟨a, vs, ds, e1, e2, k _ _ h1, h2, h3.mono A.g A.i⟩)
  · exact .inr (.inr ⟨a, vs, ds, e1, e2, k _ _ h1, h2.mono A.g A.i⟩)
section
variable {X : Cx} {W : WB} {e : Expr} {es : List Expr} {f : DEx} {p pos tpos : Pos} {Ts : List String}
theorem de_isiTV {k : Nat} (hg : Gl X "isinstance") (hm : X.mg "isinstance" = none) (ht : Tys X es Ts) (ha : DV X W e f)
    (he : starEach [e, .Tuple es k tpos] X.env = (false, eval e X.env) :: starEach [.Tuple es k tpos] X.env := by rfl) (he2 : starEach [.Tuple es k tpos] X.env = (false, eval (.Tuple es k tpos) X.env) :: starEach [] X.env := by rfl) (hpl : (backTo pos (starEach [.Tuple es k tpos] X.env)).any (·.1) = false := by rfl)
    (hl : Ts.length ≤ sizeLine := by decide) : DE X W (.Call (.Name "isinstance" p) [e, .Tuple es k tpos] [] pos) (lift1 (pIsiT Ts) f) := by
  obtain ⟨te, pe, re⟩ := ha
  refine ⟨_, pe_callB call_isiT hg hm (by decide +kernel) (pa_cons pe (pa_cons (pe_tup ht) pa_nil he2) he) (by decide) (by decide) he hpl, fun w Q s q => ?_⟩
  refine re.bindR (Q := Q) s q fun w1 v d s1 e1 a1 r1 q1 => ?_
  refine ⟨by simpa using hl, fun l hp => ?_⟩
  have A := Aft.alloc (o := .tup (Ts.map V.ty)) s1 hp
  cases z : pIsiT Ts d with
  | none => simp only [z] at q1; exact q1.elim
  | some y =>
    simp only [z] at q1
    unfold pIsiT at z
    split at z
    · rename_i n hn
      obtain ⟨b, hb, rfl⟩ := Option.map_eq_some_iff.mp z
      refine ⟨v, l, Ts.map V.ty, .type n, Ts.map .type, b, rfl, upd_same, paired_ty Ts, RepV.ty A.s (RepV.allocd s1 hp r1) hn, isiAny_kit hb, ?_⟩
      exact q1 { w1 with G := upd w1.G l (.tup (Ts.map V.ty)), H := upd w1.H l (.tup (Ts.map V.ty)) } _ rfl rfl rfl A (.bl _)
    · cases z
end
end DL
namespace PySem.SeqAt
open AutoSeq1 (wpAny_loadPart')
open MeetsSeq MeetsSeq2 MeetsSeq3 SeqRoads2
end PySem.SeqAt
namespace DL
open PySem PySem.Spec PyProof.Rows L2 PySem.W
end DL
namespace DL
open PySem PySem.Spec PyProof.Rows L2 PySem.W PySem.Calls
section
variable {X : Cx} {W : WB} {e tg : Expr} {es : List Expr} {f : DEx} {g : DGx} {h : List D → En → Option En} {pos p : Pos}
end
end DL
namespace DL
open PySem PySem.Spec PyProof.Rows L2
section
variable {X : Cx} {W : WB} {o e : Expr} {f g : DEx} {apos pos : Pos}
end
end DL
namespace DL
open PySem L2
section
variable {X : Cx} {W : WB}
theorem Cal.mono {P : Program} {w : World} {K : PySem.W.Frag} {mg : Str → Option Value} {base : Heap} {k k' n : Nat} {x : Str} {den : Den} (C : Cal P w K mg base k x n den) (h : k ≤ k') : Cal P w K mg base k' x n den := by
  obtain ⟨f, fd, ps, F, r⟩ := C
  exact ⟨f, fd, ps, F.mono h, r⟩
end
end DL
namespace DL
open PySem PySem.Spec PyProof.Rows L2
section
variable {X : Cx} {x : Str} {ents : List (Str × Option D)}
end
section
variable {X : Cx} {W : WB} {x : Str} {ents : List (Str × Option D)} {a e : Expr} {f g : DEx} {p pos : Pos}
end
end DL
namespace DL
open PySem PySem.Spec PyProof.Rows L2
section
variable {X : Cx} {W : WB}
end
end DL
namespace DL
open PySem PySem.Spec PyProof.Rows L2
@[simp] def pStrI : D → Option D
  | .int i => if i.natAbs.log2 < 1920 then some (.str (Str.ofString (toString i))) else none
  | _ => none
section
variable {K : PySem.W.Frag} {mg : MG}
theorem ansC_strI : AnsC K mg (fun xs H Q => ∃ i, xs = [.int i] ∧ i.natAbs.log2 < 1920 ∧ Q (.str (Str.ofString (toString i))) H) pStrI := fun w x d z Q s rx q k => by
  unfold pStrI at q
  split at q
  · split at q
    · rename_i h
      cases q
      exact ⟨_, by rw [rx.int_inv], h, k _ fun _ _ => .str _⟩
    · cases q
  · cases q
end
end DL
namespace DL
open PySem PySem.Spec PyProof.Rows L2 NdefX LamX LiI
section
variable {X : Cx} {e : Expr} {te : TE} {p apos cpos pos lpos kpos : Pos}
end
end DL
namespace DL
open PySem PySem.Spec PyProof.Rows PySem.SeqAt L2
section
variable {X : Cx} {W : WB} {a b : Expr} {f g : DEx} {pos : Pos}
inductive DJ (X : Cx) (W : WB) : List Expr → List DEx → Prop where
  | nil : DJ X W [] []
  | cons {e : Expr} {f : DEx} {es : List Expr} {fs : List DEx} (h : DE X W e f) (r : DJ X W es fs) : DJ X W (e :: es) (f :: fs)
end
section
variable {X : Cx} {CX : CXT} {k : Nat} {f C : Addr} {fd : FuncData} {ps : List Str} {sp : Sp} {E : XK}
end
section
variable {X : Cx} {E : XK} {b : Low} {k k' : Nat} {den : Den} {c : Str} {e : Expr} {g : DEx} {p pos : Pos}
end
end DL
set_option maxHeartbeats 400000
namespace DL
open PySem PySem.Spec PyProof.Rows L2
section
variable {X : Cx} {e ke : Expr} {te : TE} {p pos kpos : Pos}
end
section
variable {X : Cx} {W : WB} {e : Expr} {f : DEx} {p np pos kpos : Pos}
end
end DL
set_option maxHeartbeats 400000
namespace DL
open PySem PySem.Spec PyProof.Rows L2 NdefX LamX
section
variable {X : Cx} {e : Expr} {te : TE} {p pos lpos kpos : Pos}
end
end DL
namespace DL
open PySem PySem.Spec PyProof.Rows L2
def rCatT0 (K : PySem.W.Frag) : R2 := fun x y H Q => ∃ a b ys, x = .ref a ∧ y = .ref b ∧ SqT K H a [] ∧ SqT K H b ys ∧ Q (.ref b) H
theorem op_catT0 {X : Cx} : OpR X (binaryOp .Add) (rCatT0 X.K) := by
  intro pins s σ H x y v u Q I rx ry h
  obtain ⟨a, b, ys, rfl, rfl, h1, h2, q⟩ := h
  obtain rfl : v = Value.ref a := rx
  obtain rfl : u = Value.ref b := ry
  obtain ⟨i1, v1, t1, _⟩ := I.tuple h1
  obtain ⟨i2, v2, t2, z2⟩ := I.tuple h2
  cases v1
  have l2 : i2.length ≤ sizeLine := by rw [← Paired.length v2]; exact z2
  have e0 : ∀ (b : Addr) (o : Obj), ({ s.heap with objs := #[] } : Heap).get? b = some o → s.heap.get? b = some o := fun b o z => by
    simp [Heap.get?] at z
  refine PyProof.Rows.add_tuples (h₀ := { s.heap with objs := #[] }) (L := mainGlobals) (m := X.mg) (news := []) ⟨I.mod.glob.keeps I.bk, e0, Nat.zero_le _⟩ (fun p hp => by simp at hp) t1 t2 (fun _ => ⟨.ref b, H, I, rfl, q⟩) (fun n => absurd rfl n) (fun n => absurd rfl n) (by simpa using l2)
def addKT : D → D → Option D
  | .tup xs, .tup ys => if xs.length + ys.length ≤ sizeLine then some (.tup (xs ++ ys)) else none
  | _, _ => none
def pCatT0 : D → D → Option D
  | .tup xs, .tup ys => if xs = [] then some (.tup ys) else none
  | _, _ => none
section
variable {K : PySem.W.Frag} {mg : MG}
theorem ansF_catT0 : AnsF K mg (rCatT0 K) pCatT0 := fun w x y d e z Q s rx ry q k => by
  unfold pCatT0 at q
  split at q
  · split at q
    · rename_i hz
      subst hz
      cases q
      cases rx with
      | tup h1 l1 s1 =>
        cases ry with
        | tup h2 l2 s2 =>
          cases s1
          exact ⟨_, _, _, rfl, rfl, SqT.mono s.sub h1, SqT.mono s.sub h2, k w _ rfl rfl rfl (Aft.refl s) (.tup h2 l2 s2)⟩
    · cases q
  · cases q
end
theorem de_addT {X : Cx} {W : WB} {a b : Expr} {f g : DEx} {pos : Pos} (ha : DE X W a f) (hb : DE X W b g) : DE X W (.BinOp a .Add b pos) (lift2 addKT f g) := by
  refine de_opF (opR_or op_catT op_catT0) (AnsF.or fun d e z q => ?_) ha hb
  unfold addKT at q
  split at q
  · rename_i xs ys
    by_cases hx : xs = []
    · subst hx
      refine ⟨pCatT0, ?_, .inr ansF_catT0⟩
      split at q
      · exact q
      · cases q
    · refine ⟨pCatT, ?_, .inl ansF_catT⟩
      unfold pCatT
      split at q
      · rename_i hz
        show (if xs ≠ [] ∧ xs.length + ys.length ≤ sizeLine then some (D.tup (xs ++ ys)) else none) = _
        rw [if_pos (And.intro hx hz)]; exact q
      · cases q
  · cases q
@[simp] theorem addKT_tup {xs ys : List D} (h : xs.length + ys.length ≤ sizeLine) : addKT (.tup xs) (.tup ys) = some (.tup (xs ++ ys)) := if_pos h
end DL
namespace DL
open PySem PySem.Spec PyProof.Rows L2
end DL
namespace BK
section
variable {τ σ : Type} [DecidableEq τ] [DecidableEq σ] [BK σ]
def first (p : Run τ σ) : σ := p.2.headD emp
end
end BK
namespace BK
section
variable {τ σ : Type} [DecidableEq τ] [DecidableEq σ] [BK σ]
end
end BK
namespace DL
open PySem L2
end DL
namespace DL
open PySem L2
section
variable {X : Cx} {W : WB} {e1 e2 j k : Expr} {f : DEx} {p q : DPx} {x : Str} {np np2 pos tpos tpos2 pt pv2 : Pos} {i kt kv : Nat}
end
end DL
set_option maxHeartbeats 2000000
namespace DL
open PySem L2
section
variable {K : PySem.W.Frag} {mg : MG} {W : WB}
end
section
variable {X : Cx} {W : WB} {elt tg iter tg1 iter1 : Expr} {ifs ifs1 : List Expr} {scope : Scope} {own : List (Str × Nat)} {is is1 vs1 : List Nat} {pos : Pos} {fi : DEx} {g : DGx} {c fi1 : DEx} {g1 : DGx} {c1 f : DEx}
end
end DL
namespace DL
open PySem PySem.Spec PyProof.Rows L2
@[simp] def rvsD (f : DEx) (ρ : En) (st : Store) : R := (f ρ st).bind fun d ρ st => match lkD st d with
  | .lst ds => .ok (.lst ds.reverse) ρ st
  | _ => .bad
theorem rvsD_isL {f : DEx} : IsL (rvsD f) := fun ρ st d ρ' st' q => by
  unfold rvsD at q
  cases e1 : f ρ st with
  | ok d1 ρ1 st1 =>
    rw [e1] at q
    simp only [R.bind] at q
    split at q
    · cases q; exact ⟨_, rfl⟩
    · cases q
  | exc c ρ1 st1 => rw [e1] at q; cases q
  | bad => rw [e1] at q; cases q
theorem do_rvs {X : Cx} {W : WB} {e : Expr} {f : DEx} {k : Nat} {p1 p2 p3 pos : Pos} (he : DE X W e f) : DO X W (.Subscript e (.Slice none none (some (.UnaryOp .USub (.Constant (.int 1) k p1) p2)) p3) pos) (rvsD f) := by
  obtain ⟨te, pe, re⟩ := he
  refine ⟨⟨_, pe_revL pe, fun w Q s q => ?_⟩, rvsD_isL⟩
  refine re.bind (P := OkO X.K (MGx X W.b) W w Q) s q (fun _ _ _ z => z) (fun z => z) fun w1 v d e1 a1 r1 q1 => ?_
  have r3 := lk_repV a1.s r1
  cases z : lkD w1.st d with
  | lst ds =>
    simp only [z] at q1
    rw [z] at r3
    obtain ⟨a, vs, rfl, hs, hl, rs⟩ := r3.lst_inv a1.s
    exact ⟨_, _, rfl, SqL.of hs, fun p hp => OkO.mk a1 e1 hp (by rw [List.length_reverse]; exact hl) rs.reverse q1⟩
  | _ => simp only [z] at q1; exact q1.elim
end DL
namespace DL
open PySem PySem.Spec PyProof.Rows L2
section
variable {X : Cx} {W : WB} {e : Expr} {f : DEx} {p pos : Pos}
end
end DL
namespace DL
open PySem PySem.Spec PySem.W PyProof.Rows L2
section
variable {X : Cx} {W : WB} {e : Expr} {f : DEx} {p pos : Pos} {best : PyData → List PyData → PyData}
end
end DL
namespace DL
open PySem PySem.Spec PyProof.Rows L2
end DL
set_option maxHeartbeats 2000000
namespace L2H
open PySem PySem.Spec PyProof.Rows L2
section
variable {X : Cx} {a C : Addr} {d : Option Addr}
end
end L2H
namespace DL
open PySem PySem.Spec PyProof.Rows L2 L2H
section
variable {X : Cx} {W : WB} {a C : Addr} {c : Str} {od : Option Addr} {i : Nat} {x : Str}
end
section
variable {K : PySem.W.Frag} {mg : Str → Option Value} {x : Str} {A : Addr}
end
end DL
namespace DL
open PySem PySem.Spec PyProof.Rows L2
end DL
namespace DL
open PySem PySem.Spec PyProof.Rows L2 PySem.W PySem.Calls
end DL
namespace DL
open PySem PySem.Spec PyProof.Rows L2
end DL
namespace DL
open PySem PySem.Spec PyProof.Rows L2 PySem.W PySem.Calls
end DL
namespace PySem.SeqAt
open AutoSeq1 (wpAny_loadPart')
open MeetsSeq MeetsSeq2 MeetsSeq3
def IsDct (h : Heap) (l : Addr) : Prop := ∃ es ep, h.get? l = some { cls := .type "dict", dict := none, data := .dict es ep, slots := #[] }
section
variable (l : Addr) (es : Array DictEntry) (ep : Nat)
abbrev dObj (es : Array DictEntry) (ep : Nat) : Obj := { cls := .type "dict", dict := none, data := .dict es ep, slots := #[] }
theorem dict_eq_declines_none : Meets (Builtin.«dict.__eq__» ⟨[.ref l, .none], []⟩) (fun _ R s => s.heap.get? l = some (dObj es ep) ∧ R (.ok (.ret .notImplemented)) s) :=
  .of_wp fun prog w A R s h => by obtain ⟨hp, g, d, tk, os⟩ := s; obtain ⟨hl, h⟩ := h; have f1 := F.sub_NoneType_dict; wp_walk using wpAny_loadPart' hl; exact ⟨_, rfl, h⟩
theorem dict_eq_declines_bool (b : Bool) : Meets (Builtin.«dict.__eq__» ⟨[.ref l, .bool b], []⟩) (fun _ R s => s.heap.get? l = some (dObj es ep) ∧ R (.ok (.ret .notImplemented)) s) :=
  .of_wp fun prog w A R s h => by obtain ⟨hp, g, d, tk, os⟩ := s; obtain ⟨hl, h⟩ := h; have f1 := F.sub_bool_dict; wp_walk using wpAny_loadPart' hl; exact ⟨_, rfl, h⟩
theorem dict_eq_declines_int (b : Int) (u : Tok) : Meets (Builtin.«dict.__eq__» ⟨[.ref l, .int b u], []⟩) (fun _ R s => s.heap.get? l = some (dObj es ep) ∧ R (.ok (.ret .notImplemented)) s) :=
  .of_wp fun prog w A R s h => by obtain ⟨hp, g, d, tk, os⟩ := s; obtain ⟨hl, h⟩ := h; have f1 := F.sub_int_dict; wp_walk using wpAny_loadPart' hl; exact ⟨_, rfl, h⟩
theorem dict_eq_declines_str (b : Str) (u : Tok) : Meets (Builtin.«dict.__eq__» ⟨[.ref l, .str b u], []⟩) (fun _ R s => s.heap.get? l = some (dObj es ep) ∧ R (.ok (.ret .notImplemented)) s) :=
  .of_wp fun prog w A R s h => by obtain ⟨hp, g, d, tk, os⟩ := s; obtain ⟨hl, h⟩ := h; have f1 := F.sub_str_dict; wp_walk using wpAny_loadPart' hl; exact ⟨_, rfl, h⟩
theorem bool_eq_declines_dict (b : Bool) : Meets (Builtin.«int.__eq__» ⟨[.bool b, .ref l], []⟩) (fun _ R s => s.heap.get? l = some (dObj es ep) ∧ R (.ok (.ret .notImplemented)) s) :=
  .of_wp fun prog w A R s h => by obtain ⟨hp, g, d, tk, os⟩ := s; obtain ⟨hl, h⟩ := h; wp_walk using wpAny_loadPart' hl, wpAny_load hl; exact ⟨_, rfl, h⟩
theorem int_eq_declines_dict (b : Int) (u : Tok) : Meets (Builtin.«int.__eq__» ⟨[.int b u, .ref l], []⟩) (fun _ R s => s.heap.get? l = some (dObj es ep) ∧ R (.ok (.ret .notImplemented)) s) :=
  .of_wp fun prog w A R s h => by obtain ⟨hp, g, d, tk, os⟩ := s; obtain ⟨hl, h⟩ := h; wp_walk using wpAny_loadPart' hl, wpAny_load hl; exact ⟨_, rfl, h⟩
theorem str_eq_declines_dict (b : Str) (u : Tok) : Meets (Builtin.«str.__eq__» ⟨[.str b u, .ref l], []⟩) (fun _ R s => s.heap.get? l = some (dObj es ep) ∧ R (.ok (.ret .notImplemented)) s) :=
  .of_wp fun prog w A R s h => by obtain ⟨hp, g, d, tk, os⟩ := s; obtain ⟨hl, h⟩ := h; wp_walk using wpAny_loadPart' hl, wpAny_load hl; exact ⟨_, rfl, h⟩
theorem dict_ne_declines_none : Meets (Builtin.«dict.__ne__» ⟨[.ref l, .none], []⟩) (fun _ R s => s.heap.get? l = some (dObj es ep) ∧ R (.ok (.ret .notImplemented)) s) :=
  .of_wp fun prog w A R s h => by obtain ⟨hp, g, d, tk, os⟩ := s; obtain ⟨hl, h⟩ := h; have f1 := F.sub_NoneType_dict; wp_walk using wpAny_loadPart' hl; exact ⟨_, rfl, h⟩
theorem dict_ne_declines_bool (b : Bool) : Meets (Builtin.«dict.__ne__» ⟨[.ref l, .bool b], []⟩) (fun _ R s => s.heap.get? l = some (dObj es ep) ∧ R (.ok (.ret .notImplemented)) s) :=
  .of_wp fun prog w A R s h => by obtain ⟨hp, g, d, tk, os⟩ := s; obtain ⟨hl, h⟩ := h; have f1 := F.sub_bool_dict; wp_walk using wpAny_loadPart' hl; exact ⟨_, rfl, h⟩
theorem dict_ne_declines_int (b : Int) (u : Tok) : Meets (Builtin.«dict.__ne__» ⟨[.ref l, .int b u], []⟩) (fun _ R s => s.heap.get? l = some (dObj es ep) ∧ R (.ok (.ret .notImplemented)) s) :=
  .of_wp fun prog w A R s h => by obtain ⟨hp, g, d, tk, os⟩ := s; obtain ⟨hl, h⟩ := h; have f1 := F.sub_int_dict; wp_walk using wpAny_loadPart' hl; exact ⟨_, rfl, h⟩
theorem dict_ne_declines_str (b : Str) (u : Tok) : Meets (Builtin.«dict.__ne__» ⟨[.ref l, .str b u], []⟩) (fun _ R s => s.heap.get? l = some (dObj es ep) ∧ R (.ok (.ret .notImplemented)) s) :=
  .of_wp fun prog w A R s h => by obtain ⟨hp, g, d, tk, os⟩ := s; obtain ⟨hl, h⟩ := h; have f1 := F.sub_str_dict; wp_walk using wpAny_loadPart' hl; exact ⟨_, rfl, h⟩
theorem bool_ne_declines_dict (b : Bool) : Meets (Builtin.«int.__ne__» ⟨[.bool b, .ref l], []⟩) (fun _ R s => s.heap.get? l = some (dObj es ep) ∧ R (.ok (.ret .notImplemented)) s) :=
  .of_wp fun prog w A R s h => by obtain ⟨hp, g, d, tk, os⟩ := s; obtain ⟨hl, h⟩ := h; wp_walk using wpAny_loadPart' hl, wpAny_load hl; exact ⟨_, rfl, h⟩
theorem int_ne_declines_dict (b : Int) (u : Tok) : Meets (Builtin.«int.__ne__» ⟨[.int b u, .ref l], []⟩) (fun _ R s => s.heap.get? l = some (dObj es ep) ∧ R (.ok (.ret .notImplemented)) s) :=
  .of_wp fun prog w A R s h => by obtain ⟨hp, g, d, tk, os⟩ := s; obtain ⟨hl, h⟩ := h; wp_walk using wpAny_loadPart' hl, wpAny_load hl; exact ⟨_, rfl, h⟩
theorem str_ne_declines_dict (b : Str) (u : Tok) : Meets (Builtin.«str.__ne__» ⟨[.str b u, .ref l], []⟩) (fun _ R s => s.heap.get? l = some (dObj es ep) ∧ R (.ok (.ret .notImplemented)) s) :=
  .of_wp fun prog w A R s h => by obtain ⟨hp, g, d, tk, os⟩ := s; obtain ⟨hl, h⟩ := h; wp_walk using wpAny_loadPart' hl, wpAny_load hl; exact ⟨_, rfl, h⟩
end
section
variable {A : Around} {s : Shared} {l : Addr}
theorem RcAt.dict_none (hl : IsDct s.heap l) (hu : A.units < cLine) : RcAt A s (.ref l) .none false := fun prog w E Q h => by
  obtain ⟨es, ep, ho⟩ := hl
  exact rc_eq_decline_or (k := false) ⟨_, ho, rfl⟩ rfl (by decide) F.sub_NoneType_dict F.slot_dict_eq F.slot_NoneType_eq_refl
    (fun _ hq => call_meets F.slot_dict_eq ⟨_, ho, rfl⟩ F.entry_dict_eq (F.args_dict_eq_2 _ _) (dict_eq_declines_none l es ep) ⟨ho, hq⟩)
    (fun _ hq => call_gives F.slot_NoneType_eq_refl rfl F.entry_NoneType_eq (F.args_NoneType_eq_2 _ _) (NoneType___eq___none_ref_0 l) hq)
    (fun _ hq => wpAny_of_eq (rfl : isSame (.ref l) .none = pure false) hq) (.inr hu) h
theorem RcAt.dict_bool (b : Bool) (hl : IsDct s.heap l) (hu : A.units < cLine) : RcAt A s (.ref l) (.bool b) false := fun prog w E Q h => by
  obtain ⟨es, ep, ho⟩ := hl
  exact rc_eq_decline_or (k := false) ⟨_, ho, rfl⟩ rfl (by decide) F.sub_bool_dict F.slot_dict_eq F.slot_bool_eq_refl
    (fun _ hq => call_meets F.slot_dict_eq ⟨_, ho, rfl⟩ F.entry_dict_eq (F.args_dict_eq_2 _ _) (dict_eq_declines_bool l es ep b) ⟨ho, hq⟩)
    (fun _ hq => call_meets F.slot_bool_eq_refl rfl F.entry_int_eq (F.args_int_eq_2 _ _) (bool_eq_declines_dict l es ep b) ⟨ho, hq⟩)
    (fun _ hq => wpAny_of_eq (rfl : isSame (.ref l) (.bool b) = pure false) hq) (.inr hu) h
theorem RcAt.dict_int (b : Int) (u : Tok) (hl : IsDct s.heap l) (hu : A.units < cLine) : RcAt A s (.ref l) (.int b u) false := fun prog w E Q h => by
  obtain ⟨es, ep, ho⟩ := hl
  exact rc_eq_decline_or (k := false) ⟨_, ho, rfl⟩ (typeIs_int s b u) (by decide) F.sub_int_dict F.slot_dict_eq F.slot_int_eq_refl
    (fun _ hq => call_meets F.slot_dict_eq ⟨_, ho, rfl⟩ F.entry_dict_eq (F.args_dict_eq_2 _ _) (dict_eq_declines_int l es ep b u) ⟨ho, hq⟩)
    (fun _ hq => call_meets F.slot_int_eq_refl (typeIs_int s b u) F.entry_int_eq (F.args_int_eq_2 _ _) (int_eq_declines_dict l es ep b u) ⟨ho, hq⟩)
    (fun _ hq => wpAny_of_eq (rfl : isSame (.ref l) (.int b u) = pure false) hq) (.inr hu) h
theorem RcAt.dict_str (b : Str) (u : Tok) (hl : IsDct s.heap l) (hu : A.units < cLine) : RcAt A s (.ref l) (.str b u) false := fun prog w E Q h => by
  obtain ⟨es, ep, ho⟩ := hl
  exact rc_eq_decline_or (k := false) ⟨_, ho, rfl⟩ (typeIs_str s b u) (by decide) F.sub_str_dict F.slot_dict_eq F.slot_str_eq_refl
    (fun _ hq => call_meets F.slot_dict_eq ⟨_, ho, rfl⟩ F.entry_dict_eq (F.args_dict_eq_2 _ _) (dict_eq_declines_str l es ep b u) ⟨ho, hq⟩)
    (fun _ hq => call_meets F.slot_str_eq_refl (typeIs_str s b u) F.entry_str_eq (F.args_str_eq_2 _ _) (str_eq_declines_dict l es ep b u) ⟨ho, hq⟩)
    (fun _ hq => wpAny_of_eq (rfl : isSame (.ref l) (.str b u) = pure false) hq) (.inr hu) h
theorem EqAt.dict_none (hl : IsDct s.heap l) (hu : A.units < cLine) : EqAt A s (.ref l) .none false := fun prog w E Q h => by
  unfold eqBool
  refine wpAny_holding ?_
  refine wpAny_ite_split (fun hab => absurd (eq_of_beq hab) nofun) (fun _ => ?_)
  exact wpAny_bind (RcAt.dict_none hl hu prog w E _ (wpAny_truthy_bool h))
theorem EqAt.dict_bool (b : Bool) (hl : IsDct s.heap l) (hu : A.units < cLine) : EqAt A s (.ref l) (.bool b) false := fun prog w E Q h => by
  unfold eqBool
  refine wpAny_holding ?_
  refine wpAny_ite_split (fun hab => absurd (eq_of_beq hab) nofun) (fun _ => ?_)
  exact wpAny_bind (RcAt.dict_bool b hl hu prog w E _ (wpAny_truthy_bool h))
theorem EqAt.dict_int (b : Int) (u : Tok) (hl : IsDct s.heap l) (hu : A.units < cLine) : EqAt A s (.ref l) (.int b u) false := fun prog w E Q h => by
  unfold eqBool
  refine wpAny_holding ?_
  refine wpAny_ite_split (fun hab => absurd (eq_of_beq hab) nofun) (fun _ => ?_)
  exact wpAny_bind (RcAt.dict_int b u hl hu prog w E _ (wpAny_truthy_bool h))
theorem EqAt.dict_str (b : Str) (u : Tok) (hl : IsDct s.heap l) (hu : A.units < cLine) : EqAt A s (.ref l) (.str b u) false := fun prog w E Q h => by
  unfold eqBool
  refine wpAny_holding ?_
  refine wpAny_ite_split (fun hab => absurd (eq_of_beq hab) nofun) (fun _ => ?_)
  exact wpAny_bind (RcAt.dict_str b u hl hu prog w E _ (wpAny_truthy_bool h))
theorem RcNeAt.dict_none (hl : IsDct s.heap l) (hu : A.units < cLine) : RcNeAt A s (.ref l) .none true := fun prog w E Q h => by
  obtain ⟨es, ep, ho⟩ := hl
  exact rc_ne_decline_or (k := false) ⟨_, ho, rfl⟩ rfl (by decide) F.sub_NoneType_dict F.slot_dict_ne F.slot_NoneType_ne_refl
    (fun _ hq => call_meets F.slot_dict_ne ⟨_, ho, rfl⟩ F.entry_dict_ne (F.args_dict_ne_2 _ _) (dict_ne_declines_none l es ep) ⟨ho, hq⟩)
    (fun _ hq => call_gives F.slot_NoneType_ne_refl rfl F.entry_NoneType_ne (F.args_NoneType_ne_2 _ _) (NoneType___ne___none_ref_0 l) hq)
    (fun _ hq => wpAny_of_eq (rfl : isSame (.ref l) .none = pure false) hq) (.inr hu) h
theorem RcNeAt.dict_bool (b : Bool) (hl : IsDct s.heap l) (hu : A.units < cLine) : RcNeAt A s (.ref l) (.bool b) true := fun prog w E Q h => by
  obtain ⟨es, ep, ho⟩ := hl
  exact rc_ne_decline_or (k := false) ⟨_, ho, rfl⟩ rfl (by decide) F.sub_bool_dict F.slot_dict_ne F.slot_bool_ne_refl
    (fun _ hq => call_meets F.slot_dict_ne ⟨_, ho, rfl⟩ F.entry_dict_ne (F.args_dict_ne_2 _ _) (dict_ne_declines_bool l es ep b) ⟨ho, hq⟩)
    (fun _ hq => call_meets F.slot_bool_ne_refl rfl F.entry_int_ne (F.args_int_ne_2 _ _) (bool_ne_declines_dict l es ep b) ⟨ho, hq⟩)
    (fun _ hq => wpAny_of_eq (rfl : isSame (.ref l) (.bool b) = pure false) hq) (.inr hu) h
theorem RcNeAt.dict_int (b : Int) (u : Tok) (hl : IsDct s.heap l) (hu : A.units < cLine) : RcNeAt A s (.ref l) (.int b u) true := fun prog w E Q h => by
  obtain ⟨es, ep, ho⟩ := hl
  exact rc_ne_decline_or (k := false) ⟨_, ho, rfl⟩ (typeIs_int s b u) (by decide) F.sub_int_dict F.slot_dict_ne F.slot_int_ne_refl
    (fun _ hq => call_meets F.slot_dict_ne ⟨_, ho, rfl⟩ F.entry_dict_ne (F.args_dict_ne_2 _ _) (dict_ne_declines_int l es ep b u) ⟨ho, hq⟩)
    (fun _ hq => call_meets F.slot_int_ne_refl (typeIs_int s b u) F.entry_int_ne (F.args_int_ne_2 _ _) (int_ne_declines_dict l es ep b u) ⟨ho, hq⟩)
    (fun _ hq => wpAny_of_eq (rfl : isSame (.ref l) (.int b u) = pure false) hq) (.inr hu) h
theorem RcNeAt.dict_str (b : Str) (u : Tok) (hl : IsDct s.heap l) (hu : A.units < cLine) : RcNeAt A s (.ref l) (.str b u) true := fun prog w E Q h => by
  obtain ⟨es, ep, ho⟩ := hl
  exact rc_ne_decline_or (k := false) ⟨_, ho, rfl⟩ (typeIs_str s b u) (by decide) F.sub_str_dict F.slot_dict_ne F.slot_str_ne_refl
    (fun _ hq => call_meets F.slot_dict_ne ⟨_, ho, rfl⟩ F.entry_dict_ne (F.args_dict_ne_2 _ _) (dict_ne_declines_str l es ep b u) ⟨ho, hq⟩)
    (fun _ hq => call_meets F.slot_str_ne_refl (typeIs_str s b u) F.entry_str_ne (F.args_str_ne_2 _ _) (str_ne_declines_dict l es ep b u) ⟨ho, hq⟩)
    (fun _ hq => wpAny_of_eq (rfl : isSame (.ref l) (.str b u) = pure false) hq) (.inr hu) h
theorem RcAt.str_dict (b : Str) (u : Tok) (hl : IsDct s.heap l) (hu : A.units < cLine) : RcAt A s (.str b u) (.ref l) false := fun prog w E Q h => by
  obtain ⟨es, ep, ho⟩ := hl
  exact rc_eq_decline_or (k := false) (typeIs_str s b u) ⟨_, ho, rfl⟩ (by decide) F.sub_dict_str F.slot_str_eq F.slot_dict_eq_refl
    (fun _ hq => call_meets F.slot_str_eq (typeIs_str s b u) F.entry_str_eq (F.args_str_eq_2 _ _) (str_eq_declines_dict l es ep b u) ⟨ho, hq⟩)
    (fun _ hq => call_meets F.slot_dict_eq_refl ⟨_, ho, rfl⟩ F.entry_dict_eq (F.args_dict_eq_2 _ _) (dict_eq_declines_str l es ep b u) ⟨ho, hq⟩)
    (fun _ hq => wpAny_of_eq (rfl : isSame (.str b u) (.ref l) = pure false) hq) (.inr hu) h
theorem EqAt.str_dict (b : Str) (u : Tok) (hl : IsDct s.heap l) (hu : A.units < cLine) : EqAt A s (.str b u) (.ref l) false := fun prog w E Q h => by
  unfold eqBool
  refine wpAny_holding ?_
  refine wpAny_ite_split (fun hab => absurd (eq_of_beq hab) nofun) (fun _ => ?_)
  exact wpAny_bind (RcAt.str_dict b u hl hu prog w E _ (wpAny_truthy_bool h))
end
end PySem.SeqAt
namespace DL
open PySem PySem.Spec PyProof.Rows L2
section
variable {X : Cx} {W : WB} {e j : Expr} {f g : DEx} {x : Str} {np pos tpos : Pos} {i : Nat}
end
end DL
namespace DL
open PySem PySem.Spec PyProof.Rows L2 SeqAt
def CtV (K : PySem.W.Frag) (H : Hp) (x : V) : Prop := ∃ a, x = .ref a ∧ ((∃ xs, SqL K H a xs) ∨ (∃ xs, SqT K H a xs) ∨ ∃ kvs, Rd H a (.dK kvs))
def CtA (h : Heap) (a : Addr) : Prop := (∃ vs, h.IsList a vs) ∨ (∃ vs, h.IsTuple a vs) ∨ IsDct h a
section
variable {X : Cx} {pins : List (Addr × Obj)} {σ : L2.St} {H : Hp} {s : Shared}
theorem CtV.at (I : Inv X pins σ H s) {x : V} {v : Value} (c : CtV X.K H x) (r : RelV x v) : ∃ a, v = .ref a ∧ CtA s.heap a := by
  obtain ⟨a, rfl, c⟩ := c
  cases (show v = Value.ref a from r)
  refine ⟨a, rfl, ?_⟩
  rcases c with ⟨xs, h⟩ | ⟨xs, h⟩ | ⟨kvs, h⟩
  · obtain ⟨its, _, hl, _⟩ := I.list h
    exact .inl ⟨_, hl.isList⟩
  · obtain ⟨its, _, hl, _⟩ := I.tuple h
    exact .inr (.inl ⟨_, hl⟩)
  · obtain ⟨_, _, vs, _, o, es, ep, ho, hex, hd, _⟩ := dk_rd I.hok h
    obtain ⟨h1, h2, h3⟩ := hex
    refine .inr (.inr ⟨es, ep, ?_⟩)
    rw [ho]
    cases o
    simp only at h1 h2 h3 hd
    subst h1 h2 h3 hd
    rfl
end
inductive ScV : V → PyData → Prop
  | non : ScV .non .none
  | bl (b : Bool) : ScV (.bl b) (.bool b)
  | int (i : Int) : ScV (.int i) (.int i)
  | str (x : Str) : ScV (.str x) (.str x)
theorem ScV.reads {x : V} {p : PyData} {v : Value} {h : Heap} (c : ScV x p) (r : RelV x v) : Reads h v p [] := by
  cases c with
  | non => cases (show v = Value.none from r); exact .none
  | bl b => cases (show v = Value.bool b from r); exact .bool b
  | int i => obtain ⟨t, rfl⟩ := (show ∃ t, v = Value.int i t from r); exact .int i t
  | str x => obtain ⟨t, rfl⟩ := (show ∃ t, v = Value.str x t from r); exact .str x t
theorem ScV.dep {x : V} {p : PyData} (c : ScV x p) : p.depth = 0 := by cases c <;> rfl
section
variable {A : Around} {s : Shared}
theorem CtA.eq_sc {a : Addr} {y : V} {p : PyData} {u : Value} (c : CtA s.heap a) (k : ScV y p) (r : RelV y u) (hu : A.units < cLine) : EqAt A s (.ref a) u false := by
  cases k with
  | non =>
    cases (show u = Value.none from r)
    rcases c with ⟨vs, h⟩ | ⟨vs, h⟩ | h
    · exact EqAt.list_none h hu
    · exact EqAt.tuple_none h hu
    · exact EqAt.dict_none h hu
  | bl b =>
    cases (show u = Value.bool b from r)
    rcases c with ⟨vs, h⟩ | ⟨vs, h⟩ | h
    · exact EqAt.list_bool b h hu
    · exact EqAt.tuple_bool b h hu
    · exact EqAt.dict_bool b h hu
  | int i =>
    obtain ⟨t, rfl⟩ := (show ∃ t, u = Value.int i t from r)
    rcases c with ⟨vs, h⟩ | ⟨vs, h⟩ | h
    · exact EqAt.list_int i t h hu
    · exact EqAt.tuple_int i t h hu
    · exact EqAt.dict_int i t h hu
  | str x =>
    obtain ⟨t, rfl⟩ := (show ∃ t, u = Value.str x t from r)
    rcases c with ⟨vs, h⟩ | ⟨vs, h⟩ | h
    · exact EqAt.list_str x t h hu
    · exact EqAt.tuple_str x t h hu
    · exact EqAt.dict_str x t h hu
theorem CtA.rc_sc {a : Addr} {y : V} {p : PyData} {u : Value} (c : CtA s.heap a) (k : ScV y p) (r : RelV y u) (hu : A.units < cLine) : RcAt A s (.ref a) u false ∧ RcNeAt A s (.ref a) u true := by
  cases k with
  | non =>
    cases (show u = Value.none from r)
    rcases c with ⟨vs, h⟩ | ⟨vs, h⟩ | h
    · exact ⟨RcAt.list_none h hu, RcNeAt.list_none h hu⟩
    · exact ⟨RcAt.tuple_none h hu, RcNeAt.tuple_none h hu⟩
    · exact ⟨RcAt.dict_none h hu, RcNeAt.dict_none h hu⟩
  | bl b =>
    cases (show u = Value.bool b from r)
    rcases c with ⟨vs, h⟩ | ⟨vs, h⟩ | h
    · exact ⟨RcAt.list_bool b h hu, RcNeAt.list_bool b h hu⟩
    · exact ⟨RcAt.tuple_bool b h hu, RcNeAt.tuple_bool b h hu⟩
    · exact ⟨RcAt.dict_bool b h hu, RcNeAt.dict_bool b h hu⟩
  | int i =>
    obtain ⟨t, rfl⟩ := (show ∃ t, u = Value.int i t from r)
    rcases c with ⟨vs, h⟩ | ⟨vs, h⟩ | h
    · exact ⟨RcAt.list_int i t h hu, RcNeAt.list_int i t h hu⟩
    · exact ⟨RcAt.tuple_int i t h hu, RcNeAt.tuple_int i t h hu⟩
    · exact ⟨RcAt.dict_int i t h hu, RcNeAt.dict_int i t h hu⟩
  | str x =>
    obtain ⟨t, rfl⟩ := (show ∃ t, u = Value.str x t from r)
    rcases c with ⟨vs, h⟩ | ⟨vs, h⟩ | h
    · exact ⟨RcAt.list_str x t h hu, RcNeAt.list_str x t h hu⟩
    · exact ⟨RcAt.tuple_str x t h hu, RcNeAt.tuple_str x t h hu⟩
    · exact ⟨RcAt.dict_str x t h hu, RcNeAt.dict_str x t h hu⟩
theorem CtA.str_eq {a : Addr} {x : Str} {t : Tok} (c : CtA s.heap a) (hu : A.units < cLine) : EqAt A s (.str x t) (.ref a) false := by
  rcases c with ⟨vs, h⟩ | ⟨vs, h⟩ | h
  · exact EqAt.str_list x t h hu
  · exact EqAt.str_tuple x t h hu
  · exact EqAt.str_dict x t h hu
end
def AnB (K : PySem.W.Frag) (H : Hp) (x y : V) (b : Bool) : Prop := ∃ q, ScV y q ∧ ((CtV K H x ∧ b = false) ∨ ∃ p, ScV x p ∧ p.canLay0 = true ∧ q.canLay0 = true ∧ b = PyData.eqv p q)
inductive AnL (K : PySem.W.Frag) (H : Hp) : List V → List V → List Bool → Prop
  | nil : AnL K H [] [] []
  | cons {x y : V} {b : Bool} {xs ys : List V} {bs : List Bool} : AnB K H x y b → AnL K H xs ys bs → AnL K H (x :: xs) (y :: ys) (b :: bs)
section
variable {X : Cx} {pins : List (Addr × Obj)} {σ : L2.St} {H : Hp} {s : Shared}
theorem AnB.eqAt (I : Inv X pins σ H s) {A : Around} {x y : V} {b : Bool} {v u : Value} (h : AnB X.K H x y b) (rx : RelV x v) (ry : RelV y u) (hu : A.units < cLine) : EqAt A s v u b := by
  obtain ⟨q, hq, h | h⟩ := h
  · obtain ⟨c, rfl⟩ := h
    obtain ⟨a, rfl, ca⟩ := c.at I rx
    exact ca.eq_sc hq ry hu
  · obtain ⟨p, hp, l1, l2, rfl⟩ := h
    have d1 := hp.dep
    have d2 := hq.dep
    exact eqAt_reads p q A s v u _ _ (hp.reads rx) (hq.reads ry) l1 l2 (by rw [d1, d2]; simpa using hu)
theorem AnL.eqAt (I : Inv X pins σ H s) {A : Around} (hu : A.units < cLine) : ∀ {xs ys : List V} {bs : List Bool} {us ws : List Value}, AnL X.K H xs ys bs → Vals xs us → Vals ys ws → us.length = bs.length ∧ ws.length = bs.length ∧ ∀ j (h1 : j < us.length) (h2 : j < ws.length), EqAt A s us[j] ws[j] (bs.getD j true)
  | _, _, _, _, _, .nil, .nil, .nil => ⟨rfl, rfl, fun j h1 _ => absurd h1 (Nat.not_lt_zero _)⟩
  | _, _, _, _, _, .cons h t, .cons r1 t1, .cons r2 t2 => by
    obtain ⟨e1, e2, ih⟩ := AnL.eqAt I hu t t1 t2
    refine ⟨by simp [e1], by simp [e2], fun j h1 h2 => ?_⟩
    cases j with
    | zero => exact h.eqAt I r1 r2 hu
    | succ j => simpa using ih j (by simpa using h1) (by simpa using h2)
end
theorem all_getD : ∀ bs : List Bool, ((List.range bs.length).all fun j => bs.getD j true) = bs.all id
  | [] => rfl
  | b :: bs => by
    rw [List.length_cons, List.range_succ_eq_map, List.all_cons, List.all_map, List.all_cons]
    have := all_getD bs
    simp only [List.getD_cons_zero, Function.comp_def, List.getD_cons_succ, id_eq] at *
    rw [this]
def EqVr (K : PySem.W.Frag) (H : Hp) (x y : V) (b : Bool) : Prop :=
  (CtV K H x ∧ (∃ q, ScV y q) ∧ b = false) ∨
  (∃ a c xs ys bs, x = .ref a ∧ y = .ref c ∧ SqL K H a xs ∧ SqL K H c ys ∧ AnL K H xs ys bs ∧ b = bs.all id) ∨
  (∃ a c xs ys, x = .ref a ∧ y = .ref c ∧ SqL K H a xs ∧ SqL K H c ys ∧ xs.length ≠ ys.length ∧ b = false) ∨
  ∃ a c xs, x = .ref a ∧ y = .ref c ∧ SqT K H a xs ∧ SqT K H c [] ∧ b = xs.isEmpty
theorem eqVr_run {X : Cx} {pins : List (Addr × Obj)} {σ : L2.St} {H : Hp} {s : Shared} (I : Inv X pins σ H s) {x y : V} {b : Bool} {v u : Value} (h : EqVr X.K H x y b) (rx : RelV x v) (ry : RelV y u) (hu : X.A.units + 64 < cLine) : RcAt X.A s v u b ∧ RcNeAt X.A s v u (!b) := by
  have hu0 : X.A.units < cLine := by omega
  have hu1 : X.A.in1.units < cLine := by show X.A.units + 1 < cLine; omega
  rcases h with ⟨c, ⟨q, hq⟩, rfl⟩ | ⟨a, c, xs, ys, bs, rfl, rfl, h1, h2, h3, rfl⟩ | ⟨a, c, xs, ys, rfl, rfl, h1, h2, h3, rfl⟩ | ⟨a, c, xs, rfl, rfl, h1, h2, rfl⟩
  · obtain ⟨a, rfl, ca⟩ := c.at I rx
    exact ca.rc_sc hq ry hu0
  · cases (show v = Value.ref a from rx)
    cases (show u = Value.ref c from ry)
    obtain ⟨us, r1, p1, _⟩ := I.list h1
    obtain ⟨ws, r2, p2, _⟩ := I.list h2
    obtain ⟨e1, e2, he⟩ := h3.eqAt I hu1 r1 r2
    have hsz : us.toArray.size = ws.toArray.size := by simp [e1, e2]
    have ea : ((List.range us.toArray.size).all fun j => bs.getD j true) = bs.all id := by rw [List.size_toArray, e1, all_getD]
    have he' : ∀ j (h1 : j < us.toArray.size) (h2 : j < ws.toArray.size), EqAt X.A.in1 s us.toArray[j] ws.toArray[j] (bs.getD j true) := fun j h1 h2 => by simpa using he j (by simpa using h1) (by simpa using h2)
    have f1 := RcAt.lists p1.isList p2.isList hsz hu0 he'
    have f2 := RcNeAt.lists p1.isList p2.isList hsz hu0 he'
    rw [ea] at f1 f2
    exact ⟨f1, f2⟩
  · cases (show v = Value.ref a from rx)
    cases (show u = Value.ref c from ry)
    obtain ⟨us, r1, p1, _⟩ := I.list h1
    obtain ⟨ws, r2, p2, _⟩ := I.list h2
    have hsz : (us.toArray.size != ws.toArray.size) = true := by
      have := r1.length
      have := r2.length
      simp
      omega
    exact ⟨RcAt.lists_lengths p1.isList p2.isList hsz hu0, RcNeAt.lists_lengths p1.isList p2.isList hsz hu0⟩
  · cases (show v = Value.ref a from rx)
    cases (show u = Value.ref c from ry)
    obtain ⟨us, r1, p1, _⟩ := I.tuple h1
    obtain ⟨ws, r2, p2, _⟩ := I.tuple h2
    cases r2
    have f1 := RcAt.tuples (e := fun _ => true) p1 p2 hu0 (fun j _ h2 => absurd h2 (Nat.not_lt_zero _))
    have f2 := RcNeAt.tuples (e := fun _ => true) p1 p2 hu0 (fun j _ h2 => absurd h2 (Nat.not_lt_zero _))
    have ee : ((List.range (min us.toArray.size (#[] : Array Value).size)).all (fun _ => true) && us.toArray.size == (#[] : Array Value).size) = xs.isEmpty := by
      have := r1.length
      cases xs <;> cases us <;> simp_all
    rw [ee] at f1 f2
    exact ⟨f1, f2⟩
def rEqO (K : PySem.W.Frag) : R2 := fun x y H Q => rEqD K x y H Q ∨ ∃ b, EqVr K H x y b ∧ Q (.bl b) H
def rNeO (K : PySem.W.Frag) : R2 := fun x y H Q => rNeD K x y H Q ∨ ∃ b, EqVr K H x y b ∧ Q (.bl (!b)) H
theorem op_eqO {X : Cx} (hu : X.A.units + 64 < cLine) : OpR X (compareOp .Eq) (rEqO X.K) := fun pins s σ H x y v u Q I rx ry h => by
  rcases h with h | ⟨b, h, q⟩
  · exact op_eqD hu pins s σ H x y v u Q I rx ry h
  · exact (eqVr_run I h rx ry hu).1 X.prog X.w X.xe _ ⟨.bl _, H, I, rfl, q⟩
theorem op_neO {X : Cx} (hu : X.A.units + 64 < cLine) : OpR X (compareOp .NotEq) (rNeO X.K) := fun pins s σ H x y v u Q I rx ry h => by
  rcases h with h | ⟨b, h, q⟩
  · exact op_neD hu pins s σ H x y v u Q I rx ry h
  · exact (eqVr_run I h rx ry hu).2 X.prog X.w X.xe _ ⟨.bl _, H, I, rfl, q⟩
theorem vals_strs : ∀ {zs : List Str} {its : List Value}, Vals (zs.map V.str) its → ∀ y ∈ its, ∃ z t, y = Value.str z t
  | [], _, .nil, y, h => by cases h
  | z :: zs, _, .cons r t, y, h => by
    rcases List.mem_cons.mp h with rfl | h
    · exact ⟨z, (show ∃ t, _ = Value.str z t from r)⟩
    · exact vals_strs t y h
def rInO (K : PySem.W.Frag) (n : Bool) : R2 := fun x y H Q => rInA K n x y H Q ∨ (CtV K H x ∧ ∃ (c : Addr) (zs : List Str), y = .ref c ∧ (SqL K H c (zs.map V.str) ∨ SqT K H c (zs.map V.str)) ∧ Q (.bl n) H)
theorem op_inO {X : Cx} (hu : X.A.units + 65 < cLine) : OpR X (compareOp .In) (rInO X.K false) := fun pins s σ H x y v u Q I rx ry h => by
  rcases h with h | ⟨c, l, zs, rfl, hl, q⟩
  · exact op_inA hu pins s σ H x y v u Q I rx ry h
  · obtain ⟨a, rfl, ca⟩ := c.at I rx
    cases (show u = Value.ref l from ry)
    have hu1 : X.A.in1.units < cLine := by show X.A.units + 1 < cLine; omega
    have key : ∀ its : List Value, Vals (zs.map V.str) its → ∀ y ∈ its.toArray, EqAt X.A.in1 s y (.ref a) ((fun _ => false) y) := fun its r y hy => by
      obtain ⟨z, t, rfl⟩ := vals_strs r y (by simpa using hy)
      exact ca.str_eq hu1
    rcases hl with hl | hl
    · obtain ⟨its, r, pl, _⟩ := I.list hl
      refine in_listAt (fun _ => false) pl.isList (key its r) ?_
      rw [show its.toArray.any (fun _ => false) = false by simp]
      exact ⟨.bl _, H, I, rfl, q⟩
    · obtain ⟨its, r, pl, _⟩ := I.tuple hl
      refine in_tupleAt (fun _ => false) pl (key its r) ?_
      rw [show its.toArray.any (fun _ => false) = false by simp]
      exact ⟨.bl _, H, I, rfl, q⟩
theorem op_notInO {X : Cx} (hu : X.A.units + 65 < cLine) : OpR X (compareOp .NotIn) (rInO X.K true) := fun pins s σ H x y v u Q I rx ry h => by
  rcases h with h | ⟨c, l, zs, rfl, hl, q⟩
  · exact op_notInA hu pins s σ H x y v u Q I rx ry h
  · obtain ⟨a, rfl, ca⟩ := c.at I rx
    cases (show u = Value.ref l from ry)
    have hu1 : X.A.in1.units < cLine := by show X.A.units + 1 < cLine; omega
    have key : ∀ its : List Value, Vals (zs.map V.str) its → ∀ y ∈ its.toArray, EqAt X.A.in1 s y (.ref a) ((fun _ => false) y) := fun its r y hy => by
      obtain ⟨z, t, rfl⟩ := vals_strs r y (by simpa using hy)
      exact ca.str_eq hu1
    rcases hl with hl | hl
    · obtain ⟨its, r, pl, _⟩ := I.list hl
      refine notIn_listAt (fun _ => false) pl.isList (key its r) ?_
      rw [show its.toArray.any (fun _ => false) = false by simp]
      exact ⟨.bl _, H, I, rfl, q⟩
    · obtain ⟨its, r, pl, _⟩ := I.tuple hl
      refine notIn_tupleAt (fun _ => false) pl (key its r) ?_
      rw [show its.toArray.any (fun _ => false) = false by simp]
      exact ⟨.bl _, H, I, rfl, q⟩
end DL
namespace DL
open PySem PySem.Spec PyProof.Rows L2 SeqAt
def isCt : D → Bool
  | .lst _ => true
  | .lsk _ => true
  | .tup _ => true
  | .dct _ => true
  | .dlk _ => true
  | _ => false
def isSc : D → Bool
  | .non => true
  | .bl _ => true
  | .int _ => true
  | .str _ => true
  | _ => false
def isStr : D → Bool
  | .str _ => true
  | _ => false
def eqAS (d e : D) : Option Bool := if isSc e then (if isCt d then some false else if isSc d then pEqB d e else none) else none
def eqLS : List D → List D → Option Bool
  | [], [] => some true
  | d :: ds, e :: es => match eqAS d e, eqLS ds es with
    | some a, some b => some (a && b)
    | _, _ => none
  | _, _ => none
def pEqOB (d e : D) : Option Bool := match d, e with
  | .lst ds, .lst es => if es.all isSc then (if ds.length = es.length then eqLS ds es else some false) else pEqB (.lst ds) (.lst es)
  | .tup ds, .tup [] => some ds.isEmpty
  | d, e => if isCt d ∧ isSc e then some false else pEqB d e
def pEqO (d e : D) : Option D := (pEqOB d e).map .bl
def pNeO (d e : D) : Option D := (pEqOB d e).map fun b => .bl (!b)
def pInO (n : Bool) (d e : D) : Option D := match e with
  | .lst es => if isCt d ∧ es.all isStr then some (.bl n) else pInX n d (.lst es)
  | .tup es => if isCt d ∧ es.all isStr then some (.bl n) else pInX n d (.tup es)
  | e => pInX n d e
section
variable {K : PySem.W.Frag} {mg : MG} {H : Hp} {ι : List Addr}
theorem rep_ct {x : V} {d : D} (r : Rep K mg H ι x d) (c : isCt d = true) : CtV K H x := by
  cases r with
  | lst h _ _ => exact ⟨_, rfl, .inl ⟨_, SqL.of h⟩⟩
  | lsk h _ _ => exact ⟨_, rfl, .inl ⟨_, h⟩⟩
  | tup h _ _ => exact ⟨_, rfl, .inr (.inl ⟨_, h⟩)⟩
  | dct h _ => exact ⟨_, rfl, .inr (.inr ⟨_, h⟩)⟩
  | dlk h _ => exact ⟨_, rfl, .inr (.inr ⟨_, .inr ⟨_, h⟩⟩)⟩
  | _ => cases c
theorem rep_sc {x : V} {d : D} (r : Rep K mg H ι x d) (c : isSc d = true) : ∃ p, ScV x p ∧ d.py = some p := by
  cases r with
  | non => exact ⟨_, .non, rfl⟩
  | bl b => exact ⟨_, .bl b, rfl⟩
  | int i => exact ⟨_, .int i, rfl⟩
  | str z => exact ⟨_, .str z, rfl⟩
  | _ => cases c
theorem rep_an {x y : V} {d e : D} {b : Bool} (rx : Rep K mg H ι x d) (ry : Rep K mg H ι y e) (h : eqAS d e = some b) : AnB K H x y b := by
  unfold eqAS at h
  split at h
  · rename_i he
    obtain ⟨q, hq, eq⟩ := rep_sc ry he
    refine ⟨q, hq, ?_⟩
    split at h
    · rename_i hd
      cases h
      exact .inl ⟨rep_ct rx hd, rfl⟩
    · split at h
      · rename_i hd
        obtain ⟨p, hp, ep⟩ := rep_sc rx hd
        obtain ⟨p', q', e1, e2, s1, s2, rfl⟩ := pEqB_inv h
        rw [ep] at e1; cases e1
        rw [eq] at e2; cases e2
        exact .inr ⟨p, hp, SeqAt.canLay_of_shaped s1, SeqAt.canLay_of_shaped s2, rfl⟩
      · cases h
  · cases h
theorem reps_an : ∀ {xs ys : List V} {ds es : List D} {b : Bool}, Reps K mg H ι xs ds → Reps K mg H ι ys es → eqLS ds es = some b → ∃ bs, AnL K H xs ys bs ∧ b = bs.all id
  | _, _, _, _, b, .nil, .nil, h => by cases h; exact ⟨[], .nil, rfl⟩
  | _, _, _, _, b, .nil, .cons _ _, h => by cases h
  | _, _, _, _, b, .cons _ _, .nil, h => by cases h
  | _, _, _, _, b, .cons r1 t1, .cons r2 t2, h => by
    rename_i x d xs ds y e ys es
    unfold eqLS at h
    cases e1 : eqAS d e with
    | none => rw [e1] at h; cases h
    | some a =>
      cases e2 : eqLS ds es with
      | none => rw [e1, e2] at h; cases h
      | some c =>
        rw [e1, e2] at h
        cases h
        obtain ⟨bs, hb, rfl⟩ := reps_an t1 t2 e2
        exact ⟨a :: bs, .cons (rep_an r1 r2 e1) hb, rfl⟩
end
section
variable {K : PySem.W.Frag} {mg : MG}
theorem eqO_inv {w : Ws} {x y : V} {d e : D} {b : Bool} (s : Sts K mg w) (rx : RepV K mg w x d) (ry : RepV K mg w y e) (h : pEqOB d e = some b) : (∃ p q, Dp K w.H x p ∧ Dp K w.H y q ∧ SeqAt.shaped p = true ∧ SeqAt.shaped q = true ∧ b = PyData.eqv p q) ∨ EqVr K w.H x y b := by
  have rx := rx.h s
  have ry := ry.h s
  have data : ∀ {d e : D} {b : Bool}, Rep K mg w.H w.ι x d → Rep K mg w.H w.ι y e → pEqB d e = some b → ∃ p q, Dp K w.H x p ∧ Dp K w.H y q ∧ SeqAt.shaped p = true ∧ SeqAt.shaped q = true ∧ b = PyData.eqv p q := fun rx ry h => by
    obtain ⟨p, p', e1, e2, s1, s2, rfl⟩ := pEqB_inv h
    exact ⟨p, p', rx.dp e1, ry.dp e2, s1, s2, rfl⟩
  unfold pEqOB at h
  split at h
  · split at h
    · rename_i ds es hsc
      cases rx with
      | lst h1 l1 r1 =>
        cases ry with
        | lst h2 l2 r2 =>
          split at h
          · obtain ⟨bs, hb, rfl⟩ := reps_an r1 r2 h
            exact .inr (.inr (.inl ⟨_, _, _, _, bs, rfl, rfl, SqL.of h1, SqL.of h2, hb, rfl⟩))
          · rename_i hne
            cases h
            exact .inr (.inr (.inr (.inl ⟨_, _, _, _, rfl, rfl, SqL.of h1, SqL.of h2, by rw [r1.len, r2.len]; exact hne, rfl⟩)))
    · exact .inl (data rx ry h)
  · cases h
    cases rx with
    | tup h1 l1 r1 =>
      cases ry with
      | tup h2 l2 r2 =>
        cases r2
        refine .inr (.inr (.inr (.inr ⟨_, _, _, rfl, rfl, h1, h2, ?_⟩)))
        cases r1 <;> rfl
  · split at h
    · rename_i hc
      cases h
      obtain ⟨q, hq, _⟩ := rep_sc ry hc.2
      exact .inr (.inl ⟨rep_ct rx hc.1, ⟨q, hq⟩, rfl⟩)
    · exact .inl (data rx ry h)
theorem ans_eqO : Ans2 K mg (rEqO K) pEqO := fun w x y d e z Q s rx ry q k => by
  obtain ⟨b, hb, rfl⟩ := Option.map_eq_some_iff.mp q
  rcases eqO_inv s rx ry hb with ⟨p, p', h1, h2, s1, s2, rfl⟩ | h
  · exact .inl ⟨p, p', h1, h2, s1, s2, k _ (fun _ _ => .bl _)⟩
  · exact .inr ⟨b, h, k _ (fun _ _ => .bl _)⟩
theorem ans_neO : Ans2 K mg (rNeO K) pNeO := fun w x y d e z Q s rx ry q k => by
  obtain ⟨b, hb, rfl⟩ := Option.map_eq_some_iff.mp q
  rcases eqO_inv s rx ry hb with ⟨p, p', h1, h2, s1, s2, rfl⟩ | h
  · exact .inl ⟨p, p', h1, h2, s1, s2, k _ (fun _ _ => .bl _)⟩
  · exact .inr ⟨b, h, k _ (fun _ _ => .bl _)⟩
theorem reps_strs {H : Hp} {ι : List Addr} : ∀ {vs : List V} {ds : List D}, Reps K mg H ι vs ds → ds.all isStr = true → ∃ zs : List Str, vs = zs.map V.str
  | _, _, .nil, _ => ⟨[], rfl⟩
  | _, d :: ds, .cons r t, h => by
    rw [List.all_cons, Bool.and_eq_true] at h
    obtain ⟨zs, e⟩ := reps_strs t h.2
    cases d with
    | str z => cases r; exact ⟨z :: zs, by rw [e]; rfl⟩
    | _ => cases h.1
theorem ans_inO (n : Bool) : Ans2 K mg (rInO K n) (pInO n) := fun w x y d e z Q s rx ry q k => by
  have old : pInX n d e = some z → rInO K n x y w.H Q := fun q => .inl (ans_in n w x y d e z Q s rx ry q k)
  unfold pInO at q
  split at q
  · split at q
    · rename_i es hc
      cases q
      have ry' := ry.h s
      cases ry' with
      | lst h2 l2 r2 =>
        obtain ⟨zs, e⟩ := reps_strs r2 hc.2
        subst e
        exact .inr ⟨rep_ct (rx.h s) hc.1, _, zs, rfl, .inl (SqL.of h2), k _ (fun _ _ => .bl _)⟩
    · exact old q
  · split at q
    · rename_i es hc
      cases q
      have ry' := ry.h s
      cases ry' with
      | tup h2 l2 r2 =>
        obtain ⟨zs, e⟩ := reps_strs r2 hc.2
        subst e
        exact .inr ⟨rep_ct (rx.h s) hc.1, _, zs, rfl, .inr h2, k _ (fun _ _ => .bl _)⟩
    · exact old q
  · exact old q
end
end DL
namespace DL
open PySem PySem.Spec PyProof.Rows PySem.SeqAt L2 MeetsSeq MeetsSeq2 MeetsSeq3 SeqRoads2
open AutoSeq1 (wpAny_loadPart')
section
variable {prog : Program} {w : World} {A : Around} {E : Value → Shared → Prop} {s : Shared} {a C l : Addr} {oa : Obj}
structure OutAt (M : Model) (h : Heap) (a : Addr) (C : Addr) (T : String) : Prop where
  ob : ∃ dx, h.get? a = some (PySem.W.instObj C dx)
  no : PySem.W.Looks M h (isSubtype (.ref C) (.type T)) false
structure DtAt (s : Shared) (y : Value) (T : String) : Prop where
  ty : s.TypeIs y T
  ne : ∀ a : Addr, (∃ C dx, s.heap.get? a = some (PySem.W.instObj C dx)) → y ≠ .ref a
structure LoopS (prog : Program) (w : World) (l : Addr) (N : Nat) (x : Value) (A : Around) (R : Result → Shared → Prop) (P : Nat → Shared → Prop) : Prop where
  st : ∀ i s, P i s → ∃ items n dd sl, s.heap.get? l = some { cls := .type "list", dict := dd, data := .seq items n, slots := sl } ∧ items.size = N ∧ ∀ (h : i < items.size), wpAny (model prog w) A.in1 (eqBool items[i] x) (fun b s' => if b = true then R (.ok (.ret (.bool true))) s' else P (i + 1) s') (fun e s' => R (.error e) s') s
  fin : ∀ s, P N s → R (.ok (.ret (.bool false))) s
end
end DL
namespace DL
open PySem PySem.Spec PyProof.Rows PySem.SeqAt L2 MeetsSeq MeetsSeq2 MeetsSeq3 SeqRoads2
def DatV (K : PySem.W.Frag) (H : Hp) (v : V) : Prop := CtV K H v ∨ ∃ p, ScV v p
section
variable {X : Cx} {CX : CXT} {k : Nat} {f C : Addr} {fd : FuncData} {ps : List Str} {sp : Sp} {E : XK} {b : Low}
theorem DatV.at {pins : List (Addr × Obj)} {σ : L2.St} {H : Hp} {s : Shared} (I : Inv X pins σ H s) {y : V} {v : Value} (h : DatV X.K H y) (r : RelV y v) : (∃ b, v = .ref b ∧ CtA s.heap b) ∨ ∃ p, ScV y p := by
  rcases h with h | h
  · exact .inl (h.at I r)
  · exact .inr h
def InGo (K : PySem.W.Frag) (C : Addr) (sp : Sp) (E : XK) (neg : Bool) (l a : Addr) (xs0 : List V) : List V → Hp → VK → Prop
  | [], H, Q => SqL K H l xs0 ∧ Q (.bl neg) H
  | v :: vs, H, Q => SqL K H l xs0 ∧ (∃ dx fs, H a = some (.ins C dx fs)) ∧
    ((DatV K H v ∧ sp [.ref a, v] H (fun r H' => ∃ b, r = .bl b ∧ if b = true then Q (.bl (!neg)) H' else InGo K C sp E neg l a xs0 vs H' Q) E) ∨
     (∃ c dy gs, v = .ref c ∧ H c = some (.ins C dy gs) ∧ (c = a → Q (.bl (!neg)) H) ∧ (c ≠ a → sp [.ref c, .ref a] H (fun r H' => ∃ b, r = .bl b ∧ if b = true then Q (.bl (!neg)) H' else InGo K C sp E neg l a xs0 vs H' Q) E)))
theorem InGo.sq {K : PySem.W.Frag} {neg : Bool} {l a : Addr} {xs0 vs : List V} {H : Hp} {Q : VK} (h : InGo K C sp E neg l a xs0 vs H Q) : SqL K H l xs0 := by
  cases vs <;> exact h.1
end
section
variable {X : Cx} {E : XK} {b : Low} {k k' : Nat} {den : Den} {c : Str} {e e2 : Expr} {g h : DEx} {p pos : Pos}
end
end DL
namespace DL
open PySem PySem.Spec PyProof.Rows L2
def MCalG (P : Program) (w : World) (K : PySem.W.Frag) (mg : Str → Option Value) (base : Heap) (k : Nat) (c m : Str) (n : Nat) (den : Den) (dds : List D) : Prop :=
  ∃ C f fd ps ds dvs, mg c = some (.ref C) ∧ Cls K C ∧ Meth K C m f ∧ FnG P w K mg base (L2N.CX P w) k f fd ps (spD K mg n den) ∧ Binds K fd ps ds ∧ Vals dvs ds ∧ ∀ b G ι, Reps K ⟨mg, b⟩ G ι dvs dds
theorem MCalG.of {P : Program} {wd : World} {K : PySem.W.Frag} {mg : Str → Option Value} {base : Heap} {c m qual : Str} {st : Stmt} {N ps : List Str} {dds : List D} {k n j : Nat} {g : DSx} (M : Mfn K mg c m qual ps st dds) (S : FnScope N ps (defScope st)) (hn : n = N.length) (hj : j = ps.length)
    (hb : ∀ (f : Addr) (cdv : Value) (A : Around) (outer : List Env) (s : Shared) (H : Hp) (E : XK), A.guards = some [] → Room k (A.deeper (PyProof.Rows.envOfC qual (defScope st) s.heap.objs.size f cdv)) →
      DSs (cxOf (L2N.CX P wd) P wd K mg base N qual (defScope st) f cdv A outer s H E) (WEx E) (defBody st) g) : MCalG P wd K mg base (k + 1) c m j (runD n g) dds := by
  obtain ⟨C, f, fd, ds, dvs, h1, h2, h3, h4, h5, h6, h7⟩ := M
  subst hj
  exact ⟨C, f, fd, ps, ds, dvs, h1, h2, h3, fn_DG h4 S hn (hb f), h5, h6, h7⟩
section
variable {X : Cx} {CX : CXT} {k : Nat} {f C : Addr} {fd : FuncData} {ps : List Str} {sp : Sp} {dvs : List V} {ds : List Value} {E : XK} {b : Low}
end
section
variable {X : Cx} {E : XK} {b : Low} {k k' : Nat} {den : Den} {c : Str} {e e2 : Expr} {g h : DEx} {p pos : Pos}
end
end DL
namespace DL
open PySem PySem.Spec PyProof.Rows L2
mutual
inductive DpA (K : PySem.W.Frag) (H : Hp) : V → PyData → Prop
  | non : DpA K H .non .none
  | bl (b : Bool) : DpA K H (.bl b) (.bool b)
  | int (i : Int) : DpA K H (.int i) (.int i)
  | str (x : Str) : DpA K H (.str x) (.str x)
  | lst {a : Addr} {xs : List V} {ds : List PyData} : SqL K H a xs → DpAs K H xs ds → DpA K H (.ref a) (.list ds)
  | tup {a : Addr} {xs : List V} {ds : List PyData} : SqT K H a xs → DpAs K H xs ds → DpA K H (.ref a) (.tuple ds)
  | dct {a : Addr} {vs : List (Key × V)} {ps : List (PyData × PyData)} : Rd H a (.dK vs) → DpAk K H vs ps → DpA K H (.ref a) (.dict ps)
inductive DpAs (K : PySem.W.Frag) (H : Hp) : List V → List PyData → Prop
  | nil : DpAs K H [] []
  | cons {v : V} {d : PyData} {vs : List V} {ds : List PyData} : DpA K H v d → DpAs K H vs ds → DpAs K H (v :: vs) (d :: ds)
inductive DpAk (K : PySem.W.Frag) (H : Hp) : List (Key × V) → List (PyData × PyData) → Prop
  | nil : DpAk K H [] []
  | cons {k : Key} {v : V} {d : PyData} {vs : List (Key × V)} {ds : List (PyData × PyData)} : DpA K H v d → DpAk K H vs ds → DpAk K H ((k, v) :: vs) ((kP k, d) :: ds)
end
section
variable {X : Cx} {pins : List (Addr × Obj)} {σ : L2.St} {H : Hp} {s : Shared}
theorem sc_repr {v : Value} {d : PyData} (r : Reads s.heap v d []) (hn : d.hasDict = false) (hs : d.showable = true) (hz : d.shown.length ≤ sizeLine) :
    ∃ as bs, Reads s.heap v d as ∧ ReadAtMost s.heap d.depth bs ∧ ReprK X.prog X.w bs s.heap d.depth v d.shown := by
  obtain ⟨bs, h1, h2⟩ := ReprK.of_reads (prog := X.prog) (w := X.w) r hs (fun z => by rw [hn] at z; cases z) hz
  exact ⟨_, bs, r, h1, h2⟩
theorem mem_self {a : Addr} {d : PyData} {as bs : List Addr} {n : Nat} (r : Reads s.heap (.ref a) d as) (h : ReadAtMost s.heap n bs) (hn : d.depth = n + 1) : ReadAtMost s.heap d.depth (a :: bs) := by
  intro b hb
  rcases List.mem_cons.mp hb with rfl | hb
  · exact ⟨d, as, r, Nat.le_refl _⟩
  · obtain ⟨e, cs, h1, h2⟩ := h b hb
    exact ⟨e, cs, h1, by omega⟩
mutual
theorem any_repr (I : Inv X pins σ H s) : ∀ {v : V} {d : PyData} {u : Value}, DpA X.K H v d → RelV v u → d.showable = true → d.shown.length ≤ sizeLine →
    ∃ as bs, Reads s.heap u d as ∧ ReadAtMost s.heap d.depth bs ∧ ReprK X.prog X.w bs s.heap d.depth u d.shown
  | _, _, u, .non, r, hs, hz => by
    cases (show u = Value.none from r)
    exact sc_repr (.none) rfl hs hz
  | _, _, u, .bl b, r, hs, hz => by
    cases (show u = Value.bool b from r)
    exact sc_repr (.bool b) rfl hs hz
  | _, _, u, .int i, r, hs, hz => by
    obtain ⟨t, rfl⟩ := (show ∃ t, u = Value.int i t from r)
    exact sc_repr (.int i t) rfl hs hz
  | _, _, u, .str x, r, hs, hz => by
    obtain ⟨t, rfl⟩ := (show ∃ t, u = Value.str x t from r)
    exact sc_repr (.str x t) rfl hs hz
  | _, _, u, .lst (a := a) (xs := xs) (ds := ds) h hd, r, hs, hz => by
    cases (show u = Value.ref a from r)
    obtain ⟨its, hv, hl, _⟩ := I.list h
    obtain ⟨o, h1, h2, n, h3⟩ := hl.isList
    have hz' : (listText (PyData.shownAll ds)).length ≤ sizeLine := by simpa only [PyData.shown] using hz
    obtain ⟨as, bs, q1, q2, q3⟩ := any_reprs I hd hv (by simpa only [PyData.showable] using hs) (fun t ht => Nat.le_trans (listText_mem_le ht) hz')
    have rd : Reads s.heap (.ref a) (.list ds) (a :: as) := .list h1 h2 h3 q1
    have dp : (PyData.list ds).depth = PyData.depthAll ds + 1 := by simp only [PyData.depth]
    have hna : a ∉ bs := not_mem_of_deeper rd (by omega) q2
    refine ⟨_, a :: bs, rd, mem_self rd q2 dp, ?_⟩
    rw [dp, show (PyData.list ds).shown = listText (PyData.shownAll ds) by simp only [PyData.shown]]
    cases its with
    | nil =>
      have e0 : PyData.shownAll ds = [] := List.length_eq_zero_iff.mp q3.length_eq
      rw [e0, listText_nil]
      exact ReprK.more (ReprK.listEmpty (as := bs) h1 h2 h3) fun b hb => List.mem_cons_of_mem _ hb
    | cons x l => exact ReprK.list h1 h2 h3 hna (by rw [q3.length_eq]; rfl) (fun i y e => q3.item i y (by simpa using e))
  | _, _, u, .tup (a := a) (xs := xs) (ds := ds) h hd, r, hs, hz => by
    cases (show u = Value.ref a from r)
    obtain ⟨its, hv, hl, _⟩ := I.tuple h
    obtain ⟨o, h1, h2, n, h3⟩ := hl
    have hz' : (tupleText (PyData.shownAll ds)).length ≤ sizeLine := by simpa only [PyData.shown] using hz
    obtain ⟨as, bs, q1, q2, q3⟩ := any_reprs I hd hv (by simpa only [PyData.showable] using hs) (fun t ht => Nat.le_trans (tupleText_mem_le ht) hz')
    have rd : Reads s.heap (.ref a) (.tuple ds) as := .tuple h1 h2 h3 q1
    have dp : (PyData.tuple ds).depth = PyData.depthAll ds + 1 := by simp only [PyData.depth]
    have hna : a ∉ bs := not_mem_of_deeper rd (by omega) q2
    refine ⟨_, a :: bs, rd, mem_self rd q2 dp, ?_⟩
    rw [dp, show (PyData.tuple ds).shown = tupleText (PyData.shownAll ds) by simp only [PyData.shown]]
    exact ReprK.tuple h1 h2 h3 hna q3
  | _, _, u, .dct (a := a) (vs := vs) (ps := ps) h hd, r, hs, hz => by
    cases (show u = Value.ref a from r)
    obtain ⟨_, hsys, us', rel, o, es, ep, h1, hex, h3, _, hP, _⟩ := dk_rd I.hok h
    have h2 : o.cls = .type "dict" := hex.1
    have hz' : (dictText (PyData.shownKv ps)).length ≤ sizeLine := by simpa only [PyData.shown] using hz
    obtain ⟨hs1, hs2⟩ := PyData.showableKv_split ps (by simpa only [PyData.showable] using hs)
    obtain ⟨as, bs, cs, q1, q2, q3, q4, q5⟩ := any_reprKv I hd rel hP hs1 hs2 (fun p hp => Nat.le_trans (dictText_mem_le hp) hz')
    have rd : Reads s.heap (.ref a) (.dict ps) (a :: as ++ bs) := .dict h1 h2 h3 q1 q2
    have dp : (PyData.dict ps).depth = PyData.depthKv ps + 1 := by simp only [PyData.depth]
    have hna : a ∉ cs := not_mem_of_deeper rd (by omega) q3
    refine ⟨_, a :: cs, rd, mem_self rd q3 dp, ?_⟩
    rw [dp, show (PyData.dict ps).shown = dictText (PyData.shownKv ps) by simp only [PyData.shown], PyData.shownKv_eq]
    exact ReprK.dict h1 h2 h3 hsys hna (ReprEntriesK.of_two es.toList _ _ q4 q5)
theorem any_reprs (I : Inv X pins σ H s) : ∀ {vs : List V} {ds : List PyData} {us : List Value}, DpAs X.K H vs ds → Vals vs us → PyData.showableAll ds = true → (∀ t ∈ PyData.shownAll ds, t.length ≤ sizeLine) →
    ∃ as bs, ReadsAll s.heap us ds as ∧ ReadAtMost s.heap (PyData.depthAll ds) bs ∧ ReprAllK X.prog X.w bs s.heap (PyData.depthAll ds) us (PyData.shownAll ds)
  | _, _, _, .nil, r, _, _ => by
    cases r
    exact ⟨_, [], .nil, (fun b hb => by cases hb), by simp only [PyData.shownAll]; exact .nil⟩
  | _, _, _, .cons (d := d) (ds := ds) hd ht, r, hs, hz => by
    cases r with
    | cons r1 r2 =>
      have hs' : d.showable = true ∧ PyData.showableAll ds = true := by simpa only [PyData.showableAll, Bool.and_eq_true] using hs
      have e : PyData.shownAll (d :: ds) = d.shown :: PyData.shownAll ds := by simp only [PyData.shownAll]
      have e2 : PyData.depthAll (d :: ds) = max d.depth (PyData.depthAll ds) := by simp only [PyData.depthAll]
      rw [e] at hz
      obtain ⟨as, bs, p1, p2, p3⟩ := any_repr I hd r1 hs'.1 (hz _ (List.mem_cons_self ..))
      obtain ⟨as', bs', q1, q2, q3⟩ := any_reprs I ht r2 hs'.2 (fun t h => hz _ (List.mem_cons_of_mem _ h))
      refine ⟨_, bs ++ bs', .cons p1 q1, ?_, ?_⟩
      · rw [e2]; exact (p2.mono (Nat.le_max_left ..)).append (q2.mono (Nat.le_max_right ..))
      · rw [e, e2]
        exact .cons ((p3.more fun b hb => List.mem_append_left _ hb).level_le (Nat.le_max_left ..)) (q3.more_le (fun b hb => List.mem_append_right _ hb) (Nat.le_max_right ..))
theorem any_reprKv (I : Inv X pins σ H s) : ∀ {es : List DictEntry} {vs : List (Key × V)} {us : List (Key × Value)} {ps : List (PyData × PyData)}, DpAk X.K H vs ps → KV vs us → Pairs (mixKind X.prog X.w) es us →
    PyData.showableAll (ps.map (·.1)) = true → PyData.showableAll (ps.map (·.2)) = true → (∀ t ∈ PyData.shownKv ps, t.length ≤ sizeLine) →
    ∃ as bs cs, ReadsAll s.heap (es.map (·.key)) (ps.map (·.1)) as ∧ ReadsAll s.heap (es.map (·.val)) (ps.map (·.2)) bs ∧ ReadAtMost s.heap (PyData.depthKv ps) cs ∧
      ReprAllK X.prog X.w cs s.heap (PyData.depthKv ps) (es.map (·.key)) (PyData.shownAll (ps.map (·.1))) ∧ ReprAllK X.prog X.w cs s.heap (PyData.depthKv ps) (es.map (·.val)) (PyData.shownAll (ps.map (·.2)))
  | _, _, _, _, .nil, r, p, _, _, _ => by
    cases r
    cases p
    exact ⟨_, _, [], .nil, .nil, (fun b hb => by cases hb), by simp only [List.map_nil, PyData.shownAll]; exact .nil, by simp only [List.map_nil, PyData.shownAll]; exact .nil⟩
  | _, _, _, _, .cons (k := k) (v := v) (d := d) (ds := ds) hd ht, r, p, hs1, hs2, hz => by
    cases r with
    | cons r1 r2 =>
      cases p with
      | cons p1 p2 p3 =>
        simp only [List.map_cons, PyData.showableAll, Bool.and_eq_true] at hs1 hs2
        have e : PyData.shownKv ((kP k, d) :: ds) = ((kP k).shown ++ Str.ofString ": " ++ d.shown) :: PyData.shownKv ds := by simp only [PyData.shownKv]
        have e2 : PyData.depthKv ((kP k, d) :: ds) = max (max (kP k).depth d.depth) (PyData.depthKv ds) := by simp only [PyData.depthKv]
        have z1 : (kP k).shown.length ≤ sizeLine := by
          obtain ⟨p, hp, hl⟩ := PyData.shownKv_key_le ((kP k, d) :: ds) (kP k).shown (by simp only [List.map_cons, PyData.shownAll]; exact List.mem_cons_self ..)
          exact Nat.le_trans hl (hz p hp)
        have z2 : d.shown.length ≤ sizeLine := by
          obtain ⟨p, hp, hl⟩ := PyData.shownKv_val_le ((kP k, d) :: ds) d.shown (by simp only [List.map_cons, PyData.shownAll]; exact List.mem_cons_self ..)
          exact Nat.le_trans hl (hz p hp)
        have q0 := any_repr I hd r1.2 hs2.1 z2
        obtain ⟨as, bs, cs, q1, q2, q3, q4, q5⟩ := any_reprKv I ht r2 p3 hs1.2 hs2.2 (fun t h => hz _ (by rw [e]; exact List.mem_cons_of_mem _ h))
        rw [← p2] at q0
        obtain ⟨a1, b1, o1, o2, o3⟩ := q0
        have r0 := r1.1
        simp only at r0
        rw [← r0] at p1
        rename_i en ess
        have key : ∃ a2 b2, Reads s.heap en.key (kP k) a2 ∧ ReadAtMost s.heap (kP k).depth b2 ∧ ReprK X.prog X.w b2 s.heap (kP k).depth en.key (kP k).shown := by
          rcases keyIs_shape p1 with ⟨i, t, e1, e3⟩ | ⟨x, t, e1, e3⟩
          · subst e1
            have q : Reads s.heap (Value.int i t) (kP (.inl i)) [] := .int _ _
            rw [← e3] at q
            exact sc_repr q rfl hs1.1 z1
          · subst e1
            have q : Reads s.heap (Value.str x t) (kP (.inr x)) [] := .str _ _
            rw [← e3] at q
            exact sc_repr q rfl hs1.1 z1
        obtain ⟨a2, b2, k1, k2, k3⟩ := key
        have m1 : (kP k).depth ≤ PyData.depthKv ((kP k, d) :: ds) := by rw [e2]; exact Nat.le_trans (Nat.le_max_left ..) (Nat.le_max_left ..)
        have m2 : d.depth ≤ PyData.depthKv ((kP k, d) :: ds) := by rw [e2]; exact Nat.le_trans (Nat.le_max_right ..) (Nat.le_max_left ..)
        have m3 : PyData.depthKv ds ≤ PyData.depthKv ((kP k, d) :: ds) := by rw [e2]; exact Nat.le_max_right ..
        refine ⟨_, _, b2 ++ (b1 ++ cs), .cons k1 q1, .cons o1 q2, (k2.mono m1).append ((o2.mono m2).append (q3.mono m3)), ?_, ?_⟩
        · simp only [List.map_cons, PyData.shownAll]
          exact .cons ((k3.more fun b hb => List.mem_append_left _ hb).level_le m1) (q4.more_le (fun b hb => List.mem_append_right _ (List.mem_append_right _ hb)) m3)
        · simp only [List.map_cons, PyData.shownAll]
          exact .cons ((o3.more fun b hb => List.mem_append_right _ (List.mem_append_left _ hb)).level_le m2) (q5.more_le (fun b hb => List.mem_append_right _ (List.mem_append_right _ hb)) m3)
end
end
def rReprA (K : PySem.W.Frag) : List V → Hp → VK → Prop := fun xs H Q => ∃ (v : V) (d : PyData), xs = [v] ∧ DpA K H v d ∧ d.showable = true ∧ d.depth ≤ 64 ∧ d.shown.length ≤ sizeLine ∧ Q (.str d.shown) H
theorem cr_reprA {X : Cx} (ag : X.A.guards = some []) (hu : X.A.units + 80 < cLine) : CallR X (.builtin "repr") (rReprA X.K) := by
  intro pins s σ H xs us Q I r h
  obtain ⟨v, d, rfl, hd, hs, hdp, hz, q⟩ := h
  obtain ⟨u, rfl, ru⟩ := vals1 r
  cases hd with
  | non =>
    cases (show u = Value.none from ru)
    exact PySem.P.repr_of_none ⟨.str _, H, I.tok _, ⟨_, rfl⟩, q⟩
  | bl b =>
    cases (show u = Value.bool b from ru)
    exact PySem.P.repr_of_bool ⟨.str _, H, I.tok _, ⟨_, rfl⟩, q⟩
  | int i =>
    obtain ⟨t, rfl⟩ := (show ∃ t, u = Value.int i t from ru)
    exact PySem.P.repr_of_int (by simpa only [PyData.showable, decide_eq_true_eq] using hs) ⟨.str _, H, I.tok _, ⟨_, rfl⟩, q⟩
  | str x =>
    obtain ⟨t, rfl⟩ := (show ∃ t, u = Value.str x t from ru)
    exact PySem.P.repr_of_str ⟨.str _, H, I.tok _, ⟨_, rfl⟩, q⟩
  | @lst a xs ds h hd =>
    cases (show u = Value.ref a from ru)
    obtain ⟨its, hv, hl, _⟩ := I.list h
    obtain ⟨o, h1, h2, n, h3⟩ := hl.isList
    have hz' : (listText (PyData.shownAll ds)).length ≤ sizeLine := by simpa only [PyData.shown] using hz
    obtain ⟨as, bs, q1, q2, q3⟩ := any_reprs I hd hv (by simpa only [PyData.showable] using hs) (fun t ht => Nat.le_trans (listText_mem_le ht) hz')
    have rd : Reads s.heap (.ref a) (.list ds) (a :: as) := .list h1 h2 h3 q1
    have dp : (PyData.list ds).depth = PyData.depthAll ds + 1 := by simp only [PyData.depth]
    have hna : a ∉ bs := not_mem_of_deeper rd (by omega) q2
    have es : (PyData.list ds).shown = listText (PyData.shownAll ds) := by simp only [PyData.shown]
    cases its with
    | nil =>
      cases hv
      cases hd
      exact repr_of_reads' rd (by simp only [PyData.showable, PyData.showableAll]) (fun z => by cases z) ag (by omega) (fun _ _ e => e) (fun h' u tk hk => ⟨.str _, H, I.kept hk, ⟨u, rfl⟩, q⟩) hz
    | cons x l =>
      refine call_repr_slot (by omega) ⟨o, h1, h2⟩ F.slot_list_repr.toG ?_
      refine call_list_reprK h1 h2 h3 hna (by rw [q3.length_eq]; rfl) (fun i y e => q3.item i y (by simpa using e)) (A := X.A.in1) ag (fun b _ => Clear.nil b) (by show X.A.units + 1 + (PyData.depthAll ds + 1) < cLine; omega) (fun _ _ e => e) (fun h' u tk hk => ⟨_, _, rfl, ?_⟩) hz'
      rw [← es]
      exact ⟨.str _, H, I.kept hk, ⟨u, rfl⟩, q⟩
  | @tup a xs ds h hd =>
    cases (show u = Value.ref a from ru)
    obtain ⟨its, hv, hl, _⟩ := I.tuple h
    obtain ⟨o, h1, h2, n, h3⟩ := hl
    have hz' : (tupleText (PyData.shownAll ds)).length ≤ sizeLine := by simpa only [PyData.shown] using hz
    obtain ⟨as, bs, q1, q2, q3⟩ := any_reprs I hd hv (by simpa only [PyData.showable] using hs) (fun t ht => Nat.le_trans (tupleText_mem_le ht) hz')
    have rd : Reads s.heap (.ref a) (.tuple ds) as := .tuple h1 h2 h3 q1
    have dp : (PyData.tuple ds).depth = PyData.depthAll ds + 1 := by simp only [PyData.depth]
    have hna : a ∉ bs := not_mem_of_deeper rd (by omega) q2
    have es : (PyData.tuple ds).shown = tupleText (PyData.shownAll ds) := by simp only [PyData.shown]
    refine call_repr_slot (by omega) ⟨o, h1, h2⟩ F.slot_tuple_repr ?_
    refine call_tuple_reprK h1 h2 h3 hna q3 (A := X.A.in1) ag (fun b _ => Clear.nil b) (by show X.A.units + 1 + (PyData.depthAll ds + 1) < cLine; omega) (fun _ _ e => e) (fun h' u tk hk => ⟨_, _, rfl, ?_⟩) hz'
    rw [← es]
    exact ⟨.str _, H, I.kept hk, ⟨u, rfl⟩, q⟩
  | @dct a vs ps h hd =>
    cases (show u = Value.ref a from ru)
    obtain ⟨_, hsys, us', rel, o, es, ep, h1, hex, h3, _, hP, _⟩ := dk_rd I.hok h
    have h2 : o.cls = .type "dict" := hex.1
    have hz' : (dictText (PyData.shownKv ps)).length ≤ sizeLine := by simpa only [PyData.shown] using hz
    obtain ⟨hs1, hs2⟩ := PyData.showableKv_split ps (by simpa only [PyData.showable] using hs)
    obtain ⟨as, bs, cs, q1, q2, q3, q4, q5⟩ := any_reprKv I hd rel hP hs1 hs2 (fun p hp => Nat.le_trans (dictText_mem_le hp) hz')
    have rd : Reads s.heap (.ref a) (.dict ps) (a :: as ++ bs) := .dict h1 h2 h3 q1 q2
    have dp : (PyData.dict ps).depth = PyData.depthKv ps + 1 := by simp only [PyData.depth]
    have hna : a ∉ cs := not_mem_of_deeper rd (by omega) q3
    have es' : (PyData.dict ps).shown = dictText (List.zipWith (fun k v : Str => k ++ ": " ++ v) (PyData.shownAll (ps.map (·.1))) (PyData.shownAll (ps.map (·.2)))) := by simp only [PyData.shown, PyData.shownKv_eq]
    refine call_repr_slot (by omega) ⟨o, h1, h2⟩ F.slot_dict_repr ?_
    refine call_dict_reprK h1 h2 h3 hsys hna (ReprEntriesK.of_two es.toList _ _ q4 q5) (A := X.A.in1) ag (fun b _ => Clear.nil b) (by show X.A.units + 1 + (PyData.depthKv ps + 1) < cLine; omega) (fun _ _ e => e) (fun h' u tk hk => ⟨_, _, rfl, ?_⟩) (by rw [← PyData.shownKv_eq]; exact hz')
    rw [← es']
    exact ⟨.str _, H, I.kept hk, ⟨u, rfl⟩, q⟩
mutual
def D.pyA : D → Option PyData
  | .non => some .none
  | .bl b => some (.bool b)
  | .int i => some (.int i)
  | .str s => some (.str s)
  | .tup ds => (pyAs ds).map .tuple
  | .lst ds => (pyAs ds).map .list
  | .dct kvs => (pyAk kvs).map .dict
  | _ => none
def pyAs : List D → Option (List PyData)
  | [] => some []
  | d :: ds => match d.pyA, pyAs ds with
    | some p, some ps => some (p :: ps)
    | _, _ => none
def pyAk : List (Key × D) → Option (List (PyData × PyData))
  | [] => some []
  | (k, d) :: ds => match d.pyA, pyAk ds with
    | some p, some ps => some ((kP k, p) :: ps)
    | _, _ => none
end
section
variable {K : PySem.W.Frag} {mg : MG} {G : Hp} {ι : List Addr}
mutual
theorem Rep.dpA : ∀ {v : V} {d : D} {p : PyData}, Rep K mg G ι v d → d.pyA = some p → DpA K G v p
  | _, _, _, .non, h => by cases h; exact .non
  | _, _, _, .bl b, h => by cases h; exact .bl b
  | _, _, _, .int i, h => by cases h; exact .int i
  | _, _, _, .str x, h => by cases h; exact .str x
  | _, .lst ds, _, .lst hs _ r, h => by
    simp only [D.pyA, Option.map_eq_some_iff] at h
    obtain ⟨ps, e, rfl⟩ := h
    exact .lst (.inl (.inl hs)) (Reps.dpA r e)
  | _, .tup ds, _, .tup hs _ r, h => by
    simp only [D.pyA, Option.map_eq_some_iff] at h
    obtain ⟨ps, e, rfl⟩ := h
    exact .tup hs (Reps.dpA r e)
  | _, _, _, .lsk _ _ _, h => by simp [D.pyA] at h
  | _, .dct ds, _, .dct hs r, h => by
    simp only [D.pyA, Option.map_eq_some_iff] at h
    obtain ⟨ps, e, rfl⟩ := h
    exact .dct hs (RepK.dpA r e)
  | _, _, _, .dlk _ _, h => by simp [D.pyA] at h
  | _, _, _, .ins _ _ _ _, h => by simp [D.pyA] at h
  | _, _, _, .ref _, h => by simp [D.pyA] at h
  | _, _, _, .glb _ _, h => by simp [D.pyA] at h
  | _, _, _, .typ _, h => by simp [D.pyA] at h
theorem Reps.dpA : ∀ {v : List V} {d : List D} {p : List PyData}, Reps K mg G ι v d → pyAs d = some p → DpAs K G v p
  | _, _, _, .nil, h => by simp only [pyAs, Option.some.injEq] at h; subst h; exact .nil
  | _, d :: ds, _, .cons r rs, h => by
    simp only [pyAs] at h
    split at h
    · rename_i p ps e1 e2
      cases h
      exact .cons (Rep.dpA r e1) (Reps.dpA rs e2)
    · cases h
theorem RepK.dpA : ∀ {v : List (Key × V)} {d : List (Key × D)} {p : List (PyData × PyData)}, RepK K mg G ι v d → pyAk d = some p → DpAk K G v p
  | _, _, _, .nil, h => by simp only [pyAk, Option.some.injEq] at h; subst h; exact .nil
  | _, (k, d) :: ds, _, .cons r rs, h => by
    simp only [pyAk] at h
    split at h
    · rename_i p ps e1 e2
      cases h
      exact .cons (Rep.dpA r e1) (RepK.dpA rs e2)
    · cases h
end
end
open Classical in
noncomputable def pReprA (d : D) : Option D := match d.pyA with
  | some p => if p.showable = true ∧ p.depth ≤ 64 ∧ p.shown.length ≤ sizeLine then some (.str p.shown) else none
  | none => none
theorem ansC_reprA {K : PySem.W.Frag} {mg : MG} : AnsC K mg (rReprA K) pReprA := fun w x d z Q s rx q k => by
  unfold pReprA at q
  split at q
  · rename_i p e
    split at q
    · rename_i c
      cases q
      exact ⟨x, p, rfl, (rx.h s).dpA e, c.1, c.2.1, c.2.2, k _ fun _ _ => .str _⟩
    · cases q
  · cases q
end DL
namespace HT
open PySem PySem.Spec PyProof.Rows
section
variable {prog : Program} {w : World} {A : Around} {E : Value → Shared → Prop} {s : Shared}
theorem sliceApplied_rev {sl : Addr} {vk : Value} {n : Nat} {Q : Int × Int × Nat → Shared → Prop} (hs : s.heap.IsSliceOf sl .none .none vk) (pk : IsPart vk (some (-1)))
    (h : Q (((n : Int) - 1), -1, n) s) : wpAny (model prog w) A (Builtin.Slice.sliceApplied (.ref sl) (pure (n : Int))) Q E s := by
  obtain ⟨os, hos, hcs, hds⟩ := id hs
  unfold Builtin.Slice.sliceApplied Builtin.Slice.sliceFields
  refine wpAny_bind (wpAny_bind (wpAny_field hos hds (x := .none) rfl (wpAny_bind (wpAny_field hos hds (x := .none) rfl (wpAny_bind (wpAny_field hos hds (x := vk) rfl (wpAny_pure ?_)))))))
  refine wpAny_bind (slicePart_ pk ?_)
  show wpAny _ _ (if ((-1 : Int) == 0) = true then _ else _) _ _ s
  rw [if_neg (by decide)]
  refine wpAny_bind (slicePart_none (wpAny_bind (slicePart_none (wpAny_bind (wpAny_pure ?_)))))
  show wpAny _ _ (match Builtin.Slice.sliceAdjust none none (-1) (n : Int) with | (lo, hi) => pure (lo, (-1 : Int), Builtin.Slice.slicePlaces lo hi (-1))) _ _ s
  have e1 : Builtin.Slice.sliceAdjust none none (-1) (n : Int) = ((n : Int) - 1, -1) := by
    unfold Builtin.Slice.sliceAdjust
    simp
  rw [e1]
  have e2 : Builtin.Slice.slicePlaces ((n : Int) - 1) (-1) (-1) = n := by
    unfold Builtin.Slice.slicePlaces
    have h1 : ¬ ((-1 : Int) > 0) := by omega
    simp only [h1, if_false]
    by_cases hn : (n : Int) - 1 > -1
    · rw [if_pos hn]
      have : ((n : Int) - 1 - -1 - 1) / (- -1) + 1 = n := by
        have : (- -1 : Int) = 1 := by omega
        rw [this, Int.ediv_one]; omega
      rw [this]; rfl
    · rw [if_neg hn]; omega
  show wpAny _ _ (pure (((n : Int) - 1), (-1 : Int), Builtin.Slice.slicePlaces ((n : Int) - 1) (-1) (-1))) _ _ s
  rw [e2]
  exact wpAny_pure h
theorem pick_rev (xs : Array Value) : ((List.range xs.size).filterMap fun (m : Nat) => xs[(((xs.size : Int) - 1) + (m : Int) * -1).toNat]?).toArray = xs.toList.reverse.toArray := by
  congr 1
  have : ∀ n, n ≤ xs.size → ((List.range n).filterMap fun (m : Nat) => xs[(((xs.size : Int) - 1) + (m : Int) * -1).toNat]?) = (xs.toList.drop (xs.size - n)).reverse := by
    intro n
    induction n with
    | zero => intro _; simp
    | succ n ih =>
      intro hn
      rw [List.range_succ, List.filterMap_append, ih (by omega)]
      have hi : (((xs.size : Int) - 1) + (n : Int) * -1).toNat = xs.size - (n + 1) := by omega
      have hlt : xs.size - (n + 1) < xs.size := by omega
      have e : xs[xs.size - (n + 1)]? = some xs[xs.size - (n + 1)] := by simp [hlt]
      have hd : xs.toList.drop (xs.size - (n + 1)) = xs[xs.size - (n + 1)] :: xs.toList.drop (xs.size - n) := by
        rw [List.drop_eq_getElem_cons (by simpa using hlt)]
        have : xs.size - (n + 1) + 1 = xs.size - n := by omega
        rw [this]
        simp
      rw [hd, List.reverse_cons]
      congr 1
      simp only [List.filterMap_cons, List.filterMap_nil, hi, e]
  have h := this xs.size (Nat.le_refl _)
  rw [h]
  simp
theorem getItem_tuple_rev {t sl : Addr} {items : Array Value} {vk : Value} {Q : Value → Shared → Prop} (ht : IsTup s.heap t items) (hs : s.heap.IsSliceOf sl .none .none vk) (pk : IsPart vk (some (-1)))
    (h : Q (.ref s.heap.objs.size) { s with heap := s.heap.push { cls := .type "tuple", data := .seq items.toList.reverse.toArray } })
    (hsz : items.size ≤ sizeLine) : wpAny (model prog w) A (getItem (.ref t) (.ref sl)) Q E s := by
  have htake : sizeOk (.seq items.toList.reverse.toArray) := by
    show items.toList.reverse.toArray.size ≤ sizeLine
    rw [List.size_toArray, List.length_reverse, Array.length_toList]
    exact hsz
  obtain ⟨os, hos, hcs, hds⟩ := id hs
  have hTs : s.TypeIs (.ref sl) "slice" := ⟨os, hos, hcs⟩
  unfold getItem
  try with_reducible refine wpAny_holding ?_
  first | refine wpAny_bind (wpAny_pure ?_) | skip
  refine wpAny_bind (wpAny_sequenceKey ht.typeIs (by decide) ?_)
  refine wpAny_bind (wpAny_callSpecial?_slot (name := Str.ofString "__getitem__") ht.typeIs PyProof.Rows.slot_tuple_getitem
    (wpAny_call_entry PyProof.Rows.slot_tuple_getitem ht.typeIs entry_tuple_getitem ?_ (args_tuple_getitem _ _)))
  show wpAny _ _ (Builtin.Tuple.tupleItemsOf (.ref t) >>= _) _ _ s
  refine wpAny_bind (tupleItemsOf_ ht ?_)
  refine wpAny_bind (wpAny_typeOf hTs ?_)
  rw [if_pos (by decide)]
  refine wpAny_bind (sliceApplied_rev hs pk ?_)
  have hno : ¬ ((((items.size : Int) - 1) == 0 && (-1 : Int) == 1 && items.size == items.size) = true) := by
    intro q
    rw [Bool.and_eq_true, Bool.and_eq_true] at q
    exact absurd q.1.2 (by decide)
  show wpAny _ _ (if (((items.size : Int) - 1) == 0 && (-1 : Int) == 1 && items.size == items.size) = true then _ else _) _ _ s
  rw [if_neg hno, pick_rev]
  first
    | exact wpAny_bind (m := Builtin.Tuple.tupleExact _) (wpAny_newObj_type (wpAny_pure ⟨_, rfl, wpAny_pure h⟩) htake)
    | exact wpAny_bind (m := Builtin.Tuple.tupleExact _) (wpAny_newObj_type (wpAny_bind (wpAny_pure (wpAny_pure ⟨_, rfl, wpAny_pure h⟩))) htake)
    | exact wpAny_bind (wpAny_bind (m := Builtin.Tuple.tupleExact _) (wpAny_newObj_type (wpAny_pure (wpAny_pure ⟨_, rfl, wpAny_pure h⟩)) htake))
    | exact wpAny_bind (wpAny_bind (m := Builtin.Tuple.tupleExact _) (wpAny_newObj_type (wpAny_pure ⟨_, rfl, wpAny_pure h⟩) htake))
end
end HT
namespace L2
open PySem PySem.Spec PyProof.Rows
section
variable {X : Cx}
def tRevT (K : PySem.W.Frag) (te : TE) : TE := fun σ H Q => te σ H fun x H1 => ∃ a xs, x = .ref a ∧ SqT K H1 a xs ∧ ∀ p, H1 p = none → Q (.ref p) (upd H1 p (.tup xs.reverse))
theorem pe_revT {e : Expr} {te : TE} {k : Nat} {p1 p2 p3 pos : Pos} (he : PE X e te) : PE X (.Subscript e (.Slice none none (some (.UnaryOp .USub (.Constant (.int 1) k p1) p2)) p3) pos) (tRevT X.K te) := by
  refine ⟨fun pins s σ H Q I h => ?_⟩
  refine Subscript_ (thn (he.run pins s σ H _ I h) fun v s1 ⟨x, H1, I1, r1, q1⟩ => ?_)
  obtain ⟨a, xs, ex, hx, q⟩ := q1
  subst ex
  cases r1
  have hst : PO X (some (.UnaryOp .USub (.Constant (.int 1) k p1) p2)) (tPart (tUn (rU fun i => .int (-i)) (tC (.int 1)))) := po_some (pe_un un_neg pe_int)
  refine wpAny_Slice (thn (po_none.run pins s1 σ H1 (fun o H2 => o = none ∧ H2 = H1) I1 ⟨rfl, rfl⟩) fun vl s2 ⟨l, H2, I2, pl, el, e2⟩ => ?_)
  subst el e2
  refine thn (po_none.run pins s2 σ H2 (fun o H3 => o = none ∧ H3 = H2) I2 ⟨rfl, rfl⟩) fun vu s3 ⟨u, H3, I3, pu, eu, e3⟩ => ?_
  subst eu e3
  refine thn (hst.run pins s3 σ H3 (fun o H4 => o = some (-1) ∧ H4 = H3) I3 ⟨1, rfl, -1, rfl, rfl, rfl⟩) fun vs s4 ⟨o, H4, I4, ps, eo, e4⟩ => ?_
  subst eo e4
  have I5 : Inv X pins σ H4 { s4 with heap := s4.heap.push { cls := .type "slice", data := .fields #[vl, vu, vs] } } := I4.kept (t' := s4.toks) fun b ob q => Heap.get?_push_of_some _ q
  obtain ⟨its, r, ht, hz⟩ := I5.tuple hx
  have hlen := r.length
  cases pl
  cases pu
  show wpAny (model X.prog X.w) X.A (subscriptTail e (.Slice none none (some (.UnaryOp .USub (.Constant (.int 1) k p1) p2)) p3) (.ref a) (.ref s4.heap.objs.size)) (EP X pins σ Q) X.xe { s4 with heap := s4.heap.push { cls := .type "slice", data := .fields #[.none, .none, vs] } }
  refine tail_any (ops := [.ref a, .ref s4.heap.objs.size]) ht.typeIs (PyProof.Rows.slot_tuple_getitem.lookup) ?_ (by with_unfolding_all rfl)
  refine HT.getItem_tuple_rev ht (Heap.IsSliceOf.new _ .none .none vs) ps ?_ (by rw [List.size_toArray]; omega)
  refine ⟨.ref _, _, I5.laid (t' := s4.toks) (o := .tup xs.reverse) (fun b ob q => Heap.get?_push_of_some _ q) (Nat.le_refl _) ?_, rfl, q _ (I5.hok.fresh (Nat.le_refl _))⟩
  refine ⟨by rw [List.length_reverse]; exact hz, _, r.reverse, ?_⟩
  exact IsTup.new _ _
def revS (z : Str) : Str := ⟨z.cps.toList.reverse.toArray⟩
theorem rev_picks (z : Str) : ((Builtin.Str.strSliceIndices none none (-1) z.length).filterMap (z.cps[·]?)) = z.cps.toList.reverse := by
  have e : Builtin.Str.strSliceIndices none none (-1) z.length = sliceRange ((z.length : Int) - 1) (-1) (-1) := by
    unfold Builtin.Str.strSliceIndices
    simp
  rw [e, PySem.W.krv_sliceRange, PySem.W.krv_range, List.filterMap_reverse]
  have := PySem.W.krv_all z.cps
  rw [← this]
  rfl
def tRevS (te : TE) : TE := fun σ H Q => te σ H fun x H1 => ∃ z : Str, x = .str z ∧ z.length ≤ sizeLine ∧ Q (.str (revS z)) H1
theorem pe_revS {e : Expr} {te : TE} {k : Nat} {p1 p2 p3 pos : Pos} (he : PE X e te) : PE X (.Subscript e (.Slice none none (some (.UnaryOp .USub (.Constant (.int 1) k p1) p2)) p3) pos) (tRevS te) := by
  refine ⟨fun pins s σ H Q I h => ?_⟩
  refine Subscript_ (thn (he.run pins s σ H _ I h) fun v s1 ⟨x, H1, I1, r1, q1⟩ => ?_)
  obtain ⟨z, ex, hz, q⟩ := q1
  subst ex
  obtain ⟨t, rfl⟩ := r1
  have hst : PO X (some (.UnaryOp .USub (.Constant (.int 1) k p1) p2)) (tPart (tUn (rU fun i => .int (-i)) (tC (.int 1)))) := po_some (pe_un un_neg pe_int)
  refine wpAny_Slice (thn (po_none.run pins s1 σ H1 (fun o H2 => o = none ∧ H2 = H1) I1 ⟨rfl, rfl⟩) fun vl s2 ⟨l, H2, I2, pl, el, e2⟩ => ?_)
  subst el e2
  refine thn (po_none.run pins s2 σ H2 (fun o H3 => o = none ∧ H3 = H2) I2 ⟨rfl, rfl⟩) fun vu s3 ⟨u, H3, I3, pu, eu, e3⟩ => ?_
  subst eu e3
  refine thn (hst.run pins s3 σ H3 (fun o H4 => o = some (-1) ∧ H4 = H3) I3 ⟨1, rfl, -1, rfl, rfl, rfl⟩) fun vs s4 ⟨o, H4, I4, ps, eo, e4⟩ => ?_
  subst eo e4
  have I5 : Inv X pins σ H4 { s4 with heap := s4.heap.push { cls := .type "slice", data := .fields #[vl, vu, vs] } } := I4.kept (t' := s4.toks) fun b ob q => Heap.get?_push_of_some _ q
  cases pl
  cases pu
  obtain ⟨u, rfl, eu⟩ := IsPart.raw ps
  show wpAny (model X.prog X.w) X.A (subscriptTail e (.Slice none none (some (.UnaryOp .USub (.Constant (.int 1) k p1) p2)) p3) (.str z t) (.ref s4.heap.objs.size)) (EP X pins σ Q) X.xe _
  refine tail_any (ops := [.str z t, .ref s4.heap.objs.size]) (typeIs_str _ _ _) (F.slot_str_getitem.lookup) ?_ (by with_unfolding_all rfl)
  refine wpAny_getItem_str_slice (l := none) (u := none) (st := u) ⟨_, Heap.get?_push_size _ rfl, rfl, rfl⟩ (by rw [eu]; rfl) ?_
  unfold sliceMade slicePicked
  rw [eu]
  show Made.post (if ((-1 : Int) == 1 && (Builtin.Str.strSliceIndices none none (-1) z.length).length == z.length) = true then Made.val (.str z t) else Made.str ⟨((Builtin.Str.strSliceIndices none none (-1) z.length).filterMap (z.cps[·]?)).toArray⟩) (EP X pins σ Q) _
  rw [if_neg (by simp), rev_picks]
  refine ⟨?_, .str _, H4, I5.tok _, ⟨_, rfl⟩, q⟩
  show z.cps.toList.reverse.toArray.size ≤ sizeLine
  rw [List.size_toArray, List.length_reverse, Array.length_toList]
  exact hz
end
end L2
namespace DL
open PySem PySem.Spec PyProof.Rows L2
@[simp] def pRvT : D → Option D
  | .tup ds => some (.tup ds.reverse)
  | _ => none
@[simp] def pRvS : D → Option D
  | .str z => if z.length ≤ sizeLine then some (.str (revS z)) else none
  | _ => none
@[simp] def pUp : D → Option D
  | .str z => if z.length ≤ 1000 then some (.str (Txt.upper z)) else none
  | _ => none
theorem mt_upper {X : Cx} : MtR X "str.upper" (fun x xs H Q => ∃ a, x = .str a ∧ xs = [] ∧ a.length ≤ 1000 ∧ Q (.str (Txt.upper a)) H) :=
  mt0 (C := fun a => a.length ≤ 1000) (g := fun a => .str (Txt.upper a)) fun _ _ _ _ hc h => PyProof.Rows.SCL.upper (by omega) fun _ => h _ _ ⟨_, rfl⟩
section
variable {X : Cx} {W : WB} {e o : Expr} {f g : DEx} {k : Nat} {p1 p2 p3 pos apos : Pos}
theorem de_rvT (he : DE X W e f) : DE X W (.Subscript e (.Slice none none (some (.UnaryOp .USub (.Constant (.int 1) k p1) p2)) p3) pos) (lift1 pRvT f) := by
  obtain ⟨te, pe, re⟩ := he
  refine ⟨_, pe_revT pe, fun w Q s q => ?_⟩
  refine re.bindR (Q := Q) s q fun w1 v d s1 e1 a1 r1 q1 => ?_
  cases d with
  | tup ds =>
    simp only [pRvT] at q1
    cases r1 with
    | tup h1 l1 rs =>
      rename_i a vs
      refine ⟨a, vs, rfl, SqT.mono s1.sub h1, fun p hp => ?_⟩
      have A := Aft.alloc (o := .tup vs.reverse) s1 hp
      exact q1 { w1 with G := upd w1.G p (.tup vs.reverse), H := upd w1.H p (.tup vs.reverse) } (.ref p) rfl rfl rfl A (.tup (.inl (.inl upd_same)) (by rw [List.length_reverse]; exact l1) (rs.reverse.mono A.g A.i))
  | _ => exact q1.elim
theorem de_rvS (he : DE X W e f) : DE X W (.Subscript e (.Slice none none (some (.UnaryOp .USub (.Constant (.int 1) k p1) p2)) p3) pos) (lift1 pRvS f) := by
  obtain ⟨te, pe, re⟩ := he
  refine ⟨_, pe_revS pe, fun w Q s q => ?_⟩
  refine re.bindR (Q := Q) s q fun w1 v d s1 e1 a1 r1 q1 => ?_
  cases d with
  | str z =>
    simp only [pRvS] at q1
    split at q1
    · rename_i e2
      split at e2
      · rename_i hz
        cases e2
        cases r1
        exact ⟨z, rfl, hz, q1 w1 _ rfl rfl rfl (Aft.refl s1) (.str _)⟩
      · cases e2
    · exact q1.elim
  | _ => exact q1.elim
theorem de_upper (ho : DE X W o f) (hbase : attributeBase o "upper" X.env (eval o X.env) = eval o X.env := by rfl) (hline : (apos.endLine == pos.line) = true := by rfl) : DE X W (.Call (.Attribute o "upper" apos) [] [] pos) (lift1 pUp f) := by
  obtain ⟨te, pe, re⟩ := ho
  refine ⟨_, pe_bm0 PySem.F.plainAttrs_str PySem.F.slot_str_upper PySem.F.type_str_upper mt_upper pe hbase hline, fun w Q s q => ?_⟩
  refine re.bindR (Q := Q) s q fun w1 v d s1 e1 a1 r1 q1 => ?_
  cases d with
  | str z =>
    simp only [pUp] at q1
    split at q1
    · rename_i e2
      split at e2
      · rename_i hz
        cases e2
        cases r1
        exact ⟨rfl, z, rfl, rfl, hz, q1 w1 _ rfl rfl rfl (Aft.refl s1) (.str _)⟩
      · cases e2
    · exact q1.elim
  | _ => exact q1.elim
end
end DL
namespace DL
open PySem PySem.Spec PyProof.Rows L2 PySem.W
def rEqDd (K : PySem.W.Frag) : R2 := fun x y H Q => ∃ (a b : Addr) (ks ls : List (Key × V)) (e : Key → Bool), x = .ref a ∧ y = .ref b ∧ Rd H a (.dK ks) ∧ Rd H b (.dK ls) ∧
  (∀ p ∈ ks, ∀ z, valV ls p.1 = some z → ∃ d1 d2, Dp K H p.2 d1 ∧ Dp K H z d2 ∧ SeqAt.shaped d1 = true ∧ SeqAt.shaped d2 = true ∧ e p.1 = PyData.eqv d1 d2) ∧ Q (.bl (ks.length == ls.length && ks.all fun p => (valV ls p.1).isSome && e p.1)) H
theorem op_eqDd {X : Cx} (hu : X.A.units + 80 < cLine) : OpR X (compareOp .Eq) (rEqDd X.K) := fun pins s σ H x y v u Q I rx ry h => by
  obtain ⟨a, b, ks, ls, e, rfl, rfl, ha, hb, cmp, q⟩ := h
  cases rx
  cases ry
  obtain ⟨_, na, va, ra, da⟩ := dk_rd I.hok ha
  obtain ⟨_, nb, vb, rb, db⟩ := dk_rd I.hok hb
  have hits : ∀ {us : List (Key × V)} {ws : List (Key × Value)}, (∀ p ∈ us, p ∈ ks) → KV us ws → KeqHits X.A.in1 s vb ws (us.all fun p => (valV ls p.1).isSome && e p.1) := fun {us ws} sub r => by
    induction r with
    | nil => exact .nil
    | @cons p w us ws hp _ ih =>
      obtain ⟨kk, x⟩ := p
      obtain ⟨kw, vw⟩ := w
      obtain ⟨ek, rv⟩ := hp
      dsimp only at ek rv
      subst ek
      have rv2 := rb.val kk
      have ih := ih fun p m => sub p (List.mem_cons_of_mem _ m)
      cases hv : valV ls kk with
      | none =>
        rw [hv] at rv2
        cases hy : valueAt vb kk with
        | some y => rw [hy] at rv2; exact rv2.elim
        | none =>
          have : (((kk, x) :: us).all fun p => (valV ls p.1).isSome && e p.1) = false := by simp [hv]
          rw [this]
          exact .miss hy
      | some z =>
        rw [hv] at rv2
        cases hy : valueAt vb kk with
        | none => rw [hy] at rv2; exact rv2.elim
        | some y =>
          rw [hy] at rv2
          have : (((kk, x) :: us).all fun p => (valV ls p.1).isSome && e p.1) = (e kk && us.all fun p => (valV ls p.1).isSome && e p.1) := by simp [hv]
          rw [this]
          obtain ⟨d1, d2, h1, h2, s1, s2, he⟩ := cmp (kk, x) (sub _ (by simp)) z hv
          dsimp only at h1 he
          obtain ⟨as, r1⟩ := Dp.reads I d1 _ _ h1 rv
          obtain ⟨bs, r2⟩ := Dp.reads I d2 _ _ h2 rv2
          rw [he]
          exact .hit hy (keq_at r1 r2 s1 s2 (by first | (show X.A.units + 1 + 64 < cLine; omega) | (simp [Around.in1]; omega))) ih
  refine keq_eq na nb da db (by omega) (fun _ => hits (fun _ m => m) ra) ?_
  refine ⟨.bl _, H, I, rfl, ?_⟩
  rw [← ra.length, ← rb.length]
  exact q
open Classical in
noncomputable def pEqDk : D → D → Option D
  | .dlk ks, .dlk ls => if (ks.map (·.1)).Nodup ∧ ∀ p ∈ ks, ∀ z, getK ls p.1 = some z → (pEqB p.2 z).isSome = true then
      some (.bl (ks.length == ls.length && ks.all fun p => (getK ls p.1).isSome && decide (∀ z, getK ls p.1 = some z → pEqB p.2 z = some true))) else none
  | _, _ => none
open Classical in
theorem ans_eqDk {K : PySem.W.Frag} {mg : MG} : Ans2 K mg (rEqDd K) pEqDk := fun w x y d e z Q s rx ry q k => by
  unfold pEqDk at q
  split at q
  · rename_i ks ls
    split at q
    · rename_i cond
      cases q
      obtain ⟨nd, tot⟩ := cond
      have hx := rx.h s
      have hy := ry.h s
      cases hx with
      | dlk ga rk =>
        rename_i a oa vs
        cases hy with
        | dlk gb rk' =>
          rename_i b ob us
          refine ⟨a, b, vs, us, fun kk => decide (∀ x y, getK ks kk = some x → getK ls kk = some y → pEqB x y = some true), rfl, rfl, .inr ⟨_, ga⟩, .inr ⟨_, gb⟩, fun p hp z hz => ?_, ?_⟩
          · obtain ⟨kk, pv⟩ := p
            dsimp only at hz ⊢
            obtain ⟨x, mx, rxx⟩ := repK_mem rk hp
            have gx := getK_mem nd mx
            rcases repK_val (k := kk) rk' with ⟨n, _⟩ | ⟨z', y, ez, gy, ryy⟩
            · rw [n] at hz; cases hz
            · rw [ez] at hz
              cases hz
              have iss := tot _ mx y gy
              dsimp only at iss
              obtain ⟨bb, eb⟩ := Option.isSome_iff_exists.mp iss
              obtain ⟨p, p', e1, e2, s1, s2, e3⟩ := pEqB_inv eb
              refine ⟨p, p', rxx.dp e1, ryy.dp e2, s1, s2, ?_⟩
              rw [← e3]
              cases bb with
              | true => exact decide_eq_true fun x' y' hx' hy' => by rw [gx] at hx'; rw [gy] at hy'; cases hx'; cases hy'; exact eb
              | false => exact decide_eq_false fun z => by have := z _ _ gx gy; rw [eb] at this; cases this
          · have key : ∀ {ws : List (Key × V)} {es : List (Key × D)}, (∀ p ∈ es, p ∈ ks) → RepK K mg w.H w.ι ws es →
                (ws.all fun p => (valV us p.1).isSome && decide (∀ x y, getK ks p.1 = some x → getK ls p.1 = some y → pEqB x y = some true)) = (es.all fun p => (getK ls p.1).isSome && decide (∀ z, getK ls p.1 = some z → pEqB p.2 z = some true)) := by
              intro ws es sub r
              induction es generalizing ws with
              | nil => cases r; rfl
              | cons pe es ih =>
                obtain ⟨k0, d0⟩ := pe
                cases r with
                | cons r1 r2 =>
                  have g0 := getK_mem nd (sub (k0, d0) (by simp))
                  simp only [List.all_cons]
                  rw [ih (fun p hp => sub p (by simp [hp])) r2, isSome_get rk']
                  congr 2
                  exact decide_eq_decide.mpr ⟨fun z y hy => z d0 y g0 hy, fun z x y hx hy => by rw [g0] at hx; cases hx; exact z y hy⟩
            rw [key (fun _ m => m) rk, rk.len, rk'.len]
            exact k _ fun _ _ => .bl _
    · cases q
  · cases q
end DL
namespace DL
open PySem PySem.Spec PyProof.Rows L2
@[simp] def ixOD (i : Nat) (g : DEx) (ρ0 : En) (st0 : Store) : R := match holdsL i ρ0 st0 with
  | true => (g ρ0 st0).bind fun j ρ st => match ρ[i]? with
    | some (.ml ds) => (match pIx (.lst ds) j with
      | some z => .ok z ρ st
      | none => .bad)
    | _ => .bad
  | false => .bad
section
variable {X : Cx} {W : WB} {j : Expr} {g : DEx} {x : Str} {np pos : Pos} {i : Nat}
theorem de_ixO (hj : DE X W j g) (hs : PlainIx j)
    (hN : X.N[i]? = some x := by rfl) (hv : Vis X.env.scope x := by first | exact Or.inl rfl | exact Or.inr (Or.inl rfl) | exact Or.inr (Or.inr rfl)) (hd : (x == ("__debug__" : Str)) = false := by decide) (hcd : (x == ("__classdict__" : Str)) = false := by decide) :
    DE X W (.Subscript (.Name x np) j pos) (ixOD i g) := by
  obtain ⟨tj, pj, rj⟩ := hj
  refine ⟨_, pe_ix ix_seq (pv i hN hv hd hcd) pj hs, fun w Q s h => ?_⟩
  cases z : holdsL i w.ρ w.st with
  | false =>
    unfold ixOD at h
    rw [z] at h
    exact h.elim
  | true =>
    unfold ixOD at h
    rw [z] at h
    obtain ⟨a, vs0, h1, _⟩ := holdsL_inv s z
    refine ⟨.ref a, h1, ?_⟩
    refine rj.bindR (Q := Q) s h fun w2 y e s2 e2 a2 r2 h2 => ?_
    split at h2
    · rename_i ds hl
      obtain ⟨a', vs, k1, k2, k3, k4, k5⟩ := s2.slo i _ hl
      rw [e2, h1] at k1
      cases k1
      cases y' : pIx (.lst ds) e with
      | none => simp only [y'] at h2; exact h2.elim
      | some z' =>
        simp only [y'] at h2
        exact ans_ix w2 (.ref a) y (.lst ds) e z' Q s2 (.inr (.inl ⟨a, vs, ds, rfl, rfl, k3, k4, k5⟩)) (.inl r2) y' fun v rv => h2 w2 v rfl rfl rfl (Aft.refl s2) rv
    · exact h2.elim
end
def k_ixO (i : Nat) (P : D → En → Store → Prop) (j : D) (ρ : En) (st : Store) : Prop := EOk (match ρ[i]? with
    | some (.ml ds) => (match pIx (.lst ds) j with
      | some z => .ok z ρ st
      | none => .bad)
    | _ => .bad) P
@[simp ↓] theorem EOk_ixO {i : Nat} {g : DEx} {ρ : En} {st : Store} {P : D → En → Store → Prop} : EOk (ixOD i g ρ st) P ↔ (holdsL i ρ st = true ∧ EOk (g ρ st) (k_ixO i P)) := by
  unfold ixOD
  cases holdsL i ρ st with
  | true => exact (EOk_bind _ _).trans ⟨fun h => ⟨rfl, h⟩, fun h => h.2⟩
  | false => exact ⟨fun h => h.elim, fun h => by cases h.1⟩
@[simp] theorem k_ixO_eq {i : Nat} {P : D → En → Store → Prop} {j : D} {ρ : En} {st : Store} : k_ixO i P j ρ st = EOk (match ρ[i]? with
    | some (.ml ds) => (match pIx (.lst ds) j with
      | some z => .ok z ρ st
      | none => .bad)
    | _ => .bad) P := rfl
end DL
set_option maxHeartbeats 4000000
namespace LW
open PySem L2 L2H DL
def top (i : Nat) : Stmt := PySem.Challenge.pw_allheard_k55_whole_reasons_spoilt_anywhe.main.body.getD i (.Pass ⟨0, 0, 0, 0⟩)
structure Fx (K : PySem.W.Frag) (mg : Str → Option Value) : Prop where
  n_abs : mg "abs" = none
  n_all : mg "all" = none
  n_bool : mg "bool" = none
  n_enumerate : mg "enumerate" = none
  n_int : mg "int" = none
  n_isinstance : mg "isinstance" = none
  n_len : mg "len" = none
  n_list : mg "list" = none
  n_max : mg "max" = none
  n_min : mg "min" = none
  n_range : mg "range" = none
  n_repr : mg "repr" = none
  n_set : mg "set" = none
  n_sorted : mg "sorted" = none
  n_str : mg "str" = none
  n_tuple : mg "tuple" = none
  c_LATER : ∃ t, mg "LATER" = some (.str "later" t)
  c_LETTERS : ∃ t, mg "LETTERS" = some (.str "abcdefghijklmnopqrstuvwxyz" t)
  c_MOST_LETTERS : ∃ t, mg "MOST_LETTERS" = some (.int 8 t)
abbrev s__law_bag : Stmt := top 20
abbrev N__law_bag : List Str := ["_law_script", "_law_at", "_law_cell", "_law_mix", "_law_k"]
theorem sc__law_bag : FnScope N__law_bag ["_law_script", "_law_at"] (defScope s__law_bag) := ⟨rfl, rfl, rfl, by decide +kernel, rfl, by decide +kernel, by decide +kernel⟩
noncomputable def f__law_bag_1 : DSx :=
  (setD (lift2 pMod (lift2 addK (lift2 addK (lift2 mulK (vr 3) (cst (.int 48271))) (lift2 pMod (pureE (plift2 pIx (pvw 0) (pvr 4))) (cst (.int 2147483647)))) (vr 4)) (cst (.int 2147483629))) (gN 3))
noncomputable def b__law_bag : DSx :=
  (seqD (setD (cst (.int 0)) (gN 2))
  (seqD (ifD (lift2 pLtX (vr 1) (lift1 pLen (pureE (pvw 0))))
    (setD (lift1 pAbs (pureE (plift2 pIx (pvw 0) (pvr 1)))) (gN 2))
    nxD)
  (seqD (setD (lift2 addK (lift2 mulK (cst (.int 7919)) (vr 1)) (cst (.int 17))) (gN 3))
  (seqD (forE (rng1 (aCons (lift2 pMin (lift1 pLen (pureE (pvw 0))) (cst (.int 60))) aNil)) (gN 4)
    f__law_bag_1)
  (seqD (ifD (lift2 pLtX (vr 2) (lift2 pPowW (cst (.int 10)) (cst (.int 18))))
    (setD (cst (.int 0)) (gN 2))
    nxD)
  (retCD (lstD (aCons (vr 2) (aCons (vr 3) aNil)))))))))
noncomputable def d__law_bag : Den := runD 5 b__law_bag
theorem bd__law_bag {P : Program} {wd : World} {K : PySem.W.Frag} {mg : Str → Option Value} {base : Heap} (T : Fx K mg)  {f : Addr} {A : Around} {outer : List Env} {s : Shared} {H : Hp} {E : XK} {cdv : Value} (hr : Room 0 (A.deeper (PyProof.Rows.envOfC "_law_bag" (defScope s__law_bag) s.heap.objs.size f cdv))) : DSs (cxOf (L2N.CX P wd) P wd K mg base N__law_bag "_law_bag" (defScope s__law_bag) f cdv A outer s H E) (WEx E) (defBody s__law_bag) b__law_bag :=
  have sc := sc__law_bag
  (dss_cons (ds_set (i := 2) sc.nd (by rfl) (Or.inl (by rfl)) de_int)
  (dss_cons (ds_if (dt_cmp (op_ltA hr.units) ans_ltX (nomark _) (de_vr 1) (DE.v (de_b1 call_len ansC_len (by rfl) T.n_len b_len (DPv.v (dp_vw 0)))))
    (dss_one (ds_set (i := 2) sc.nd (by rfl) (Or.inl (by rfl)) (de_b1 call_abs ansC_abs (by rfl) T.n_abs b_abs (DE.v (DP.e (dp_ix (dp_vw 0) (dp_vr 1) (fun _ _ => (by rfl))))))))
    dss_nil)
  (dss_cons (ds_set (i := 3) sc.nd (by rfl) (Or.inl (by rfl)) (de_addX (de_mulX de_int (de_vr 1)) de_int))
  (dss_cons (ds_for (passes_of (by rfl)) (by rfl) (di_range1 (by rfl) T.n_range (da_cons (de_b2 (call_min2 (by rfl)) ansC_min (by rfl) T.n_min b_min (de_b1 call_len ansC_len (by rfl) T.n_len b_len (DPv.v (dp_vw 0))) (DE.v de_int)) da_nil)) (dg_name (i := 4) sc.nd (by rfl) (Or.inl (by rfl)))
    (dss_one (ds_set (i := 3) sc.nd (by rfl) (Or.inl (by rfl)) (de_mod (de_addX (de_addX (de_mulX (de_vr 3) de_int) (de_mod (DP.e (dp_ix (dp_vw 0) (dp_vr 4) (fun _ _ => (by rfl)))) de_int)) (de_vr 4)) de_int))))
  (dss_cons (ds_if (dt_cmp (op_ltA hr.units) ans_ltX (nomark _) (de_vr 2) (DE.v (de_powW de_int de_int)))
    (dss_one (ds_set (i := 2) sc.nd (by rfl) (Or.inl (by rfl)) de_int))
    dss_nil)
  (dss_one (ds_retC (do_lst (da_cons (de_vr 2) (da_cons (de_vr 3) da_nil))))))))))
abbrev s__law_take : Stmt := top 21
abbrev N__law_take : List Str := ["_law_bag_here", "_law_many", "_law_digit"]
theorem sc__law_take : FnScope N__law_take ["_law_bag_here", "_law_many"] (defScope s__law_take) := ⟨rfl, rfl, rfl, by decide +kernel, rfl, by decide +kernel, by decide +kernel⟩
noncomputable def b__law_take : DSx :=
  (seqD (ifD (lift2 pGtX (pureE (plift2 pIx (pvw 0) (pcst (.int 0)))) (cst (.int 0)))
    (seqD (setD (lift2 pMod (pureE (plift2 pIx (pvw 0) (pcst (.int 0)))) (vr 1)) (gN 2))
  (seqD (subSetD 0 (pcst (.int 0)) (lift2 pDiv (pureE (plift2 pIx (pvw 0) (pcst (.int 0)))) (vr 1)))
  (retD (vr 2))))
    nxD)
  (seqD (subSetD 0 (pcst (.int 1)) (lift2 pMod (lift2 addK (lift2 mulK (pureE (plift2 pIx (pvw 0) (pcst (.int 1)))) (cst (.int 48271))) (cst (.int 7919))) (cst (.int 2147483647))))
  (retD (lift2 pMod (lift2 pMod (lift2 mulK (lift2 pDiv (pureE (plift2 pIx (pvw 0) (pcst (.int 1)))) (cst (.int 8))) (cst (.int 69621))) (cst (.int 2147483629))) (vr 1)))))
noncomputable def d__law_take : Den := runD 3 b__law_take
theorem bd__law_take {P : Program} {wd : World} {K : PySem.W.Frag} {mg : Str → Option Value} {base : Heap} (T : Fx K mg)  {f : Addr} {A : Around} {outer : List Env} {s : Shared} {H : Hp} {E : XK} {cdv : Value} (hr : Room 0 (A.deeper (PyProof.Rows.envOfC "_law_take" (defScope s__law_take) s.heap.objs.size f cdv))) : DSs (cxOf (L2N.CX P wd) P wd K mg base N__law_take "_law_take" (defScope s__law_take) f cdv A outer s H E) (WEx E) (defBody s__law_take) b__law_take :=
  have sc := sc__law_take
  (dss_cons (ds_if (dt_cmp (op_gtA hr.units) ans_gtX (nomark _) (DP.e (dp_ix (dp_vw 0) dp_int (fun _ _ => (by rfl)))) (DE.v de_int))
    (dss_cons (ds_set (i := 2) sc.nd (by rfl) (Or.inl (by rfl)) (de_mod (DP.e (dp_ix (dp_vw 0) dp_int (fun _ _ => (by rfl)))) (de_vr 1)))
  (dss_cons (ds_sub (i := 0) (de_div (DP.e (dp_ix (dp_vw 0) dp_int (fun _ _ => (by rfl)))) (de_vr 1)) dp_int)
  (dss_one (ds_ret (de_vr 2)))))
    dss_nil)
  (dss_cons (ds_sub (i := 0) (de_mod (de_addX (de_mulX (DP.e (dp_ix (dp_vw 0) dp_int (fun _ _ => (by rfl)))) de_int) de_int) de_int) dp_int)
  (dss_one (ds_ret (de_mod (de_mod (de_mulX (de_div (DP.e (dp_ix (dp_vw 0) dp_int (fun _ _ => (by rfl)))) de_int) de_int) de_int) (de_vr 1))))))
abbrev s__law_names : Stmt := top 22
abbrev N__law_names : List Str := ["_law_bag_here", "_law_many", "_law_letters", "_law_size", "_law_spot", "_law_first", "_law_base", "_law_k", "_law_long", "_law_names_here", "_law_sign"]
theorem sc__law_names : FnScope N__law_names ["_law_bag_here", "_law_many"] (defScope s__law_names) := ⟨rfl, rfl, rfl, by decide +kernel, rfl, by decide +kernel, by decide +kernel⟩
noncomputable def f__law_names_1 : DSx :=
  (seqD (setD (pureE (plift2 pIx (pvw 2) (plift2 pMod (plift2 (iop0 (· + ·)) (pvr 5) (pvr 7)) (pcst (.int 26))))) (gN 10))
  (ifD (vr 8)
    (exprD (mutD 9 kApp (aCons (lift2 mulK (vr 10) (lift2 addK (cst (.int 1)) (lift2 pMod (vr 7) (cst (.int 8))))) aNil)))
    (exprD (mutD 9 kApp (aCons (lift2 addK (lift2 addK (slX kSl (vr 6) bdN (bdS (vr 4))) (vr 10)) (slX kSl (vr 6) (bdS (lift2 addK (vr 4) (cst (.int 1)))) bdN)) aNil)))))
noncomputable def f__law_names_2 : DSx :=
  (setD (lift2 addK (vr 6) (lift2 pIx (vr 2) (callD d__law_take (aCons (vr 0) (aCons (cst (.int 26)) aNil))))) (gN 6))
noncomputable def b__law_names : DSx :=
  (seqD (setD (cst (.str "abcdefghijklmnopqrstuvwxyz")) (gN 2))
  (seqD (setD (lift2 addK (cst (.int 1)) (callD d__law_take (aCons (vr 0) (aCons (cst (.int 8)) aNil)))) (gN 3))
  (seqD (setD (callD d__law_take (aCons (vr 0) (aCons (vr 3) aNil))) (gN 4))
  (seqD (setD (callD d__law_take (aCons (vr 0) (aCons (cst (.int 26)) aNil))) (gN 5))
  (seqD (setD (cst (.str "")) (gN 6))
  (seqD (forE (rng1 (aCons (vr 3) aNil)) (gN 7)
    f__law_names_2)
  (seqD (setD (lift2 pEq (callD d__law_take (aCons (vr 0) (aCons (cst (.int 3)) aNil))) (cst (.int 0))) (gN 8))
  (seqD (setOD (lstD aNil) 9)
  (seqD (forE (rng1 (aCons (vr 1) aNil)) (gN 7)
    f__law_names_1)
  (retD (frzE 9)))))))))))
noncomputable def d__law_names : Den := runD 11 b__law_names
theorem bd__law_names {P : Program} {wd : World} {K : PySem.W.Frag} {mg : Str → Option Value} {base : Heap} (T : Fx K mg) (C__law_take : Cal P wd K mg base 1 "_law_take" 2 d__law_take) {f : Addr} {A : Around} {outer : List Env} {s : Shared} {H : Hp} {E : XK} {cdv : Value} (hr : Room 1 (A.deeper (PyProof.Rows.envOfC "_law_names" (defScope s__law_names) s.heap.objs.size f cdv))) : DSs (cxOf (L2N.CX P wd) P wd K mg base N__law_names "_law_names" (defScope s__law_names) f cdv A outer s H E) (WEx E) (defBody s__law_names) b__law_names :=
  have sc := sc__law_names
  (dss_cons (ds_set (i := 2) sc.nd (by rfl) (Or.inl (by rfl)) de_str)
  (dss_cons (ds_set (i := 3) sc.nd (by rfl) (Or.inl (by rfl)) (de_addX de_int (Cal.call C__law_take hr (by omega) (by rfl) (L2N.takes_of (by rfl) (by rfl) (by rfl) (by rfl)) (da_cons (de_vr 0) (da_cons de_int da_nil)))))
  (dss_cons (ds_set (i := 4) sc.nd (by rfl) (Or.inl (by rfl)) (Cal.call C__law_take hr (by omega) (by rfl) (L2N.takes_of (by rfl) (by rfl) (by rfl) (by rfl)) (da_cons (de_vr 0) (da_cons (de_vr 3) da_nil))))
  (dss_cons (ds_set (i := 5) sc.nd (by rfl) (Or.inl (by rfl)) (Cal.call C__law_take hr (by omega) (by rfl) (L2N.takes_of (by rfl) (by rfl) (by rfl) (by rfl)) (da_cons (de_vr 0) (da_cons de_int da_nil))))
  (dss_cons (ds_set (i := 6) sc.nd (by rfl) (Or.inl (by rfl)) de_str)
  (dss_cons (ds_for (passes_of (by rfl)) (by rfl) (di_range1 (by rfl) T.n_range (da_cons (de_vr 3) da_nil)) (dg_name (i := 7) sc.nd (by rfl) (Or.inl (by rfl)))
    (dss_one (ds_set (i := 6) sc.nd (by rfl) (Or.inl (by rfl)) (de_addX (de_vr 6) (de_ix (de_vr 2) (Cal.call C__law_take hr (by omega) (by rfl) (L2N.takes_of (by rfl) (by rfl) (by rfl) (by rfl)) (da_cons (de_vr 0) (da_cons de_int da_nil))) (fun _ _ => (by rfl)))))))
  (dss_cons (ds_set (i := 8) sc.nd (by rfl) (Or.inl (by rfl)) (de_cmp (op_eqD hr.units) ans_eq (nomark _) (Cal.call C__law_take hr (by omega) (by rfl) (L2N.takes_of (by rfl) (by rfl) (by rfl) (by rfl)) (da_cons (de_vr 0) (da_cons de_int da_nil))) (DE.v de_int)))
  (dss_cons (ds_setO (i := 9) sc.nd (by rfl) (Or.inl (by rfl)) (do_lst da_nil))
  (dss_cons (ds_for (passes_of (by rfl)) (by rfl) (di_range1 (by rfl) T.n_range (da_cons (de_vr 1) da_nil)) (dg_name (i := 7) sc.nd (by rfl) (Or.inl (by rfl)))
    (dss_cons (ds_set (i := 10) sc.nd (by rfl) (Or.inl (by rfl)) (DP.e (dp_ix (dp_vw 2) (dp_mod (dp_add (dp_vr 5) (dp_vr 7)) dp_int) (fun _ _ => (by rfl)))))
  (dss_one (ds_if (dt_val (de_vr 8))
    (dss_one (ds_expr (de_mut (i := 9) PySem.F.slot_list_append PySem.F.type_list_append mt_append ansM_app (da_cons (de_mulX (de_vr 10) (de_addX de_int (de_mod (de_vr 7) de_int))) da_nil))))
    (dss_one (ds_expr (de_mut (i := 9) PySem.F.slot_list_append PySem.F.type_list_append mt_append ansM_app (da_cons (de_addX (de_addX (de_slice (de_vr 6) db_none (db_some (de_vr 4))) (de_vr 10)) (de_slice (de_vr 6) (db_some (de_addX (de_vr 4) de_int)) db_none)) da_nil))))))))
  (dss_one (ds_ret (de_frz 9))))))))))))
abbrev s__law_thing : Stmt := top 25
abbrev N__law_thing : List Str := ["_law_bag_here", "_law_words", "_law_things", "_law_way"]
theorem sc__law_thing : FnScope N__law_thing ["_law_bag_here", "_law_words", "_law_things"] (defScope s__law_thing) := ⟨rfl, rfl, rfl, by decide +kernel, rfl, by decide +kernel, by decide +kernel⟩
noncomputable def b__law_thing : DSx :=
  (seqD (setD (callD d__law_take (aCons (vr 0) (aCons (cst (.int 6)) aNil))) (gN 3))
  (seqD (ifD (lift2 pEq (vr 3) (cst (.int 0)))
    (retD (cst .non))
    nxD)
  (seqD (ifD (lift2 pEq (vr 3) (cst (.int 1)))
    (retD (aCons (cst (.str "later")) (aCons (lift2 pIx (vr 1) (callD d__law_take (aCons (vr 0) (aCons (lift1 pLen (pureE (pvw 1))) aNil)))) aNil)))
    nxD)
  (retD (lift2 pIx (vr 2) (callD d__law_take (aCons (vr 0) (aCons (lift1 pLen (pureE (pvw 2))) aNil))))))))
noncomputable def d__law_thing : Den := runD 4 b__law_thing
theorem bd__law_thing {P : Program} {wd : World} {K : PySem.W.Frag} {mg : Str → Option Value} {base : Heap} (T : Fx K mg) (C__law_take : Cal P wd K mg base 1 "_law_take" 2 d__law_take) {f : Addr} {A : Around} {outer : List Env} {s : Shared} {H : Hp} {E : XK} {cdv : Value} (hr : Room 1 (A.deeper (PyProof.Rows.envOfC "_law_thing" (defScope s__law_thing) s.heap.objs.size f cdv))) : DSs (cxOf (L2N.CX P wd) P wd K mg base N__law_thing "_law_thing" (defScope s__law_thing) f cdv A outer s H E) (WEx E) (defBody s__law_thing) b__law_thing :=
  have sc := sc__law_thing
  (dss_cons (ds_set (i := 3) sc.nd (by rfl) (Or.inl (by rfl)) (Cal.call C__law_take hr (by omega) (by rfl) (L2N.takes_of (by rfl) (by rfl) (by rfl) (by rfl)) (da_cons (de_vr 0) (da_cons de_int da_nil))))
  (dss_cons (ds_if (dt_cmp (op_eqD hr.units) ans_eq (nomark _) (de_vr 3) (DE.v de_int))
    (dss_one (ds_ret de_non))
    dss_nil)
  (dss_cons (ds_if (dt_cmp (op_eqD hr.units) ans_eq (nomark _) (de_vr 3) (DE.v de_int))
    (dss_one (ds_ret (de_tup (da_cons de_str (da_cons (de_ix (de_vr 1) (Cal.call C__law_take hr (by omega) (by rfl) (L2N.takes_of (by rfl) (by rfl) (by rfl) (by rfl)) (da_cons (de_vr 0) (da_cons (de_b1 call_len ansC_len (by rfl) T.n_len b_len (DPv.v (dp_vw 1))) da_nil))) (fun _ _ => (by rfl))) da_nil)))))
    dss_nil)
  (dss_one (ds_ret (de_ix (de_vr 2) (Cal.call C__law_take hr (by omega) (by rfl) (L2N.takes_of (by rfl) (by rfl) (by rfl) (by rfl)) (da_cons (de_vr 0) (da_cons (de_b1 call_len ansC_len (by rfl) T.n_len b_len (DPv.v (dp_vw 2))) da_nil))) (fun _ _ => (by rfl))))))))
abbrev s__law_hearers : Stmt := top 24
abbrev N__law_hearers : List Str := ["_law_bag_here", "_law_members", "_law_way", "_law_found", "_law_member"]
theorem sc__law_hearers : FnScope N__law_hearers ["_law_bag_here", "_law_members"] (defScope s__law_hearers) := ⟨rfl, rfl, rfl, by decide +kernel, rfl, by decide +kernel, by decide +kernel⟩
noncomputable def f__law_hearers_1 : DSx :=
  (ifD (orD (lift2 pEq (vr 2) (cst (.int 3))) (andD (lift2 pLtX (vr 2) (cst (.int 2))) (lift2 pGtX (callD d__law_take (aCons (vr 0) (aCons (cst (.int 3)) aNil))) (pureE (pvw 2)))))
    (exprD (mutD 3 kApp (aCons (vr 4) aNil)))
    nxD)
noncomputable def b__law_hearers : DSx :=
  (seqD (setD (callD d__law_take (aCons (vr 0) (aCons (cst (.int 4)) aNil))) (gN 2))
  (seqD (setOD (lstD aNil) 3)
  (seqD (forE (itD (vr 1)) (gN 4)
    f__law_hearers_1)
  (seqD (ifD (lift2 pEq (vr 2) (cst (.int 2)))
    (exprD (mutD 3 kApp (aCons (lift2 pIx (vr 1) (callD d__law_take (aCons (vr 0) (aCons (lift1 pLen (pureE (pvw 1))) aNil)))) aNil)))
    nxD)
  (retD (tupleD (sortD (pureE (pvw 3)))))))))
noncomputable def d__law_hearers : Den := runD 5 b__law_hearers
theorem bd__law_hearers {P : Program} {wd : World} {K : PySem.W.Frag} {mg : Str → Option Value} {base : Heap} (T : Fx K mg) (C__law_take : Cal P wd K mg base 1 "_law_take" 2 d__law_take) {f : Addr} {A : Around} {outer : List Env} {s : Shared} {H : Hp} {E : XK} {cdv : Value} (hr : Room 1 (A.deeper (PyProof.Rows.envOfC "_law_hearers" (defScope s__law_hearers) s.heap.objs.size f cdv))) : DSs (cxOf (L2N.CX P wd) P wd K mg base N__law_hearers "_law_hearers" (defScope s__law_hearers) f cdv A outer s H E) (WEx E) (defBody s__law_hearers) b__law_hearers :=
  have sc := sc__law_hearers
  (dss_cons (ds_set (i := 2) sc.nd (by rfl) (Or.inl (by rfl)) (Cal.call C__law_take hr (by omega) (by rfl) (L2N.takes_of (by rfl) (by rfl) (by rfl) (by rfl)) (da_cons (de_vr 0) (da_cons de_int da_nil))))
  (dss_cons (ds_setO (i := 3) sc.nd (by rfl) (Or.inl (by rfl)) (do_lst da_nil))
  (dss_cons (ds_for (passes_of (by rfl)) (by rfl) (di_seq (de_vr 1)) (dg_name (i := 4) sc.nd (by rfl) (Or.inl (by rfl)))
    (dss_one (ds_if (DW.t (dw_or (dt_cmp (op_eqD hr.units) ans_eq (nomark _) (de_vr 2) (DE.v de_int)) (dw_or1 (DW.t (dw_and (dt_cmp (op_ltA hr.units) ans_ltX (nomark _) (de_vr 2) (DE.v de_int)) (dw_and1 (dt_cmp (op_gtA hr.units) ans_gtX (nomark _) (Cal.call C__law_take hr (by omega) (by rfl) (L2N.takes_of (by rfl) (by rfl) (by rfl) (by rfl)) (da_cons (de_vr 0) (da_cons de_int da_nil))) (DPv.v (dp_vw 2)))))))))
    (dss_one (ds_expr (de_mut (i := 3) PySem.F.slot_list_append PySem.F.type_list_append mt_append ansM_app (da_cons (de_vr 4) da_nil))))
    dss_nil)))
  (dss_cons (ds_if (dt_cmp (op_eqD hr.units) ans_eq (nomark _) (de_vr 2) (DE.v de_int))
    (dss_one (ds_expr (de_mut (i := 3) PySem.F.slot_list_append PySem.F.type_list_append mt_append ansM_app (da_cons (de_ix (de_vr 1) (Cal.call C__law_take hr (by omega) (by rfl) (L2N.takes_of (by rfl) (by rfl) (by rfl) (by rfl)) (da_cons (de_vr 0) (da_cons (de_b1 call_len ansC_len (by rfl) T.n_len b_len (DPv.v (dp_vw 1))) da_nil))) (fun _ _ => (by rfl))) da_nil))))
    dss_nil)
  (dss_one (ds_ret (de_tuple (by rfl) T.n_tuple (DE.v (DO.fz (do_sorted hr.u80 (by rfl) T.n_sorted (DPv.v (dp_vw 3))))))))))))
abbrev s__law_rows : Stmt := top 26
abbrev N__law_rows : List Str := ["_law_bag_here", "_law_words", "_law_things", "_law_members", "_law_most", "_law_rows_here", "_law_word", "_law_own", "_law_k", "_law_thing_here"]
theorem sc__law_rows : FnScope N__law_rows ["_law_bag_here", "_law_words", "_law_things", "_law_members", "_law_most"] (defScope s__law_rows) := ⟨rfl, rfl, rfl, by decide +kernel, rfl, by decide +kernel, by decide +kernel⟩
noncomputable def f__law_rows_1 : DSx :=
  (seqD (setD (callD d__law_thing (aCons (vr 0) (aCons (vr 1) (aCons (vr 2) aNil)))) (gN 9))
  (exprD (mutD 7 kApp (aCons (aCons (vr 9) (aCons (callD d__law_hearers (aCons (vr 0) (aCons (vr 3) aNil))) aNil)) aNil))))
noncomputable def f__law_rows_2 : DSx :=
  (seqD (setOD (lstD aNil) 7)
  (seqD (forE (rng1 (aCons (callD d__law_take (aCons (vr 0) (aCons (lift2 addK (vr 4) (cst (.int 1))) aNil))) aNil)) (gN 8)
    f__law_rows_1)
  (ifD (orD (nilP true (pvw 7)) (lift2 pEq (callD d__law_take (aCons (vr 0) (aCons (cst (.int 2)) aNil))) (cst (.int 0))))
    (dputD (vr 5) (vr 6) (frzE 7))
    nxD)))
noncomputable def b__law_rows : DSx :=
  (seqD (setD (cellDE (cst (.dct []))) (gN 5))
  (seqD (forE (itD (vr 1)) (gN 6)
    f__law_rows_2)
  (retD (fzdE (vr 5)))))
noncomputable def d__law_rows : Den := runD 10 b__law_rows
theorem bd__law_rows {P : Program} {wd : World} {K : PySem.W.Frag} {mg : Str → Option Value} {base : Heap} (T : Fx K mg) (C__law_take : Cal P wd K mg base 1 "_law_take" 2 d__law_take) (C__law_hearers : Cal P wd K mg base 2 "_law_hearers" 2 d__law_hearers) (C__law_thing : Cal P wd K mg base 2 "_law_thing" 3 d__law_thing) {f : Addr} {A : Around} {outer : List Env} {s : Shared} {H : Hp} {E : XK} {cdv : Value} (hr : Room 2 (A.deeper (PyProof.Rows.envOfC "_law_rows" (defScope s__law_rows) s.heap.objs.size f cdv))) : DSs (cxOf (L2N.CX P wd) P wd K mg base N__law_rows "_law_rows" (defScope s__law_rows) f cdv A outer s H E) (WEx E) (defBody s__law_rows) b__law_rows :=
  have sc := sc__law_rows
  (dss_cons (ds_set (i := 5) sc.nd (by rfl) (Or.inl (by rfl)) (DOd.cell dod_new))
  (dss_cons (ds_for (passes_of (by rfl)) (by rfl) (di_seq (de_vr 1)) (dg_name (i := 6) sc.nd (by rfl) (Or.inl (by rfl)))
    (dss_cons (ds_setO (i := 7) sc.nd (by rfl) (Or.inl (by rfl)) (do_lst da_nil))
  (dss_cons (ds_for (passes_of (by rfl)) (by rfl) (di_range1 (by rfl) T.n_range (da_cons (Cal.call C__law_take hr (by omega) (by rfl) (L2N.takes_of (by rfl) (by rfl) (by rfl) (by rfl)) (da_cons (de_vr 0) (da_cons (de_addX (de_vr 4) de_int) da_nil))) da_nil)) (dg_name (i := 8) sc.nd (by rfl) (Or.inl (by rfl)))
    (dss_cons (ds_set (i := 9) sc.nd (by rfl) (Or.inl (by rfl)) (Cal.call C__law_thing hr (by omega) (by rfl) (L2N.takes_of (by rfl) (by rfl) (by rfl) (by rfl)) (da_cons (de_vr 0) (da_cons (de_vr 1) (da_cons (de_vr 2) da_nil)))))
  (dss_one (ds_expr (de_mut (i := 7) PySem.F.slot_list_append PySem.F.type_list_append mt_append ansM_app (da_cons (de_tup (da_cons (de_vr 9) (da_cons (Cal.call C__law_hearers hr (by omega) (by rfl) (L2N.takes_of (by rfl) (by rfl) (by rfl) (by rfl)) (da_cons (de_vr 0) (da_cons (de_vr 3) da_nil))) da_nil))) da_nil))))))
  (dss_one (ds_if (DW.t (dw_or (dt_neNil hr.units0 (dp_vw 7)) (dw_or1 (dt_cmp (op_eqD hr.units) ans_eq (nomark _) (Cal.call C__law_take hr (by omega) (by rfl) (L2N.takes_of (by rfl) (by rfl) (by rfl) (by rfl)) (da_cons (de_vr 0) (da_cons de_int da_nil))) (DE.v de_int)))))
    (dss_one (ds_dput (hu_of hr) (de_frz 7) (de_vr 5) (de_vr 6)))
    dss_nil)))))
  (dss_one (ds_ret (DE.fzd (de_vr 5))))))
abbrev s__law_ground : Stmt := top 33
abbrev N__law_ground : List Str := ["_law_bag_here", "_law_folk", "_law_words", "_law_things", "_law_rows_here"]
theorem sc__law_ground : FnScope N__law_ground ["_law_bag_here"] (defScope s__law_ground) := ⟨rfl, rfl, rfl, by decide +kernel, rfl, by decide +kernel, by decide +kernel⟩
noncomputable def b__law_ground : DSx :=
  (seqD (setD (callD d__law_names (aCons (vr 0) (aCons (lift2 addK (cst (.int 1)) (callD d__law_take (aCons (vr 0) (aCons (cst (.int 8)) aNil)))) aNil))) (gN 1))
  (seqD (setD (callD d__law_names (aCons (vr 0) (aCons (lift2 addK (cst (.int 1)) (callD d__law_take (aCons (vr 0) (aCons (cst (.int 4)) aNil)))) aNil))) (gN 2))
  (seqD (setD (callD d__law_names (aCons (vr 0) (aCons (lift2 addK (cst (.int 1)) (callD d__law_take (aCons (vr 0) (aCons (cst (.int 4)) aNil)))) aNil))) (gN 3))
  (seqD (setD (callD d__law_rows (aCons (vr 0) (aCons (vr 2) (aCons (vr 3) (aCons (vr 1) (aCons (cst (.int 8)) aNil)))))) (gN 4))
  (retD (aCons (vr 1) (aCons (vr 2) (aCons (vr 4) aNil))))))))
noncomputable def d__law_ground : Den := runD 5 b__law_ground
theorem bd__law_ground {P : Program} {wd : World} {K : PySem.W.Frag} {mg : Str → Option Value} {base : Heap} (T : Fx K mg) (C__law_rows : Cal P wd K mg base 3 "_law_rows" 5 d__law_rows) (C__law_take : Cal P wd K mg base 1 "_law_take" 2 d__law_take) (C__law_names : Cal P wd K mg base 2 "_law_names" 2 d__law_names) {f : Addr} {A : Around} {outer : List Env} {s : Shared} {H : Hp} {E : XK} {cdv : Value} (hr : Room 3 (A.deeper (PyProof.Rows.envOfC "_law_ground" (defScope s__law_ground) s.heap.objs.size f cdv))) : DSs (cxOf (L2N.CX P wd) P wd K mg base N__law_ground "_law_ground" (defScope s__law_ground) f cdv A outer s H E) (WEx E) (defBody s__law_ground) b__law_ground :=
  have sc := sc__law_ground
  (dss_cons (ds_set (i := 1) sc.nd (by rfl) (Or.inl (by rfl)) (Cal.call C__law_names hr (by omega) (by rfl) (L2N.takes_of (by rfl) (by rfl) (by rfl) (by rfl)) (da_cons (de_vr 0) (da_cons (de_addX de_int (Cal.call C__law_take hr (by omega) (by rfl) (L2N.takes_of (by rfl) (by rfl) (by rfl) (by rfl)) (da_cons (de_vr 0) (da_cons de_int da_nil)))) da_nil))))
  (dss_cons (ds_set (i := 2) sc.nd (by rfl) (Or.inl (by rfl)) (Cal.call C__law_names hr (by omega) (by rfl) (L2N.takes_of (by rfl) (by rfl) (by rfl) (by rfl)) (da_cons (de_vr 0) (da_cons (de_addX de_int (Cal.call C__law_take hr (by omega) (by rfl) (L2N.takes_of (by rfl) (by rfl) (by rfl) (by rfl)) (da_cons (de_vr 0) (da_cons de_int da_nil)))) da_nil))))
  (dss_cons (ds_set (i := 3) sc.nd (by rfl) (Or.inl (by rfl)) (Cal.call C__law_names hr (by omega) (by rfl) (L2N.takes_of (by rfl) (by rfl) (by rfl) (by rfl)) (da_cons (de_vr 0) (da_cons (de_addX de_int (Cal.call C__law_take hr (by omega) (by rfl) (L2N.takes_of (by rfl) (by rfl) (by rfl) (by rfl)) (da_cons (de_vr 0) (da_cons de_int da_nil)))) da_nil))))
  (dss_cons (ds_set (i := 4) sc.nd (by rfl) (Or.inl (by rfl)) (Cal.call C__law_rows hr (by omega) (by rfl) (L2N.takes_of (by rfl) (by rfl) (by rfl) (by rfl)) (da_cons (de_vr 0) (da_cons (de_vr 2) (da_cons (de_vr 3) (da_cons (de_vr 1) (da_cons de_int da_nil)))))))
  (dss_one (ds_ret (de_tup (da_cons (de_vr 1) (da_cons (de_vr 2) (da_cons (de_vr 4) da_nil))))))))))
abbrev s__law_some : Stmt := top 23
abbrev N__law_some : List Str := ["_law_bag_here", "_law_things", "_law_left", "_law_found", "_law_k"]
theorem sc__law_some : FnScope N__law_some ["_law_bag_here", "_law_things"] (defScope s__law_some) := ⟨rfl, rfl, rfl, by decide +kernel, rfl, by decide +kernel, by decide +kernel⟩
noncomputable def f__law_some_1 : DSx :=
  (exprD (mutD 3 kApp (aCons (mutD 2 kPopAt (aCons (callD d__law_take (aCons (vr 0) (aCons (lift1 pLen (pureE (pvw 2))) aNil))) aNil)) aNil)))
noncomputable def b__law_some : DSx :=
  (seqD (setOD (listD (pureE (pvw 1))) 2)
  (seqD (setOD (lstD aNil) 3)
  (seqD (forE (rng1 (aCons (lift2 addK (cst (.int 1)) (callD d__law_take (aCons (vr 0) (aCons (lift1 pLen (pureE (pvw 1))) aNil)))) aNil)) (gN 4)
    f__law_some_1)
  (retD (frzE 3)))))
noncomputable def d__law_some : Den := runD 5 b__law_some
theorem bd__law_some {P : Program} {wd : World} {K : PySem.W.Frag} {mg : Str → Option Value} {base : Heap} (T : Fx K mg) (C__law_take : Cal P wd K mg base 1 "_law_take" 2 d__law_take) {f : Addr} {A : Around} {outer : List Env} {s : Shared} {H : Hp} {E : XK} {cdv : Value} (hr : Room 1 (A.deeper (PyProof.Rows.envOfC "_law_some" (defScope s__law_some) s.heap.objs.size f cdv))) : DSs (cxOf (L2N.CX P wd) P wd K mg base N__law_some "_law_some" (defScope s__law_some) f cdv A outer s H E) (WEx E) (defBody s__law_some) b__law_some :=
  have sc := sc__law_some
  (dss_cons (ds_setO (i := 2) sc.nd (by rfl) (Or.inl (by rfl)) (do_list (by rfl) T.n_list (DPv.v (dp_vw 1))))
  (dss_cons (ds_setO (i := 3) sc.nd (by rfl) (Or.inl (by rfl)) (do_lst da_nil))
  (dss_cons (ds_for (passes_of (by rfl)) (by rfl) (di_range1 (by rfl) T.n_range (da_cons (de_addX de_int (Cal.call C__law_take hr (by omega) (by rfl) (L2N.takes_of (by rfl) (by rfl) (by rfl) (by rfl)) (da_cons (de_vr 0) (da_cons (de_b1 call_len ansC_len (by rfl) T.n_len b_len (DPv.v (dp_vw 1))) da_nil)))) da_nil)) (dg_name (i := 4) sc.nd (by rfl) (Or.inl (by rfl)))
    (dss_one (ds_expr (de_mut (i := 3) PySem.F.slot_list_append PySem.F.type_list_append mt_append ansM_app (da_cons (de_mut (i := 2) PySem.F.slot_list_pop PySem.F.type_list_pop mt_popAt ansM_popAt (da_cons (Cal.call C__law_take hr (by omega) (by rfl) (L2N.takes_of (by rfl) (by rfl) (by rfl) (by rfl)) (da_cons (de_vr 0) (da_cons (de_b1 call_len ansC_len (by rfl) T.n_len b_len (DPv.v (dp_vw 2))) da_nil))) da_nil)) da_nil)))))
  (dss_one (ds_ret (de_frz 3))))))
abbrev s_last_heard : Stmt := top 6
abbrev N_last_heard : List Str := ["rows", "people", "found", "at", "thing", "hearers", "person"]
theorem sc_last_heard : FnScope N_last_heard ["rows", "people"] (defScope s_last_heard) := ⟨rfl, rfl, rfl, by decide +kernel, rfl, by decide +kernel, by decide +kernel⟩
noncomputable def e_last_heard_1 : DEx :=
  (lift2 (pInX false) (vr 6) (pureE (pvw 5)))
noncomputable def f_last_heard_2 : DSx :=
  (ifD (lift1 pAll (lcD (itD (vr 1)) (gN 6) yesD e_last_heard_1 [6]))
    (setD (vr 3) (gN 2))
    nxD)
noncomputable def b_last_heard : DSx :=
  (seqD (setD (cst .non) (gN 2))
  (seqD (forE (enumD (aCons (vr 0) aNil)) (gT (gsCons (gN 3) (gsCons (gT (gsCons (gN 4) (gsCons (gN 5) gsNil))) gsNil)))
    f_last_heard_2)
  (retD (vr 2))))
noncomputable def d_last_heard : Den := runD 7 b_last_heard
theorem bd_last_heard {P : Program} {wd : World} {K : PySem.W.Frag} {mg : Str → Option Value} {base : Heap} (T : Fx K mg)  {f : Addr} {A : Around} {outer : List Env} {s : Shared} {H : Hp} {E : XK} {cdv : Value} (hr : Room 0 (A.deeper (PyProof.Rows.envOfC "last_heard" (defScope s_last_heard) s.heap.objs.size f cdv))) : DSs (cxOf (L2N.CX P wd) P wd K mg base N_last_heard "last_heard" (defScope s_last_heard) f cdv A outer s H E) (WEx E) (defBody s_last_heard) b_last_heard :=
  have sc := sc_last_heard
  (dss_cons (ds_set (i := 2) sc.nd (by rfl) (Or.inl (by rfl)) de_non)
  (dss_cons (ds_for (passes_of (by rfl)) (by rfl) (di_enum (by rfl) T.n_enumerate (da_cons (de_vr 0) da_nil)) (dg_tup (by rfl) (dgs_cons (dg_name (i := 3) sc.nd (by rfl) (Or.inl (by rfl))) (dgs_cons (dg_tup (by rfl) (dgs_cons (dg_name (i := 4) sc.nd (by rfl) (Or.inl (by rfl))) (dgs_cons (dg_name (i := 5) sc.nd (by rfl) (Or.inr (by rfl))) dgs_nil))) dgs_nil)))
    (dss_one (ds_if (dt_val (de_b1 (cr_all (by rfl)) ansC_all (by rfl) T.n_all b_all (DE.v (DO.fz (do_lc (own := [("person", 6)]) (by rfl) sc.nd (di_seq (de_vr 1)) (blkOk_by (by rfl)) (by decide) (fun _ _ _ _ _ => (dg_name (i := 6) sc.nd (by rfl) (by first | exact Or.inl (by rfl) | exact Or.inr (by rfl)))) (fun _ _ _ _ _ => dts_nil) (fun _ _ _ _ _ => (de_cmp (op_inA hr.u65) (ans_in false) (by rfl) (de_vr 6) (DPv.v (dp_vw 5)))))))))
    (dss_one (ds_set (i := 2) sc.nd (by rfl) (Or.inl (by rfl)) (de_vr 3)))
    dss_nil)))
  (dss_one (ds_ret (de_vr 2)))))
abbrev s_absent_person : Stmt := top 9
abbrev N_absent_person : List Str := ["hearers", "people", "person"]
theorem sc_absent_person : FnScope N_absent_person ["hearers", "people"] (defScope s_absent_person) := ⟨rfl, rfl, rfl, by decide +kernel, rfl, by decide +kernel, by decide +kernel⟩
noncomputable def t_absent_person_1 : DEx :=
  (lift2 (pInX true) (vr 2) (pureE (pvw 0)))
noncomputable def b_absent_person : DSx :=
  (retD (lift2 pIx (lcD (itD (vr 1)) (gN 2) t_absent_person_1 (vr 2) [2]) (cst (.int 0))))
noncomputable def d_absent_person : Den := runD 3 b_absent_person
theorem bd_absent_person {P : Program} {wd : World} {K : PySem.W.Frag} {mg : Str → Option Value} {base : Heap} (T : Fx K mg)  {f : Addr} {A : Around} {outer : List Env} {s : Shared} {H : Hp} {E : XK} {cdv : Value} (hr : Room 0 (A.deeper (PyProof.Rows.envOfC "absent_person" (defScope s_absent_person) s.heap.objs.size f cdv))) : DSs (cxOf (L2N.CX P wd) P wd K mg base N_absent_person "absent_person" (defScope s_absent_person) f cdv A outer s H E) (WEx E) (defBody s_absent_person) b_absent_person :=
  have sc := sc_absent_person
  (dss_one (ds_ret (de_ix (DO.fz (do_lc (own := [("person", 2)]) (by rfl) sc.nd (di_seq (de_vr 1)) (blkOk_by (by rfl)) (by decide) (fun _ _ _ _ _ => (dg_name (i := 2) sc.nd (by rfl) (by first | exact Or.inl (by rfl) | exact Or.inr (by rfl)))) (fun _ _ _ _ _ => (dts_one (dt_cmp (op_notInA hr.u65) (ans_in true) (by rfl) (de_vr 2) (DPv.v (dp_vw 0))))) (fun _ _ _ _ _ => (de_vr 2)))) de_int (fun _ _ => (by rfl)))))
abbrev s_step_thing : Stmt := top 7
abbrev N_step_thing : List Str := ["rows", "at"]
theorem sc_step_thing : FnScope N_step_thing ["rows", "at"] (defScope s_step_thing) := ⟨rfl, rfl, rfl, by decide +kernel, rfl, by decide +kernel, by decide +kernel⟩
noncomputable def b_step_thing : DSx :=
  (retD (iteD (lift2 (pIs false) (vr 1) (cst .non)) (cst .non) (pureE (plift2 pIx (plift2 pIx (pvw 0) (pvr 1)) (pcst (.int 0))))))
noncomputable def d_step_thing : Den := runD 2 b_step_thing
theorem bd_step_thing {P : Program} {wd : World} {K : PySem.W.Frag} {mg : Str → Option Value} {base : Heap} (T : Fx K mg)  {f : Addr} {A : Around} {outer : List Env} {s : Shared} {H : Hp} {E : XK} {cdv : Value} (hr : Room 0 (A.deeper (PyProof.Rows.envOfC "step_thing" (defScope s_step_thing) s.heap.objs.size f cdv))) : DSs (cxOf (L2N.CX P wd) P wd K mg base N_step_thing "step_thing" (defScope s_step_thing) f cdv A outer s H E) (WEx E) (defBody s_step_thing) b_step_thing :=
  have sc := sc_step_thing
  (dss_one (ds_ret (de_if (dt_cmp op_isN ans_isN (nomark _) (de_vr 1) (DE.v de_non)) de_non (DP.e (dp_ix (DP.pv (dp_ix (dp_vw 0) (dp_vr 1) (fun _ _ => (by rfl)))) dp_int (fun _ _ => (by rfl)))))))
abbrev s_rows_to_miss : Stmt := top 8
abbrev N_rows_to_miss : List Str := ["rows", "at", "first", "index"]
theorem sc_rows_to_miss : FnScope N_rows_to_miss ["rows", "at"] (defScope s_rows_to_miss) := ⟨rfl, rfl, rfl, by decide +kernel, rfl, by decide +kernel, by decide +kernel⟩
noncomputable def t_rows_to_miss_1 : DEx :=
  (lift2 pNe (pureE (plift2 pIx (plift2 pIx (pvw 0) (pvr 3)) (pcst (.int 0)))) (callD d_step_thing (aCons (vr 0) (aCons (vr 1) aNil))))
noncomputable def b_rows_to_miss : DSx :=
  (seqD (setD (iteD (lift2 (pIs false) (vr 1) (cst .non)) (cst (.int 0)) (lift2 addK (vr 1) (cst (.int 1)))) (gN 2))
  (retD (lcD (rng2 (aCons (vr 2) (aCons (lift1 pLen (pureE (pvw 0))) aNil))) (gN 3) t_rows_to_miss_1 (vr 3) [3])))
noncomputable def d_rows_to_miss : Den := runD 4 b_rows_to_miss
theorem bd_rows_to_miss {P : Program} {wd : World} {K : PySem.W.Frag} {mg : Str → Option Value} {base : Heap} (T : Fx K mg) (C_step_thing : Cal P wd K mg base 1 "step_thing" 2 d_step_thing) {f : Addr} {A : Around} {outer : List Env} {s : Shared} {H : Hp} {E : XK} {cdv : Value} (hr : Room 1 (A.deeper (PyProof.Rows.envOfC "rows_to_miss" (defScope s_rows_to_miss) s.heap.objs.size f cdv))) : DSs (cxOf (L2N.CX P wd) P wd K mg base N_rows_to_miss "rows_to_miss" (defScope s_rows_to_miss) f cdv A outer s H E) (WEx E) (defBody s_rows_to_miss) b_rows_to_miss :=
  have sc := sc_rows_to_miss
  (dss_cons (ds_set (i := 2) sc.nd (by rfl) (Or.inl (by rfl)) (de_if (dt_cmp op_isN ans_isN (nomark _) (de_vr 1) (DE.v de_non)) de_int (de_addX (de_vr 1) de_int)))
  (dss_one (ds_ret (DO.fz (do_lc (own := [("index", 3)]) (by rfl) sc.nd (di_range2 (by rfl) T.n_range (da_cons (de_vr 2) (da_cons (de_b1 call_len ansC_len (by rfl) T.n_len b_len (DPv.v (dp_vw 0))) da_nil))) (blkOk_by (by rfl)) (by decide) (fun _ _ _ _ _ => (dg_name (i := 3) sc.nd (by rfl) (by first | exact Or.inl (by rfl) | exact Or.inr (by rfl)))) (fun _ _ _ _ _ => (dts_one (dt_cmp (op_neD hr.units) ans_ne (nomark _) (DP.e (dp_ix (DP.pv (dp_ix (dp_vw 0) (dp_vr 3) (fun _ _ => (by rfl)))) dp_int (fun _ _ => (by rfl)))) (DE.v (Cal.call C_step_thing hr (by omega) (by rfl) takesF (da_cons (de_vr 0) (da_cons (de_vr 1) da_nil))))))) (fun _ _ _ _ _ => (de_vr 3)))))))
abbrev s_step_for : Stmt := top 10
abbrev N_step_for : List Str := ["rows", "word", "people", "own", "at", "index"]
theorem sc_step_for : FnScope N_step_for ["rows", "word", "people"] (defScope s_step_for) := ⟨rfl, rfl, rfl, by decide +kernel, rfl, by decide +kernel, by decide +kernel⟩
noncomputable def e_step_for_1 : DEx :=
  (aCons (vr 5) (aCons (callD d_absent_person (aCons (pureE (plift2 pIx (plift2 pIx (pvw 3) (pvr 5)) (pcst (.int 1)))) (aCons (vr 2) aNil))) aNil))
noncomputable def b_step_for : DSx :=
  (seqD (setD (dgetD (vr 0) (vr 1) (lstD aNil)) (gN 3))
  (seqD (setD (callD d_last_heard (aCons (vr 3) (aCons (vr 2) aNil))) (gN 4))
  (retD (aCons (vr 1) (aCons (vr 4) (aCons (lcD (itD (callD d_rows_to_miss (aCons (vr 3) (aCons (vr 4) aNil)))) (gN 5) yesD e_step_for_1 [5]) aNil))))))
noncomputable def d_step_for : Den := runD 6 b_step_for
theorem bd_step_for {P : Program} {wd : World} {K : PySem.W.Frag} {mg : Str → Option Value} {base : Heap} (T : Fx K mg) (C_rows_to_miss : Cal P wd K mg base 2 "rows_to_miss" 2 d_rows_to_miss) (C_absent_person : Cal P wd K mg base 1 "absent_person" 2 d_absent_person) (C_last_heard : Cal P wd K mg base 1 "last_heard" 2 d_last_heard) {f : Addr} {A : Around} {outer : List Env} {s : Shared} {H : Hp} {E : XK} {cdv : Value} (hr : Room 2 (A.deeper (PyProof.Rows.envOfC "step_for" (defScope s_step_for) s.heap.objs.size f cdv))) : DSs (cxOf (L2N.CX P wd) P wd K mg base N_step_for "step_for" (defScope s_step_for) f cdv A outer s H E) (WEx E) (defBody s_step_for) b_step_for :=
  have sc := sc_step_for
  (dss_cons (ds_set (i := 3) sc.nd (by rfl) (Or.inr (by rfl)) (de_dget2 (hu_of hr) (de_vr 0) (de_vr 1) (DO.fz (do_lst da_nil)) ⟨(by rfl), (by rfl), (by rfl), (by rfl)⟩))
  (dss_cons (ds_set (i := 4) sc.nd (by rfl) (Or.inl (by rfl)) (Cal.call C_last_heard hr (by omega) (by rfl) (L2N.takes_of (by rfl) (by rfl) (by rfl) (by rfl)) (da_cons (de_vr 3) (da_cons (de_vr 2) da_nil))))
  (dss_one (ds_ret (de_tup (da_cons (de_vr 1) (da_cons (de_vr 4) (da_cons (DO.fz (do_lc (own := [("index", 5)]) (by rfl) sc.nd (di_seq (Cal.call C_rows_to_miss hr (by omega) (by rfl) (L2N.takes_of (by rfl) (by rfl) (by rfl) (by rfl)) (da_cons (de_vr 3) (da_cons (de_vr 4) da_nil)))) (blkOk_by (by rfl)) (by decide) (fun _ _ _ _ _ => (dg_name (i := 5) sc.nd (by rfl) (by first | exact Or.inl (by rfl) | exact Or.inr (by rfl)))) (fun _ _ _ _ _ => dts_nil) (fun _ _ _ _ _ => (de_tup (da_cons (de_vr 5) (da_cons (Cal.call C_absent_person hr (by omega) (by rfl) takesF (da_cons (DP.e (dp_ix (DP.pv (dp_ix (dp_vw 3) (dp_vr 5) (fun _ _ => (by rfl)))) dp_int (fun _ _ => (by rfl)))) (da_cons (de_vr 2) da_nil))) da_nil)))))) da_nil))))))))
abbrev s_reason : Stmt := top 11
abbrev N_reason : List Str := ["rows", "word", "group", "people", "steps", "asked", "thing"]
theorem sc_reason : FnScope N_reason ["rows", "word", "group"] (defScope s_reason) := ⟨rfl, rfl, rfl, by decide +kernel, rfl, by decide +kernel, by decide +kernel⟩
noncomputable def w_reason_1 : DEx :=
  (andD (lift1 (pIsi "tuple") (pureE (pvw 6))) (lift2 (pInX true) (pureE (plift2 pIx (pvw 6) (pcst (.int 1)))) (pureE (pvw 5))))
noncomputable def f_reason_2 : DSx :=
  (seqD (exprD (mutD 5 kApp (aCons (pureE (plift2 pIx (pvw 6) (pcst (.int 1)))) aNil)))
  (seqD (exprD (mutD 4 kApp (aCons (callD d_step_for (aCons (vr 0) (aCons (pureE (plift2 pIx (pvw 5) (plift1 pNeg (pcst (.int 1))))) (aCons (vr 3) aNil)))) aNil)))
  (setD (callD d_step_thing (aCons (dgetD (vr 0) (pureE (plift2 pIx (pvw 5) (plift1 pNeg (pcst (.int 1))))) (lstD aNil)) (aCons (pureE (plift2 pIx (plift2 pIx (pvw 4) (plift1 pNeg (pcst (.int 1)))) (pcst (.int 1)))) aNil))) (gN 6))))
noncomputable def b_reason : DSx :=
  (seqD (setD (tupleD (sortD (pureE (pvw 2)))) (gN 3))
  (seqD (setOD (lstD aNil) 4)
  (seqD (setOD (lstD aNil) 5)
  (seqD (setD (aCons (cst (.str "later")) (aCons (vr 1) aNil)) (gN 6))
  (seqD (whileD w_reason_1
    f_reason_2)
  (retD (aCons (cst (.str "reason")) (aCons (vr 1) (aCons (vr 3) (aCons (frzE 4) (aCons (iteD (lift1 (pIsi "tuple") (pureE (pvw 6))) (cst .non) (vr 6)) aNil)))))))))))
noncomputable def d_reason : Den := runD 7 b_reason
theorem bd_reason {P : Program} {wd : World} {K : PySem.W.Frag} {mg : Str → Option Value} {base : Heap} (T : Fx K mg) (C_step_thing : Cal P wd K mg base 1 "step_thing" 2 d_step_thing) (C_step_for : Cal P wd K mg base 3 "step_for" 3 d_step_for) {f : Addr} {A : Around} {outer : List Env} {s : Shared} {H : Hp} {E : XK} {cdv : Value} (hr : Room 3 (A.deeper (PyProof.Rows.envOfC "reason" (defScope s_reason) s.heap.objs.size f cdv))) : DSs (cxOf (L2N.CX P wd) P wd K mg base N_reason "reason" (defScope s_reason) f cdv A outer s H E) (WEx E) (defBody s_reason) b_reason :=
  have sc := sc_reason
  (dss_cons (ds_set (i := 3) sc.nd (by rfl) (Or.inl (by rfl)) (de_tuple (by rfl) T.n_tuple (DE.v (DO.fz (do_sorted hr.u80 (by rfl) T.n_sorted (DPv.v (dp_vw 2)))))))
  (dss_cons (ds_setO (i := 4) sc.nd (by rfl) (Or.inl (by rfl)) (do_lst da_nil))
  (dss_cons (ds_setO (i := 5) sc.nd (by rfl) (Or.inl (by rfl)) (do_lst da_nil))
  (dss_cons (ds_set (i := 6) sc.nd (by rfl) (Or.inl (by rfl)) (de_tup (da_cons (de_gstrE (by rfl) T.c_LATER) (da_cons (de_vr 1) da_nil))))
  (dss_cons (ds_while (passes_of (by rfl)) (DW.t (dw_and (dt_val (de_isi (by rfl) T.n_isinstance (by rfl) T.n_tuple b_tuple (DPv.v (dp_vw 6)))) (dw_and1 (dt_cmp (op_notInA hr.u65) (ans_in true) (by rfl) (DP.e (dp_ix (dp_vw 6) dp_int (fun _ _ => (by rfl)))) (DPv.v (dp_vw 5))))))
    (dss_cons (ds_expr (de_mut (i := 5) PySem.F.slot_list_append PySem.F.type_list_append mt_append ansM_app (da_cons (DP.e (dp_ix (dp_vw 6) dp_int (fun _ _ => (by rfl)))) da_nil)))
  (dss_cons (ds_expr (de_mut (i := 4) PySem.F.slot_list_append PySem.F.type_list_append mt_append ansM_app (da_cons (Cal.call C_step_for hr (by omega) (by rfl) (L2N.takes_of (by rfl) (by rfl) (by rfl) (by rfl)) (da_cons (de_vr 0) (da_cons (DP.e (dp_ix (dp_vw 5) (dp_neg dp_int) (fun _ _ => (by rfl)))) (da_cons (de_vr 3) da_nil)))) da_nil)))
  (dss_one (ds_set (i := 6) sc.nd (by rfl) (Or.inl (by rfl)) (Cal.call C_step_thing hr (by omega) (by rfl) (L2N.takes_of (by rfl) (by rfl) (by rfl) (by rfl)) (da_cons (de_dget2 (hu_of hr) (de_vr 0) (DP.e (dp_ix (dp_vw 5) (dp_neg dp_int) (fun _ _ => (by rfl)))) (DO.fz (do_lst da_nil)) ⟨(by rfl), (by rfl), (by rfl), (by rfl)⟩) (da_cons (DP.e (dp_ix (DP.pv (dp_ix (dp_vw 4) (dp_neg dp_int) (fun _ _ => (by rfl)))) dp_int (fun _ _ => (by rfl)))) da_nil))))))))
  (dss_one (ds_ret (de_tup (da_cons de_str (da_cons (de_vr 1) (da_cons (de_vr 3) (da_cons (de_frz 4) (da_cons (de_if (dt_val (de_isi (by rfl) T.n_isinstance (by rfl) T.n_tuple b_tuple (DPv.v (dp_vw 6)))) de_non (de_vr 6)) da_nil)))))))))))))
abbrev s__law_other_step : Stmt := top 34
abbrev N__law_other_step : List Str := ["_law_bag_here", "_law_own", "_law_word", "_law_group", "_law_heard", "_law_at", "_law_thing_here", "_law_fit", "_law_absent", "_law_k", "_law_missing", "_law_person", "_law_j"]
theorem sc__law_other_step : FnScope N__law_other_step ["_law_bag_here", "_law_own", "_law_word", "_law_group"] (defScope s__law_other_step) := ⟨rfl, rfl, rfl, by decide +kernel, rfl, by decide +kernel, by decide +kernel⟩
noncomputable def t__law_other_step_1 : DEx :=
  (lift2 (pInX true) (vr 11) (pureE (plift2 pIx (plift2 pIx (pvw 1) (pvr 9)) (pcst (.int 1)))))
noncomputable def f__law_other_step_2 : DSx :=
  (ifD (andD (orD (lift2 (pIs false) (vr 5) (cst .non)) (lift2 pGtX (vr 9) (pureE (pvw 5)))) (lift2 pNe (pureE (plift2 pIx (plift2 pIx (pvw 1) (pvr 9)) (pcst (.int 0)))) (pureE (pvw 6))))
    (seqD (setD (lcD (itD (vr 3)) (gN 11) t__law_other_step_1 (vr 11) [11]) (gN 10))
  (exprD (mutD 8 kApp (aCons (aCons (vr 9) (aCons (lift2 pIx (vr 10) (callD d__law_take (aCons (vr 0) (aCons (lift1 pLen (pureE (pvw 10))) aNil)))) aNil)) aNil))))
    nxD)
noncomputable def t__law_other_step_3 : DEx :=
  (andD (lift2 pGeX (vr 12) (pureE (pvw 9))) (lift2 pNe (pureE (plift2 pIx (plift2 pIx (pvw 1) (pvr 12)) (pcst (.int 0)))) (pureE (pvw 6))))
noncomputable def t__law_other_step_4 : DEx :=
  (lift2 (pNil false) (lcD (itD (vr 4)) (gN 12) t__law_other_step_3 (vr 12) [12]) (lstD aNil))
noncomputable def t__law_other_step_5 : DEx :=
  (lift2 (pInX true) (vr 11) (pureE (plift2 pIx (plift2 pIx (pvw 1) (pvr 9)) (pcst (.int 1)))))
noncomputable def t__law_other_step_6 : DEx :=
  (lift2 (pNil false) (lcD (itD (vr 3)) (gN 11) t__law_other_step_5 (vr 11) [11]) (lstD aNil))
noncomputable def b__law_other_step : DSx :=
  (seqD (setD (lcD (rng1 (aCons (lift1 pLen (pureE (pvw 1))) aNil)) (gN 9) t__law_other_step_6 (vr 9) [9]) (gN 4))
  (seqD (setD (cst .non) (gN 5))
  (seqD (setD (cst .non) (gN 6))
  (seqD (ifD (nilP true (pvw 4))
    (seqD (setD (pureE (plift2 pIx (plift2 pIx (pvw 1) (plift2 pIx (pvw 4) (plift1 pNeg (pcst (.int 1))))) (pcst (.int 0)))) (gN 6))
  (seqD (setD (lcD (itD (vr 4)) (gN 9) t__law_other_step_4 (vr 9) [9]) (gN 7))
  (seqD (setD (lift2 pIx (vr 7) (callD d__law_take (aCons (vr 0) (aCons (lift1 pLen (pureE (pvw 7))) aNil)))) (gN 5))
  (ifD (andD (lift2 (pIs false) (vr 6) (cst .non)) (andD (lift2 pEq (vr 7) (pureE (pvw 4))) (lift2 pEq (callD d__law_take (aCons (vr 0) (aCons (cst (.int 2)) aNil))) (cst (.int 0)))))
    (setD (cst .non) (gN 5))
    nxD))))
    nxD)
  (seqD (setOD (lstD aNil) 8)
  (seqD (forE (rng1 (aCons (lift1 pLen (pureE (pvw 1))) aNil)) (gN 9)
    f__law_other_step_2)
  (retD (aCons (aCons (vr 2) (aCons (vr 5) (aCons (frzE 8) aNil))) (aCons (vr 6) aNil)))))))))
noncomputable def d__law_other_step : Den := runD 13 b__law_other_step
theorem bd__law_other_step {P : Program} {wd : World} {K : PySem.W.Frag} {mg : Str → Option Value} {base : Heap} (T : Fx K mg) (C__law_take : Cal P wd K mg base 1 "_law_take" 2 d__law_take) {f : Addr} {A : Around} {outer : List Env} {s : Shared} {H : Hp} {E : XK} {cdv : Value} (hr : Room 1 (A.deeper (PyProof.Rows.envOfC "_law_other_step" (defScope s__law_other_step) s.heap.objs.size f cdv))) : DSs (cxOf (L2N.CX P wd) P wd K mg base N__law_other_step "_law_other_step" (defScope s__law_other_step) f cdv A outer s H E) (WEx E) (defBody s__law_other_step) b__law_other_step :=
  have sc := sc__law_other_step
  (dss_cons (ds_set (i := 4) sc.nd (by rfl) (Or.inr (by rfl)) (DO.fz (do_lc (own := [("_law_k", 9)]) (by rfl) sc.nd (di_range1 (by rfl) T.n_range (da_cons (de_b1 call_len ansC_len (by rfl) T.n_len b_len (DPv.v (dp_vw 1))) da_nil)) (blkOk_by (by rfl)) (by decide) (fun _ _ _ _ _ => (dg_name (i := 9) sc.nd (by rfl) (by first | exact Or.inl (by rfl) | exact Or.inr (by rfl)))) (fun _ _ _ _ _ => (dts_one (dt_cmp (op_eqNil hr.units0) ans_nil (nomark _) (DO.fz (do_lc (own := [("_law_person", 11)]) (by rfl) sc.nd (di_seq (de_vr 3)) (blkOk_by (by rfl)) (by decide) (fun _ _ _ _ _ => (dg_name (i := 11) sc.nd (by rfl) (by first | exact Or.inl (by rfl) | exact Or.inr (by rfl)))) (fun _ _ _ _ _ => (dts_one (dt_cmp (op_notInA hr.u65) (ans_in true) (by rfl) (de_vr 11) (DE.v (DP.e (dp_ix (DP.pv (dp_ix (dp_vw 1) (dp_vr 9) (fun _ _ => (by rfl)))) dp_int (fun _ _ => (by rfl)))))))) (fun _ _ _ _ _ => (de_vr 11)))) (DE.v (DO.fz (do_lst da_nil)))))) (fun _ _ _ _ _ => (de_vr 9)))))
  (dss_cons (ds_set (i := 5) sc.nd (by rfl) (Or.inl (by rfl)) de_non)
  (dss_cons (ds_set (i := 6) sc.nd (by rfl) (Or.inr (by rfl)) de_non)
  (dss_cons (ds_if (dt_neNil hr.units0 (dp_vw 4))
    (dss_cons (ds_set (i := 6) sc.nd (by rfl) (Or.inr (by rfl)) (DP.e (dp_ix (DP.pv (dp_ix (dp_vw 1) (dp_ix (dp_vw 4) (dp_neg dp_int) (fun _ _ => (by rfl))) (fun _ _ => (by rfl)))) dp_int (fun _ _ => (by rfl)))))
  (dss_cons (ds_lcF (ps_lc (i := 7) (own := [("_law_k", 9)]) (by rfl) sc.nd (by rfl) (by rfl) (sw_true (by rfl) (by rfl) (by rfl) (by decide +kernel)) (di_seq (de_vr 4)) (blkOk_by (by rfl)) (by decide) (fun _ _ _ _ _ => (dg_name (i := 9) sc.nd (by rfl) (by first | exact Or.inl (by rfl) | exact Or.inr (by rfl)))) (fun _ _ _ _ _ => (dts_one (dt_cmp (op_eqNil hr.units0) ans_nil (nomark _) (DO.fz (do_lc (own := [("_law_j", 12)]) (by rfl) sc.nd (di_seq (de_vr 4)) (blkOk_by (by rfl)) (by decide) (fun _ _ _ _ _ => (dg_name (i := 12) sc.nd (by rfl) (by first | exact Or.inl (by rfl) | exact Or.inr (by rfl)))) (fun _ _ _ _ _ => (dts_one (DW.t (dw_and (dt_cmp (op_geA hr.units) ans_geX (nomark _) (de_vr 12) (DPv.v (dp_vw 9))) (dw_and1 (dt_cmp (op_neD hr.units) ans_ne (nomark _) (DP.e (dp_ix (DP.pv (dp_ix (dp_vw 1) (dp_vr 12) (fun _ _ => (by rfl)))) dp_int (fun _ _ => (by rfl)))) (DPv.v (dp_vw 6)))))))) (fun _ _ _ _ _ => (de_vr 12)))) (DE.v (DO.fz (do_lst da_nil)))))) (fun _ _ _ _ _ => (de_vr 9))))
  (dss_cons (ds_set (i := 5) sc.nd (by rfl) (Or.inl (by rfl)) (de_ix (de_vr 7) (Cal.call C__law_take hr (by omega) (by rfl) (L2N.takes_of (by rfl) (by rfl) (by rfl) (by rfl)) (da_cons (de_vr 0) (da_cons (de_b1 call_len ansC_len (by rfl) T.n_len b_len (DPv.v (dp_vw 7))) da_nil))) (fun _ _ => (by rfl))))
  (dss_one (ds_if (DW.t (dw_and (dt_cmp op_isN ans_isN (nomark _) (de_vr 6) (DE.v de_non)) (dw_and (dt_cmp (op_eqD hr.units) ans_eq (nomark _) (de_vr 7) (DPv.v (dp_vw 4))) (dw_and1 (dt_cmp (op_eqD hr.units) ans_eq (nomark _) (Cal.call C__law_take hr (by omega) (by rfl) (L2N.takes_of (by rfl) (by rfl) (by rfl) (by rfl)) (da_cons (de_vr 0) (da_cons de_int da_nil))) (DE.v de_int))))))
    (dss_one (ds_set (i := 5) sc.nd (by rfl) (Or.inl (by rfl)) de_non))
    dss_nil)))))
    dss_nil)
  (dss_cons (ds_setO (i := 8) sc.nd (by rfl) (Or.inl (by rfl)) (do_lst da_nil))
  (dss_cons (ds_for (passes_of (by rfl)) (by rfl) (di_range1 (by rfl) T.n_range (da_cons (de_b1 call_len ansC_len (by rfl) T.n_len b_len (DPv.v (dp_vw 1))) da_nil)) (dg_name (i := 9) sc.nd (by rfl) (Or.inr (by rfl)))
    (dss_one (ds_if (DW.t (dw_and (DW.t (dw_or (dt_cmp op_isN ans_isN (nomark _) (de_vr 5) (DE.v de_non)) (dw_or1 (dt_cmp (op_gtA hr.units) ans_gtX (nomark _) (de_vr 9) (DPv.v (dp_vw 5)))))) (dw_and1 (dt_cmp (op_neD hr.units) ans_ne (nomark _) (DP.e (dp_ix (DP.pv (dp_ix (dp_vw 1) (dp_vr 9) (fun _ _ => (by rfl)))) dp_int (fun _ _ => (by rfl)))) (DPv.v (dp_vw 6))))))
    (dss_cons (ds_lcF (ps_lc (i := 10) (own := [("_law_person", 11)]) (by rfl) sc.nd (by rfl) (by rfl) (sw_true (by rfl) (by rfl) (by rfl) (by decide +kernel)) (di_seq (de_vr 3)) (blkOk_by (by rfl)) (by decide) (fun _ _ _ _ _ => (dg_name (i := 11) sc.nd (by rfl) (by first | exact Or.inl (by rfl) | exact Or.inr (by rfl)))) (fun _ _ _ _ _ => (dts_one (dt_cmp (op_notInA hr.u65) (ans_in true) (by rfl) (de_vr 11) (DE.v (DP.e (dp_ix (DP.pv (dp_ix (dp_vw 1) (dp_vr 9) (fun _ _ => (by rfl)))) dp_int (fun _ _ => (by rfl)))))))) (fun _ _ _ _ _ => (de_vr 11))))
  (dss_one (ds_expr (de_mut (i := 8) PySem.F.slot_list_append PySem.F.type_list_append mt_append ansM_app (da_cons (de_tup (da_cons (de_vr 9) (da_cons (de_ix (de_vr 10) (Cal.call C__law_take hr (by omega) (by rfl) (L2N.takes_of (by rfl) (by rfl) (by rfl) (by rfl)) (da_cons (de_vr 0) (da_cons (de_b1 call_len ansC_len (by rfl) T.n_len b_len (DPv.v (dp_vw 10))) da_nil))) (fun _ _ => (by rfl))) da_nil))) da_nil)))))
    dss_nil)))
  (dss_one (ds_ret (de_tup (da_cons (de_tup (da_cons (de_vr 2) (da_cons (de_vr 5) (da_cons (de_frz 8) da_nil)))) (da_cons (de_vr 6) da_nil)))))))))))
abbrev s__law_other_reason : Stmt := top 35
abbrev N__law_other_reason : List Str := ["_law_bag_here", "_law_rows_here", "_law_word", "_law_group", "_law_steps", "_law_seen", "_law_thing_here", "_law_step"]
theorem sc__law_other_reason : FnScope N__law_other_reason ["_law_bag_here", "_law_rows_here", "_law_word", "_law_group"] (defScope s__law_other_reason) := ⟨rfl, rfl, rfl, by decide +kernel, rfl, by decide +kernel, by decide +kernel⟩
noncomputable def w__law_other_reason_1 : DEx :=
  (andD (lift1 (pIsi "tuple") (pureE (pvw 6))) (lift2 (pInX true) (pureE (plift2 pIx (pvw 6) (pcst (.int 1)))) (pureE (pvw 5))))
noncomputable def f__law_other_reason_2 : DSx :=
  (seqD (exprD (mutD 5 kApp (aCons (pureE (plift2 pIx (pvw 6) (pcst (.int 1)))) aNil)))
  (seqD (setD (callD d__law_other_step (aCons (vr 0) (aCons (dgetD (vr 1) (pureE (plift2 pIx (pvw 6) (pcst (.int 1)))) (lstD aNil)) (aCons (pureE (plift2 pIx (pvw 6) (pcst (.int 1)))) (aCons (vr 3) aNil))))) (gT (gsCons (gN 7) (gsCons (gN 6) gsNil))))
  (exprD (mutD 4 kApp (aCons (vr 7) aNil)))))
noncomputable def b__law_other_reason : DSx :=
  (seqD (setOD (lstD aNil) 4)
  (seqD (setOD (lstD aNil) 5)
  (seqD (setD (aCons (cst (.str "later")) (aCons (vr 2) aNil)) (gN 6))
  (seqD (whileD w__law_other_reason_1
    f__law_other_reason_2)
  (seqD (ifD (lift1 (pIsi "tuple") (pureE (pvw 6)))
    (setD (cst .non) (gN 6))
    nxD)
  (retD (aCons (cst (.str "reason")) (aCons (vr 2) (aCons (tupleD (sortD (pureE (pvw 3)))) (aCons (frzE 4) (aCons (vr 6) aNil)))))))))))
noncomputable def d__law_other_reason : Den := runD 8 b__law_other_reason
theorem bd__law_other_reason {P : Program} {wd : World} {K : PySem.W.Frag} {mg : Str → Option Value} {base : Heap} (T : Fx K mg) (C__law_other_step : Cal P wd K mg base 2 "_law_other_step" 4 d__law_other_step) {f : Addr} {A : Around} {outer : List Env} {s : Shared} {H : Hp} {E : XK} {cdv : Value} (hr : Room 2 (A.deeper (PyProof.Rows.envOfC "_law_other_reason" (defScope s__law_other_reason) s.heap.objs.size f cdv))) : DSs (cxOf (L2N.CX P wd) P wd K mg base N__law_other_reason "_law_other_reason" (defScope s__law_other_reason) f cdv A outer s H E) (WEx E) (defBody s__law_other_reason) b__law_other_reason :=
  have sc := sc__law_other_reason
  (dss_cons (ds_setO (i := 4) sc.nd (by rfl) (Or.inl (by rfl)) (do_lst da_nil))
  (dss_cons (ds_setO (i := 5) sc.nd (by rfl) (Or.inl (by rfl)) (do_lst da_nil))
  (dss_cons (ds_set (i := 6) sc.nd (by rfl) (Or.inl (by rfl)) (de_tup (da_cons de_str (da_cons (de_vr 2) da_nil))))
  (dss_cons (ds_while (passes_of (by rfl)) (DW.t (dw_and (dt_val (de_isi (by rfl) T.n_isinstance (by rfl) T.n_tuple b_tuple (DPv.v (dp_vw 6)))) (dw_and1 (dt_cmp (op_notInA hr.u65) (ans_in true) (by rfl) (DP.e (dp_ix (dp_vw 6) dp_int (fun _ _ => (by rfl)))) (DPv.v (dp_vw 5))))))
    (dss_cons (ds_expr (de_mut (i := 5) PySem.F.slot_list_append PySem.F.type_list_append mt_append ansM_app (da_cons (DP.e (dp_ix (dp_vw 6) dp_int (fun _ _ => (by rfl)))) da_nil)))
  (dss_cons (ds_asg (Cal.call C__law_other_step hr (by omega) (by rfl) (L2N.takes_of (by rfl) (by rfl) (by rfl) (by rfl)) (da_cons (de_vr 0) (da_cons (de_dget2 (hu_of hr) (de_vr 1) (DP.e (dp_ix (dp_vw 6) dp_int (fun _ _ => (by rfl)))) (DO.fz (do_lst da_nil)) ⟨(by rfl), (by rfl), (by rfl), (by rfl)⟩) (da_cons (DP.e (dp_ix (dp_vw 6) dp_int (fun _ _ => (by rfl)))) (da_cons (de_vr 3) da_nil))))) (dg_tup (by rfl) (dgs_cons (dg_name (i := 7) sc.nd (by rfl) (Or.inl (by rfl))) (dgs_cons (dg_name (i := 6) sc.nd (by rfl) (Or.inl (by rfl))) dgs_nil))))
  (dss_one (ds_expr (de_mut (i := 4) PySem.F.slot_list_append PySem.F.type_list_append mt_append ansM_app (da_cons (de_vr 7) da_nil)))))))
  (dss_cons (ds_if (dt_val (de_isi (by rfl) T.n_isinstance (by rfl) T.n_tuple b_tuple (DPv.v (dp_vw 6))))
    (dss_one (ds_set (i := 6) sc.nd (by rfl) (Or.inl (by rfl)) de_non))
    dss_nil)
  (dss_one (ds_ret (de_tup (da_cons de_str (da_cons (de_vr 2) (da_cons (de_tuple (by rfl) T.n_tuple (DE.v (DO.fz (do_sorted hr.u80 (by rfl) T.n_sorted (DPv.v (dp_vw 3)))))) (da_cons (de_frz 4) (da_cons (de_vr 6) da_nil)))))))))))))
abbrev s__law_is_name : Stmt := top 28
abbrev N__law_is_name : List Str := ["_law_thing_here", "_law_sign"]
theorem sc__law_is_name : FnScope N__law_is_name ["_law_thing_here"] (defScope s__law_is_name) := ⟨rfl, rfl, rfl, by decide +kernel, rfl, by decide +kernel, by decide +kernel⟩
noncomputable def t__law_is_name_1 : DEx :=
  (lift2 (pInX true) (vr 1) (cst (.str "abcdefghijklmnopqrstuvwxyz")))
noncomputable def b__law_is_name : DSx :=
  (seqD (ifD (orD (notD (lift1 (pIsi "str") (pureE (pvw 0)))) (orD (lift2 pLtX (lift1 pLen (pureE (pvw 0))) (cst (.int 1))) (lift2 pGtX (lift1 pLen (pureE (pvw 0))) (cst (.int 8)))))
    (retD (cst (.bl false)))
    nxD)
  (retD (lift2 (pNil false) (lcD (itD (vr 0)) (gN 1) t__law_is_name_1 (vr 1) [1]) (lstD aNil))))
noncomputable def d__law_is_name : Den := runD 2 b__law_is_name
theorem bd__law_is_name {P : Program} {wd : World} {K : PySem.W.Frag} {mg : Str → Option Value} {base : Heap} (T : Fx K mg)  {f : Addr} {A : Around} {outer : List Env} {s : Shared} {H : Hp} {E : XK} {cdv : Value} (hr : Room 0 (A.deeper (PyProof.Rows.envOfC "_law_is_name" (defScope s__law_is_name) s.heap.objs.size f cdv))) : DSs (cxOf (L2N.CX P wd) P wd K mg base N__law_is_name "_law_is_name" (defScope s__law_is_name) f cdv A outer s H E) (WEx E) (defBody s__law_is_name) b__law_is_name :=
  have sc := sc__law_is_name
  (dss_cons (ds_if (DW.t (dw_or (dt_not (dt_val (de_isi (by rfl) T.n_isinstance (by rfl) T.n_str b_str (DPv.v (dp_vw 0))))) (dw_or (dt_cmp (op_ltA hr.units) ans_ltX (nomark _) (de_b1 call_len ansC_len (by rfl) T.n_len b_len (DPv.v (dp_vw 0))) (DE.v de_int)) (dw_or1 (dt_cmp (op_gtA hr.units) ans_gtX (nomark _) (de_b1 call_len ansC_len (by rfl) T.n_len b_len (DPv.v (dp_vw 0))) (DE.v de_int))))))
    (dss_one (ds_ret de_bl))
    dss_nil)
  (dss_one (ds_ret (de_cmp (op_eqNil hr.units0) ans_nil (nomark _) (DO.fz (do_lc (own := [("_law_sign", 1)]) (by rfl) sc.nd (di_seq (de_vr 0)) (blkOk_by (by rfl)) (by decide) (fun _ _ _ _ _ => (dg_name (i := 1) sc.nd (by rfl) (by first | exact Or.inl (by rfl) | exact Or.inr (by rfl)))) (fun _ _ _ _ _ => (dts_one (dt_cmp (op_notInA hr.u65) (ans_in true) (by rfl) (de_vr 1) (DE.v de_str)))) (fun _ _ _ _ _ => (de_vr 1)))) (DE.v (DO.fz (do_lst da_nil)))))))
abbrev s__law_are_names : Stmt := top 29
abbrev N__law_are_names : List Str := ["_law_thing_here", "_law_k"]
theorem sc__law_are_names : FnScope N__law_are_names ["_law_thing_here"] (defScope s__law_are_names) := ⟨rfl, rfl, rfl, by decide +kernel, rfl, by decide +kernel, by decide +kernel⟩
noncomputable def f__law_are_names_1 : DSx :=
  (ifD (orD (notD (callD d__law_is_name (aCons (pureE (plift2 pIx (pvw 0) (pvr 1))) aNil))) (andD (lift2 pGtX (vr 1) (cst (.int 0))) (lift2 pGeX (pureE (plift2 pIx (pvw 0) (plift2 pSub (pvr 1) (pcst (.int 1))))) (pureE (plift2 pIx (pvw 0) (pvr 1))))))
    (retD (cst (.bl false)))
    nxD)
noncomputable def b__law_are_names : DSx :=
  (seqD (ifD (orD (notD (lift1 (pIsi "tuple") (pureE (pvw 0)))) (lift2 pEqO (vr 0) aNil))
    (retD (cst (.bl false)))
    nxD)
  (seqD (forE (rng1 (aCons (lift1 pLen (pureE (pvw 0))) aNil)) (gN 1)
    f__law_are_names_1)
  (retD (cst (.bl true)))))
noncomputable def d__law_are_names : Den := runD 2 b__law_are_names
theorem bd__law_are_names {P : Program} {wd : World} {K : PySem.W.Frag} {mg : Str → Option Value} {base : Heap} (T : Fx K mg) (C__law_is_name : Cal P wd K mg base 1 "_law_is_name" 1 d__law_is_name) {f : Addr} {A : Around} {outer : List Env} {s : Shared} {H : Hp} {E : XK} {cdv : Value} (hr : Room 1 (A.deeper (PyProof.Rows.envOfC "_law_are_names" (defScope s__law_are_names) s.heap.objs.size f cdv))) : DSs (cxOf (L2N.CX P wd) P wd K mg base N__law_are_names "_law_are_names" (defScope s__law_are_names) f cdv A outer s H E) (WEx E) (defBody s__law_are_names) b__law_are_names :=
  have sc := sc__law_are_names
  (dss_cons (ds_if (DW.t (dw_or (dt_not (dt_val (de_isi (by rfl) T.n_isinstance (by rfl) T.n_tuple b_tuple (DPv.v (dp_vw 0))))) (dw_or1 (dt_cmp (op_eqO hr.units) ans_eqO (nomark _) (de_vr 0) (DE.v (de_tup da_nil))))))
    (dss_one (ds_ret de_bl))
    dss_nil)
  (dss_cons (ds_for (passes_of (by rfl)) (by rfl) (di_range1 (by rfl) T.n_range (da_cons (de_b1 call_len ansC_len (by rfl) T.n_len b_len (DPv.v (dp_vw 0))) da_nil)) (dg_name (i := 1) sc.nd (by rfl) (Or.inl (by rfl)))
    (dss_one (ds_if (DW.t (dw_or (dt_not (dt_val (Cal.call C__law_is_name hr (by omega) (by rfl) (L2N.takes_of (by rfl) (by rfl) (by rfl) (by rfl)) (da_cons (DP.e (dp_ix (dp_vw 0) (dp_vr 1) (fun _ _ => (by rfl)))) da_nil)))) (dw_or1 (DW.t (dw_and (dt_cmp (op_gtA hr.units) ans_gtX (nomark _) (de_vr 1) (DE.v de_int)) (dw_and1 (dt_cmp (op_geA hr.units) ans_geX (nomark _) (DP.e (dp_ix (dp_vw 0) (dp_sub (dp_vr 1) dp_int) (fun _ _ => (by rfl)))) (DE.v (DP.e (dp_ix (dp_vw 0) (dp_vr 1) (fun _ _ => (by rfl))))))))))))
    (dss_one (ds_ret de_bl))
    dss_nil)))
  (dss_one (ds_ret de_bl))))
abbrev s__law_absent_good : Stmt := top 30
abbrev N__law_absent_good : List Str := ["_law_rows_here", "_law_group", "_law_first", "_law_thing_here", "_law_absent", "_law_left", "_law_k", "_law_pair"]
theorem sc__law_absent_good : FnScope N__law_absent_good ["_law_rows_here", "_law_group", "_law_first", "_law_thing_here", "_law_absent"] (defScope s__law_absent_good) := ⟨rfl, rfl, rfl, by decide +kernel, rfl, by decide +kernel, by decide +kernel⟩
noncomputable def f__law_absent_good_1 : DSx :=
  (seqD (setD (pureE (plift2 pIx (pvw 4) (pvr 6))) (gN 7))
  (seqD (ifD (orD (notD (lift1 (pIsi "tuple") (pureE (pvw 7)))) (orD (lift2 pNeO (lift1 pLen (pureE (pvw 7))) (cst (.int 2))) (orD (lift1 (pIsi "bool") (pureE (plift2 pIx (pvw 7) (pcst (.int 0))))) (lift2 pNeO (pureE (plift2 pIx (pvw 7) (pcst (.int 0)))) (pureE (plift2 pIx (pvw 5) (pvr 6)))))))
    (retD (cst (.bl false)))
    nxD)
  (ifD (orD (lift2 (pInO true) (pureE (plift2 pIx (pvw 7) (pcst (.int 1)))) (pureE (pvw 1))) (lift2 (pInO false) (pureE (plift2 pIx (pvw 7) (pcst (.int 1)))) (pureE (plift2 pIx (plift2 pIx (pvw 0) (plift2 pIx (pvw 5) (pvr 6))) (pcst (.int 1))))))
    (retD (cst (.bl false)))
    nxD)))
noncomputable def t__law_absent_good_2 : DEx :=
  (lift2 pNeO (pureE (plift2 pIx (plift2 pIx (pvw 0) (pvr 6)) (pcst (.int 0)))) (pureE (pvw 3)))
noncomputable def b__law_absent_good : DSx :=
  (seqD (setD (lcD (rng2 (aCons (vr 2) (aCons (lift1 pLen (pureE (pvw 0))) aNil))) (gN 6) t__law_absent_good_2 (vr 6) [6]) (gN 5))
  (seqD (ifD (orD (notD (lift1 (pIsi "list") (pureE (pvw 4)))) (lift2 pNeO (lift1 pLen (pureE (pvw 4))) (lift1 pLen (pureE (pvw 5)))))
    (retD (cst (.bl false)))
    nxD)
  (seqD (forE (rng1 (aCons (lift1 pLen (pureE (pvw 5))) aNil)) (gN 6)
    f__law_absent_good_1)
  (retD (cst (.bl true))))))
noncomputable def d__law_absent_good : Den := runD 8 b__law_absent_good
theorem bd__law_absent_good {P : Program} {wd : World} {K : PySem.W.Frag} {mg : Str → Option Value} {base : Heap} (T : Fx K mg)  {f : Addr} {A : Around} {outer : List Env} {s : Shared} {H : Hp} {E : XK} {cdv : Value} (hr : Room 0 (A.deeper (PyProof.Rows.envOfC "_law_absent_good" (defScope s__law_absent_good) s.heap.objs.size f cdv))) : DSs (cxOf (L2N.CX P wd) P wd K mg base N__law_absent_good "_law_absent_good" (defScope s__law_absent_good) f cdv A outer s H E) (WEx E) (defBody s__law_absent_good) b__law_absent_good :=
  have sc := sc__law_absent_good
  (dss_cons (ds_lcF (ps_lc (i := 5) (own := [("_law_k", 6)]) (by rfl) sc.nd (by rfl) (by rfl) (sw_true (by rfl) (by rfl) (by rfl) (by decide +kernel)) (di_range2 (by rfl) T.n_range (da_cons (de_vr 2) (da_cons (de_b1 call_len ansC_len (by rfl) T.n_len b_len (DPv.v (dp_vw 0))) da_nil))) (blkOk_by (by rfl)) (by decide) (fun _ _ _ _ _ => (dg_name (i := 6) sc.nd (by rfl) (by first | exact Or.inl (by rfl) | exact Or.inr (by rfl)))) (fun _ _ _ _ _ => (dts_one (dt_cmp (op_neO hr.units) ans_neO (nomark _) (DP.e (dp_ix (DP.pv (dp_ix (dp_vw 0) (dp_vr 6) (fun _ _ => (by rfl)))) dp_int (fun _ _ => (by rfl)))) (DPv.v (dp_vw 3))))) (fun _ _ _ _ _ => (de_vr 6))))
  (dss_cons (ds_if (DW.t (dw_or (dt_not (dt_val (de_isi (by rfl) T.n_isinstance (by rfl) T.n_list b_list (DPv.v (dp_vw 4))))) (dw_or1 (dt_cmp (op_neO hr.units) ans_neO (nomark _) (de_b1 call_len ansC_len (by rfl) T.n_len b_len (DPv.v (dp_vw 4))) (DE.v (de_b1 call_len ansC_len (by rfl) T.n_len b_len (DPv.v (dp_vw 5))))))))
    (dss_one (ds_ret de_bl))
    dss_nil)
  (dss_cons (ds_for (passes_of (by rfl)) (by rfl) (di_range1 (by rfl) T.n_range (da_cons (de_b1 call_len ansC_len (by rfl) T.n_len b_len (DPv.v (dp_vw 5))) da_nil)) (dg_name (i := 6) sc.nd (by rfl) (Or.inl (by rfl)))
    (dss_cons (ds_set (i := 7) sc.nd (by rfl) (Or.inl (by rfl)) (DP.e (dp_ix (dp_vw 4) (dp_vr 6) (fun _ _ => (by rfl)))))
  (dss_cons (ds_if (DW.t (dw_or (dt_not (dt_val (de_isi (by rfl) T.n_isinstance (by rfl) T.n_tuple b_tuple (DPv.v (dp_vw 7))))) (dw_or (dt_cmp (op_neO hr.units) ans_neO (nomark _) (de_b1 call_len ansC_len (by rfl) T.n_len b_len (DPv.v (dp_vw 7))) (DE.v de_int)) (dw_or (dt_val (de_isi (by rfl) T.n_isinstance (by rfl) T.n_bool b_bool (DE.v (DP.e (dp_ix (dp_vw 7) dp_int (fun _ _ => (by rfl))))))) (dw_or1 (dt_cmp (op_neO hr.units) ans_neO (nomark _) (DP.e (dp_ix (dp_vw 7) dp_int (fun _ _ => (by rfl)))) (DE.v (DP.e (dp_ix (dp_vw 5) (dp_vr 6) (fun _ _ => (by rfl)))))))))))
    (dss_one (ds_ret de_bl))
    dss_nil)
  (dss_one (ds_if (DW.t (dw_or (dt_cmp (op_notInO hr.u65) (ans_inO true) (by rfl) (DP.e (dp_ix (dp_vw 7) dp_int (fun _ _ => (by rfl)))) (DPv.v (dp_vw 1))) (dw_or1 (dt_cmp (op_inO hr.u65) (ans_inO false) (by rfl) (DP.e (dp_ix (dp_vw 7) dp_int (fun _ _ => (by rfl)))) (DE.v (DP.e (dp_ix (DP.pv (dp_ix (dp_vw 0) (dp_ix (dp_vw 5) (dp_vr 6) (fun _ _ => (by rfl))) (fun _ _ => (by rfl)))) dp_int (fun _ _ => (by rfl)))))))))
    (dss_one (ds_ret de_bl))
    dss_nil)))))
  (dss_one (ds_ret de_bl)))))
abbrev s__law_step_good : Stmt := top 31
abbrev N__law_step_good : List Str := ["_law_rows_here", "_law_group", "_law_word", "_law_step", "_law_at", "_law_person"]
theorem sc__law_step_good : FnScope N__law_step_good ["_law_rows_here", "_law_group", "_law_word", "_law_step"] (defScope s__law_step_good) := ⟨rfl, rfl, rfl, by decide +kernel, rfl, by decide +kernel, by decide +kernel⟩
noncomputable def t__law_step_good_1 : DEx :=
  (lift2 (pInO true) (vr 5) (pureE (plift2 pIx (plift2 pIx (pvw 0) (pvr 4)) (pcst (.int 1)))))
noncomputable def b__law_step_good : DSx :=
  (seqD (ifD (orD (notD (lift1 (pIsi "tuple") (pureE (pvw 3)))) (orD (lift2 pNeO (lift1 pLen (pureE (pvw 3))) (cst (.int 3))) (lift2 pNeO (pureE (plift2 pIx (pvw 3) (pcst (.int 0)))) (pureE (pvw 2)))))
    (retD (cst (.bl false)))
    nxD)
  (seqD (setD (pureE (plift2 pIx (pvw 3) (pcst (.int 1)))) (gN 4))
  (seqD (ifD (lift2 (pIs false) (vr 4) (cst .non))
    (retD (callD d__law_absent_good (aCons (vr 0) (aCons (vr 1) (aCons (cst (.int 0)) (aCons (cst .non) (aCons (pureE (plift2 pIx (pvw 3) (pcst (.int 2)))) aNil)))))))
    nxD)
  (seqD (ifD (orD (notD (lift1 (pIsi "int") (pureE (pvw 4)))) (orD (lift1 (pIsi "bool") (pureE (pvw 4))) (orD (lift2 pLtX (vr 4) (cst (.int 0))) (lift2 pGeX (vr 4) (lift1 pLen (pureE (pvw 0)))))))
    (retD (cst (.bl false)))
    nxD)
  (seqD (ifD (lift2 pGtX (lift1 pLen (lcD (itD (vr 1)) (gN 5) t__law_step_good_1 (vr 5) [5])) (cst (.int 0)))
    (retD (cst (.bl false)))
    nxD)
  (retD (callD d__law_absent_good (aCons (vr 0) (aCons (vr 1) (aCons (lift2 addK (vr 4) (cst (.int 1))) (aCons (pureE (plift2 pIx (plift2 pIx (pvw 0) (pvr 4)) (pcst (.int 0)))) (aCons (pureE (plift2 pIx (pvw 3) (pcst (.int 2)))) aNil))))))))))))
noncomputable def d__law_step_good : Den := runD 6 b__law_step_good
theorem bd__law_step_good {P : Program} {wd : World} {K : PySem.W.Frag} {mg : Str → Option Value} {base : Heap} (T : Fx K mg) (C__law_absent_good : Cal P wd K mg base 1 "_law_absent_good" 5 d__law_absent_good) {f : Addr} {A : Around} {outer : List Env} {s : Shared} {H : Hp} {E : XK} {cdv : Value} (hr : Room 1 (A.deeper (PyProof.Rows.envOfC "_law_step_good" (defScope s__law_step_good) s.heap.objs.size f cdv))) : DSs (cxOf (L2N.CX P wd) P wd K mg base N__law_step_good "_law_step_good" (defScope s__law_step_good) f cdv A outer s H E) (WEx E) (defBody s__law_step_good) b__law_step_good :=
  have sc := sc__law_step_good
  (dss_cons (ds_if (DW.t (dw_or (dt_not (dt_val (de_isi (by rfl) T.n_isinstance (by rfl) T.n_tuple b_tuple (DPv.v (dp_vw 3))))) (dw_or (dt_cmp (op_neO hr.units) ans_neO (nomark _) (de_b1 call_len ansC_len (by rfl) T.n_len b_len (DPv.v (dp_vw 3))) (DE.v de_int)) (dw_or1 (dt_cmp (op_neO hr.units) ans_neO (nomark _) (DP.e (dp_ix (dp_vw 3) dp_int (fun _ _ => (by rfl)))) (DPv.v (dp_vw 2)))))))
    (dss_one (ds_ret de_bl))
    dss_nil)
  (dss_cons (ds_set (i := 4) sc.nd (by rfl) (Or.inr (by rfl)) (DP.e (dp_ix (dp_vw 3) dp_int (fun _ _ => (by rfl)))))
  (dss_cons (ds_if (dt_cmp op_isN ans_isN (nomark _) (de_vr 4) (DE.v de_non))
    (dss_one (ds_ret (Cal.call C__law_absent_good hr (by omega) (by rfl) (L2N.takes_of (by rfl) (by rfl) (by rfl) (by rfl)) (da_cons (de_vr 0) (da_cons (de_vr 1) (da_cons de_int (da_cons de_non (da_cons (DP.e (dp_ix (dp_vw 3) dp_int (fun _ _ => (by rfl)))) da_nil))))))))
    dss_nil)
  (dss_cons (ds_if (DW.t (dw_or (dt_not (dt_val (de_isi (by rfl) T.n_isinstance (by rfl) T.n_int b_int (DPv.v (dp_vw 4))))) (dw_or (dt_val (de_isi (by rfl) T.n_isinstance (by rfl) T.n_bool b_bool (DPv.v (dp_vw 4)))) (dw_or (dt_cmp (op_ltA hr.units) ans_ltX (nomark _) (de_vr 4) (DE.v de_int)) (dw_or1 (dt_cmp (op_geA hr.units) ans_geX (nomark _) (de_vr 4) (DE.v (de_b1 call_len ansC_len (by rfl) T.n_len b_len (DPv.v (dp_vw 0))))))))))
    (dss_one (ds_ret de_bl))
    dss_nil)
  (dss_cons (ds_if (dt_cmp (op_gtA hr.units) ans_gtX (nomark _) (de_b1 call_len ansC_len (by rfl) T.n_len b_len (DE.v (DO.fz (do_lc (own := [("_law_person", 5)]) (by rfl) sc.nd (di_seq (de_vr 1)) (blkOk_by (by rfl)) (by decide) (fun _ _ _ _ _ => (dg_name (i := 5) sc.nd (by rfl) (by first | exact Or.inl (by rfl) | exact Or.inr (by rfl)))) (fun _ _ _ _ _ => (dts_one (dt_cmp (op_notInO hr.u65) (ans_inO true) (by rfl) (de_vr 5) (DE.v (DP.e (dp_ix (DP.pv (dp_ix (dp_vw 0) (dp_vr 4) (fun _ _ => (by rfl)))) dp_int (fun _ _ => (by rfl)))))))) (fun _ _ _ _ _ => (de_vr 5)))))) (DE.v de_int))
    (dss_one (ds_ret de_bl))
    dss_nil)
  (dss_one (ds_ret (Cal.call C__law_absent_good hr (by omega) (by rfl) (L2N.takes_of (by rfl) (by rfl) (by rfl) (by rfl)) (da_cons (de_vr 0) (da_cons (de_vr 1) (da_cons (de_addX (de_vr 4) de_int) (da_cons (DP.e (dp_ix (DP.pv (dp_ix (dp_vw 0) (dp_vr 4) (fun _ _ => (by rfl)))) dp_int (fun _ _ => (by rfl)))) (da_cons (DP.e (dp_ix (dp_vw 3) dp_int (fun _ _ => (by rfl)))) da_nil)))))))))))))
abbrev s__law_reason_good : Stmt := top 32
abbrev N__law_reason_good : List Str := ["_law_rows_here", "_law_thing_here", "_law_wanted", "_law_seen", "_law_step", "_law_own"]
theorem sc__law_reason_good : FnScope N__law_reason_good ["_law_rows_here", "_law_thing_here"] (defScope s__law_reason_good) := ⟨rfl, rfl, rfl, by decide +kernel, rfl, by decide +kernel, by decide +kernel⟩
noncomputable def f__law_reason_good_1 : DSx :=
  (seqD (ifD (orD (notD (lift1 (pIsi "tuple") (pureE (pvw 2)))) (lift2 (pInO false) (pureE (plift2 pIx (pvw 2) (pcst (.int 1)))) (pureE (pvw 3))))
    (retD (cst (.bl false)))
    nxD)
  (seqD (setD (dgetD (vr 0) (pureE (plift2 pIx (pvw 2) (pcst (.int 1)))) (lstD aNil)) (gN 5))
  (seqD (ifD (notD (callD d__law_step_good (aCons (vr 5) (aCons (pureE (plift2 pIx (pvw 1) (pcst (.int 2)))) (aCons (pureE (plift2 pIx (pvw 2) (pcst (.int 1)))) (aCons (vr 4) aNil))))))
    (retD (cst (.bl false)))
    nxD)
  (seqD (exprD (mutD 3 kApp (aCons (pureE (plift2 pIx (pvw 2) (pcst (.int 1)))) aNil)))
  (ifD (lift2 (pIs false) (pureE (plift2 pIx (pvw 4) (pcst (.int 1)))) (cst .non))
    (setD (cst .non) (gN 2))
    (setD (pureE (plift2 pIx (plift2 pIx (pvw 5) (plift2 pIx (pvw 4) (pcst (.int 1)))) (pcst (.int 0)))) (gN 2)))))))
noncomputable def b__law_reason_good : DSx :=
  (seqD (ifD (orD (notD (lift1 (pIsi "tuple") (pureE (pvw 1)))) (orD (lift2 pNeO (lift1 pLen (pureE (pvw 1))) (cst (.int 5))) (orD (lift2 pNeO (pureE (plift2 pIx (pvw 1) (pcst (.int 0)))) (cst (.str "reason"))) (notD (callD d__law_is_name (aCons (pureE (plift2 pIx (pvw 1) (pcst (.int 1)))) aNil))))))
    (retD (cst (.bl false)))
    nxD)
  (seqD (ifD (orD (notD (callD d__law_are_names (aCons (pureE (plift2 pIx (pvw 1) (pcst (.int 2)))) aNil))) (orD (notD (lift1 (pIsi "list") (pureE (plift2 pIx (pvw 1) (pcst (.int 3)))))) (lift2 (pNil false) (pureE (plift2 pIx (pvw 1) (pcst (.int 3)))) (lstD aNil))))
    (retD (cst (.bl false)))
    nxD)
  (seqD (setD (aCons (cst (.str "later")) (aCons (pureE (plift2 pIx (pvw 1) (pcst (.int 1)))) aNil)) (gN 2))
  (seqD (setOD (lstD aNil) 3)
  (seqD (forE (itD (pureE (plift2 pIx (pvw 1) (pcst (.int 3))))) (gN 4)
    f__law_reason_good_1)
  (seqD (ifD (lift1 (pIsi "tuple") (pureE (pvw 2)))
    (retD (andD (lift2 (pInO false) (pureE (plift2 pIx (pvw 2) (pcst (.int 1)))) (pureE (pvw 3))) (lift2 (pIs false) (pureE (plift2 pIx (pvw 1) (pcst (.int 4)))) (cst .non))))
    nxD)
  (retD (lift2 pEqO (pureE (plift2 pIx (pvw 1) (pcst (.int 4)))) (pureE (pvw 2))))))))))
noncomputable def d__law_reason_good : Den := runD 6 b__law_reason_good
theorem bd__law_reason_good {P : Program} {wd : World} {K : PySem.W.Frag} {mg : Str → Option Value} {base : Heap} (T : Fx K mg) (C__law_step_good : Cal P wd K mg base 2 "_law_step_good" 4 d__law_step_good) (C__law_are_names : Cal P wd K mg base 2 "_law_are_names" 1 d__law_are_names) (C__law_is_name : Cal P wd K mg base 1 "_law_is_name" 1 d__law_is_name) {f : Addr} {A : Around} {outer : List Env} {s : Shared} {H : Hp} {E : XK} {cdv : Value} (hr : Room 2 (A.deeper (PyProof.Rows.envOfC "_law_reason_good" (defScope s__law_reason_good) s.heap.objs.size f cdv))) : DSs (cxOf (L2N.CX P wd) P wd K mg base N__law_reason_good "_law_reason_good" (defScope s__law_reason_good) f cdv A outer s H E) (WEx E) (defBody s__law_reason_good) b__law_reason_good :=
  have sc := sc__law_reason_good
  (dss_cons (ds_if (DW.t (dw_or (dt_not (dt_val (de_isi (by rfl) T.n_isinstance (by rfl) T.n_tuple b_tuple (DPv.v (dp_vw 1))))) (dw_or (dt_cmp (op_neO hr.units) ans_neO (nomark _) (de_b1 call_len ansC_len (by rfl) T.n_len b_len (DPv.v (dp_vw 1))) (DE.v de_int)) (dw_or (dt_cmp (op_neO hr.units) ans_neO (nomark _) (DP.e (dp_ix (dp_vw 1) dp_int (fun _ _ => (by rfl)))) (DE.v de_str)) (dw_or1 (dt_not (dt_val (Cal.call C__law_is_name hr (by omega) (by rfl) (L2N.takes_of (by rfl) (by rfl) (by rfl) (by rfl)) (da_cons (DP.e (dp_ix (dp_vw 1) dp_int (fun _ _ => (by rfl)))) da_nil)))))))))
    (dss_one (ds_ret de_bl))
    dss_nil)
  (dss_cons (ds_if (DW.t (dw_or (dt_not (dt_val (Cal.call C__law_are_names hr (by omega) (by rfl) (L2N.takes_of (by rfl) (by rfl) (by rfl) (by rfl)) (da_cons (DP.e (dp_ix (dp_vw 1) dp_int (fun _ _ => (by rfl)))) da_nil)))) (dw_or (dt_not (dt_val (de_isi (by rfl) T.n_isinstance (by rfl) T.n_list b_list (DE.v (DP.e (dp_ix (dp_vw 1) dp_int (fun _ _ => (by rfl)))))))) (dw_or1 (dt_cmp (op_eqNil hr.units0) ans_nil (nomark _) (DP.e (dp_ix (dp_vw 1) dp_int (fun _ _ => (by rfl)))) (DE.v (DO.fz (do_lst da_nil))))))))
    (dss_one (ds_ret de_bl))
    dss_nil)
  (dss_cons (ds_set (i := 2) sc.nd (by rfl) (Or.inl (by rfl)) (de_tup (da_cons de_str (da_cons (DP.e (dp_ix (dp_vw 1) dp_int (fun _ _ => (by rfl)))) da_nil))))
  (dss_cons (ds_setO (i := 3) sc.nd (by rfl) (Or.inl (by rfl)) (do_lst da_nil))
  (dss_cons (ds_for (passes_of (by rfl)) (by rfl) (di_seq (DP.e (dp_ix (dp_vw 1) dp_int (fun _ _ => (by rfl))))) (dg_name (i := 4) sc.nd (by rfl) (Or.inl (by rfl)))
    (dss_cons (ds_if (DW.t (dw_or (dt_not (dt_val (de_isi (by rfl) T.n_isinstance (by rfl) T.n_tuple b_tuple (DPv.v (dp_vw 2))))) (dw_or1 (dt_cmp (op_inO hr.u65) (ans_inO false) (by rfl) (DP.e (dp_ix (dp_vw 2) dp_int (fun _ _ => (by rfl)))) (DPv.v (dp_vw 3))))))
    (dss_one (ds_ret de_bl))
    dss_nil)
  (dss_cons (ds_set (i := 5) sc.nd (by rfl) (Or.inl (by rfl)) (de_dget2 (hu_of hr) (de_vr 0) (DP.e (dp_ix (dp_vw 2) dp_int (fun _ _ => (by rfl)))) (DO.fz (do_lst da_nil)) ⟨(by rfl), (by rfl), (by rfl), (by rfl)⟩))
  (dss_cons (ds_if (dt_not (dt_val (Cal.call C__law_step_good hr (by omega) (by rfl) (L2N.takes_of (by rfl) (by rfl) (by rfl) (by rfl)) (da_cons (de_vr 5) (da_cons (DP.e (dp_ix (dp_vw 1) dp_int (fun _ _ => (by rfl)))) (da_cons (DP.e (dp_ix (dp_vw 2) dp_int (fun _ _ => (by rfl)))) (da_cons (de_vr 4) da_nil)))))))
    (dss_one (ds_ret de_bl))
    dss_nil)
  (dss_cons (ds_expr (de_mut (i := 3) PySem.F.slot_list_append PySem.F.type_list_append mt_append ansM_app (da_cons (DP.e (dp_ix (dp_vw 2) dp_int (fun _ _ => (by rfl)))) da_nil)))
  (dss_one (ds_if (dt_cmp op_isN ans_isN (nomark _) (DP.e (dp_ix (dp_vw 4) dp_int (fun _ _ => (by rfl)))) (DE.v de_non))
    (dss_one (ds_set (i := 2) sc.nd (by rfl) (Or.inl (by rfl)) de_non))
    (dss_one (ds_set (i := 2) sc.nd (by rfl) (Or.inl (by rfl)) (DP.e (dp_ix (DP.pv (dp_ix (dp_vw 5) (dp_ix (dp_vw 4) dp_int (fun _ _ => (by rfl))) (fun _ _ => (by rfl)))) dp_int (fun _ _ => (by rfl)))))))))))))
  (dss_cons (ds_if (dt_val (de_isi (by rfl) T.n_isinstance (by rfl) T.n_tuple b_tuple (DPv.v (dp_vw 2))))
    (dss_one (ds_ret (de_and (de_cmp (op_inO hr.u65) (ans_inO false) (by rfl) (DP.e (dp_ix (dp_vw 2) dp_int (fun _ _ => (by rfl)))) (DPv.v (dp_vw 3))) (de_one (de_cmp op_isN ans_isN (nomark _) (DP.e (dp_ix (dp_vw 1) dp_int (fun _ _ => (by rfl)))) (DE.v de_non))))))
    dss_nil)
  (dss_one (ds_ret (de_cmp (op_eqO hr.units) ans_eqO (nomark _) (DP.e (dp_ix (dp_vw 1) dp_int (fun _ _ => (by rfl)))) (DPv.v (dp_vw 2)))))))))))
abbrev s__law_copy : Stmt := top 27
abbrev N__law_copy : List Str := ["_law_rows_here", "_law_found", "_law_word"]
theorem sc__law_copy : FnScope N__law_copy ["_law_rows_here"] (defScope s__law_copy) := ⟨rfl, rfl, rfl, by decide +kernel, rfl, by decide +kernel, by decide +kernel⟩
noncomputable def f__law_copy_1 : DSx :=
  (dputD (vr 1) (vr 2) (listD (dsubD (vr 0) (vr 2))))
noncomputable def b__law_copy : DSx :=
  (seqD (setD (cellDE (cst (.dct []))) (gN 1))
  (seqD (forE (keysI (vr 0)) (gN 2)
    f__law_copy_1)
  (retD (fzdE (vr 1)))))
noncomputable def d__law_copy : Den := runD 3 b__law_copy
theorem bd__law_copy {P : Program} {wd : World} {K : PySem.W.Frag} {mg : Str → Option Value} {base : Heap} (T : Fx K mg)  {f : Addr} {A : Around} {outer : List Env} {s : Shared} {H : Hp} {E : XK} {cdv : Value} (hr : Room 0 (A.deeper (PyProof.Rows.envOfC "_law_copy" (defScope s__law_copy) s.heap.objs.size f cdv))) : DSs (cxOf (L2N.CX P wd) P wd K mg base N__law_copy "_law_copy" (defScope s__law_copy) f cdv A outer s H E) (WEx E) (defBody s__law_copy) b__law_copy :=
  have sc := sc__law_copy
  (dss_cons (ds_set (i := 1) sc.nd (by rfl) (Or.inl (by rfl)) (DOd.cell dod_new))
  (dss_cons (ds_for (passes_of (by rfl)) (by rfl) (di_keys (de_vr 0)) (dg_name (i := 2) sc.nd (by rfl) (Or.inl (by rfl)))
    (dss_one (ds_dput (hu_of hr) (DO.fz (do_list (by rfl) T.n_list (DE.v (de_dsub (hu_of hr) (de_vr 0) (de_vr 2) (fun _ _ => (by rfl)))))) (de_vr 1) (de_vr 2))))
  (dss_one (ds_ret (DE.fzd (de_vr 1))))))
abbrev s_is_tuple_of : Stmt := top 14
abbrev N_is_tuple_of : List Str := ["thing", "many"]
theorem sc_is_tuple_of : FnScope N_is_tuple_of ["thing", "many"] (defScope s_is_tuple_of) := ⟨rfl, rfl, rfl, by decide +kernel, rfl, by decide +kernel, by decide +kernel⟩
noncomputable def b_is_tuple_of : DSx :=
  (retD (andD (lift1 (pIsi "tuple") (pureE (pvw 0))) (lift2 pEq (lift1 pLen (pureE (pvw 0))) (pureE (pvw 1)))))
noncomputable def d_is_tuple_of : Den := runD 2 b_is_tuple_of
theorem bd_is_tuple_of {P : Program} {wd : World} {K : PySem.W.Frag} {mg : Str → Option Value} {base : Heap} (T : Fx K mg)  {f : Addr} {A : Around} {outer : List Env} {s : Shared} {H : Hp} {E : XK} {cdv : Value} (hr : Room 0 (A.deeper (PyProof.Rows.envOfC "is_tuple_of" (defScope s_is_tuple_of) s.heap.objs.size f cdv))) : DSs (cxOf (L2N.CX P wd) P wd K mg base N_is_tuple_of "is_tuple_of" (defScope s_is_tuple_of) f cdv A outer s H E) (WEx E) (defBody s_is_tuple_of) b_is_tuple_of :=
  have sc := sc_is_tuple_of
  (dss_one (ds_ret (de_and (de_isi (by rfl) T.n_isinstance (by rfl) T.n_tuple b_tuple (DPv.v (dp_vw 0))) (de_one (de_cmp (op_eqD hr.units) ans_eq (nomark _) (de_b1 call_len ansC_len (by rfl) T.n_len b_len (DPv.v (dp_vw 0))) (DPv.v (dp_vw 1)))))))
abbrev s_is_name : Stmt := top 4
abbrev N_is_name : List Str := ["thing", "sign"]
theorem sc_is_name : FnScope N_is_name ["thing"] (defScope s_is_name) := ⟨rfl, rfl, rfl, by decide +kernel, rfl, by decide +kernel, by decide +kernel⟩
noncomputable def e_is_name_1 : DEx :=
  (lift2 (pInX false) (vr 1) (cst (.str "abcdefghijklmnopqrstuvwxyz")))
noncomputable def b_is_name : DSx :=
  (seqD (ifD (orD (notD (lift1 (pIsi "str") (pureE (pvw 0)))) (notD (chainD pLeX pLeX (cst (.int 1)) (lift1 pLen (pureE (pvw 0))) (cst (.int 8)))))
    (retD (cst (.bl false)))
    nxD)
  (retD (lift1 pAll (lcD (itD (vr 0)) (gN 1) yesD e_is_name_1 [1]))))
noncomputable def d_is_name : Den := runD 2 b_is_name
theorem bd_is_name {P : Program} {wd : World} {K : PySem.W.Frag} {mg : Str → Option Value} {base : Heap} (T : Fx K mg)  {f : Addr} {A : Around} {outer : List Env} {s : Shared} {H : Hp} {E : XK} {cdv : Value} (hr : Room 0 (A.deeper (PyProof.Rows.envOfC "is_name" (defScope s_is_name) s.heap.objs.size f cdv))) : DSs (cxOf (L2N.CX P wd) P wd K mg base N_is_name "is_name" (defScope s_is_name) f cdv A outer s H E) (WEx E) (defBody s_is_name) b_is_name :=
  have sc := sc_is_name
  (dss_cons (ds_if (DW.t (dw_or (dt_not (dt_val (de_isi (by rfl) T.n_isinstance (by rfl) T.n_str b_str (DPv.v (dp_vw 0))))) (dw_or1 (dt_not (dt_chain (op_leA hr.units) ans_leX (op_leA hr.units) ans_leX de_int (de_b1 call_len ansC_len (by rfl) T.n_len b_len (DPv.v (dp_vw 0))) (DE.v (de_gintE (by rfl) T.c_MOST_LETTERS)))))))
    (dss_one (ds_ret de_bl))
    dss_nil)
  (dss_one (ds_ret (de_b1 (cr_all (by rfl)) ansC_all (by rfl) T.n_all b_all (DE.v (DO.fz (do_lc (own := [("sign", 1)]) (by rfl) sc.nd (di_seq (de_vr 0)) (blkOk_by (by rfl)) (by decide) (fun _ _ _ _ _ => (dg_name (i := 1) sc.nd (by rfl) (by first | exact Or.inl (by rfl) | exact Or.inr (by rfl)))) (fun _ _ _ _ _ => dts_nil) (fun _ _ _ _ _ => (de_cmp (op_inA hr.u65) (ans_in false) (by rfl) (de_vr 1) (DE.v (de_gstrE (by rfl) T.c_LETTERS)))))))))))
abbrev s_are_names : Stmt := top 15
abbrev N_are_names : List Str := ["thing", "one"]
theorem sc_are_names : FnScope N_are_names ["thing"] (defScope s_are_names) := ⟨rfl, rfl, rfl, by decide +kernel, rfl, by decide +kernel, by decide +kernel⟩
noncomputable def e_are_names_1 : DEx :=
  (callD d_is_name (aCons (vr 1) aNil))
noncomputable def b_are_names : DSx :=
  (seqD (ifD (orD (notD (lift1 (pIsi "tuple") (pureE (pvw 0)))) (orD (lift2 pEqO (lift1 pLen (pureE (pvw 0))) (cst (.int 0))) (notD (lift1 pAll (lcD (itD (vr 0)) (gN 1) yesD e_are_names_1 [1])))))
    (retD (cst (.bl false)))
    nxD)
  (retD (lift2 pEqO (listD (pureE (pvw 0))) (sstD (pureE (pvw 0))))))
noncomputable def d_are_names : Den := runD 2 b_are_names
theorem bd_are_names {P : Program} {wd : World} {K : PySem.W.Frag} {mg : Str → Option Value} {base : Heap} (T : Fx K mg) (C_is_name : Cal P wd K mg base 1 "is_name" 1 d_is_name) {f : Addr} {A : Around} {outer : List Env} {s : Shared} {H : Hp} {E : XK} {cdv : Value} (hr : Room 1 (A.deeper (PyProof.Rows.envOfC "are_names" (defScope s_are_names) s.heap.objs.size f cdv))) : DSs (cxOf (L2N.CX P wd) P wd K mg base N_are_names "are_names" (defScope s_are_names) f cdv A outer s H E) (WEx E) (defBody s_are_names) b_are_names :=
  have sc := sc_are_names
  (dss_cons (ds_if (DW.t (dw_or (dt_not (dt_val (de_isi (by rfl) T.n_isinstance (by rfl) T.n_tuple b_tuple (DPv.v (dp_vw 0))))) (dw_or (dt_cmp (op_eqO hr.units) ans_eqO (nomark _) (de_b1 call_len ansC_len (by rfl) T.n_len b_len (DPv.v (dp_vw 0))) (DE.v de_int)) (dw_or1 (dt_not (dt_val (de_b1 (cr_all (by rfl)) ansC_all (by rfl) T.n_all b_all (DE.v (DO.fz (do_lc (own := [("one", 1)]) (by rfl) sc.nd (di_seq (de_vr 0)) (blkOk_by (by rfl)) (by decide) (fun _ _ _ _ _ => (dg_name (i := 1) sc.nd (by rfl) (by first | exact Or.inl (by rfl) | exact Or.inr (by rfl)))) (fun _ _ _ _ _ => dts_nil) (fun _ _ _ _ _ => (Cal.call C_is_name hr (by omega) (by rfl) takesF (da_cons (de_vr 1) da_nil)))))))))))))
    (dss_one (ds_ret de_bl))
    dss_nil)
  (dss_one (ds_ret (de_cmp (op_eqO hr.units) ans_eqO (nomark _) (DO.fz (do_list (by rfl) T.n_list (DPv.v (dp_vw 0)))) (DE.v (DO.fz (do_sortSet (by rfl) (by rfl) T.n_sorted (by rfl) T.n_set (DPv.v (dp_vw 0)))))))))
abbrev s_is_index : Stmt := top 13
abbrev N_is_index : List Str := ["thing", "many"]
theorem sc_is_index : FnScope N_is_index ["thing", "many"] (defScope s_is_index) := ⟨rfl, rfl, rfl, by decide +kernel, rfl, by decide +kernel, by decide +kernel⟩
noncomputable def b_is_index : DSx :=
  (retD (andD (lift1 (pIsi "int") (pureE (pvw 0))) (andD (notD (lift1 (pIsi "bool") (pureE (pvw 0)))) (chainD pLeX pLtX (cst (.int 0)) (vr 0) (pureE (pvw 1))))))
noncomputable def d_is_index : Den := runD 2 b_is_index
theorem bd_is_index {P : Program} {wd : World} {K : PySem.W.Frag} {mg : Str → Option Value} {base : Heap} (T : Fx K mg)  {f : Addr} {A : Around} {outer : List Env} {s : Shared} {H : Hp} {E : XK} {cdv : Value} (hr : Room 0 (A.deeper (PyProof.Rows.envOfC "is_index" (defScope s_is_index) s.heap.objs.size f cdv))) : DSs (cxOf (L2N.CX P wd) P wd K mg base N_is_index "is_index" (defScope s_is_index) f cdv A outer s H E) (WEx E) (defBody s_is_index) b_is_index :=
  have sc := sc_is_index
  (dss_one (ds_ret (de_and (de_isi (by rfl) T.n_isinstance (by rfl) T.n_int b_int (DPv.v (dp_vw 0))) (de_and (de_not (de_isi (by rfl) T.n_isinstance (by rfl) T.n_bool b_bool (DPv.v (dp_vw 0)))) (de_one (de_chain (op_leA hr.units) ans_leX (op_ltA hr.units) ans_ltX de_int (de_vr 0) (DPv.v (dp_vw 1))))))))
abbrev s_absent_hold : Stmt := top 16
abbrev N_absent_hold : List Str := ["rows", "group", "absent", "index", "person"]
theorem sc_absent_hold : FnScope N_absent_hold ["rows", "group", "absent"] (defScope s_absent_hold) := ⟨rfl, rfl, rfl, by decide +kernel, rfl, by decide +kernel, by decide +kernel⟩
noncomputable def f_absent_hold_1 : DSx :=
  (ifD (orD (notD (callD d_is_index (aCons (vr 3) (aCons (lift1 pLen (pureE (pvw 0))) aNil)))) (orD (lift2 (pInO true) (vr 4) (pureE (pvw 1))) (lift2 (pInO false) (vr 4) (pureE (plift2 pIx (plift2 pIx (pvw 0) (pvr 3)) (pcst (.int 1)))))))
    (retD (cst (.bl false)))
    nxD)
noncomputable def b_absent_hold : DSx :=
  (seqD (forE (itD (vr 2)) (gT (gsCons (gN 3) (gsCons (gN 4) gsNil)))
    f_absent_hold_1)
  (retD (cst (.bl true))))
noncomputable def d_absent_hold : Den := runD 5 b_absent_hold
theorem bd_absent_hold {P : Program} {wd : World} {K : PySem.W.Frag} {mg : Str → Option Value} {base : Heap} (T : Fx K mg) (C_is_index : Cal P wd K mg base 1 "is_index" 2 d_is_index) {f : Addr} {A : Around} {outer : List Env} {s : Shared} {H : Hp} {E : XK} {cdv : Value} (hr : Room 1 (A.deeper (PyProof.Rows.envOfC "absent_hold" (defScope s_absent_hold) s.heap.objs.size f cdv))) : DSs (cxOf (L2N.CX P wd) P wd K mg base N_absent_hold "absent_hold" (defScope s_absent_hold) f cdv A outer s H E) (WEx E) (defBody s_absent_hold) b_absent_hold :=
  have sc := sc_absent_hold
  (dss_cons (ds_for (passes_of (by rfl)) (by rfl) (di_seq (de_vr 2)) (dg_tup (by rfl) (dgs_cons (dg_name (i := 3) sc.nd (by rfl) (Or.inl (by rfl))) (dgs_cons (dg_name (i := 4) sc.nd (by rfl) (Or.inl (by rfl))) dgs_nil)))
    (dss_one (ds_if (DW.t (dw_or (dt_not (dt_val (Cal.call C_is_index hr (by omega) (by rfl) (L2N.takes_of (by rfl) (by rfl) (by rfl) (by rfl)) (da_cons (de_vr 3) (da_cons (de_b1 call_len ansC_len (by rfl) T.n_len b_len (DPv.v (dp_vw 0))) da_nil))))) (dw_or (dt_cmp (op_notInO hr.u65) (ans_inO true) (by rfl) (de_vr 4) (DPv.v (dp_vw 1))) (dw_or1 (dt_cmp (op_inO hr.u65) (ans_inO false) (by rfl) (de_vr 4) (DE.v (DP.e (dp_ix (DP.pv (dp_ix (dp_vw 0) (dp_vr 3) (fun _ _ => (by rfl)))) dp_int (fun _ _ => (by rfl))))))))))
    (dss_one (ds_ret de_bl))
    dss_nil)))
  (dss_one (ds_ret de_bl)))
abbrev s_step_holds : Stmt := top 17
abbrev N_step_holds : List Str := ["rows", "group", "step", "word", "at", "absent", "person", "pair", "index"]
theorem sc_step_holds : FnScope N_step_holds ["rows", "group", "step"] (defScope s_step_holds) := ⟨rfl, rfl, rfl, by decide +kernel, rfl, by decide +kernel, by decide +kernel⟩
noncomputable def e_step_holds_1 : DEx :=
  (callD d_is_tuple_of (aCons (vr 7) (aCons (cst (.int 2)) aNil)))
noncomputable def e_step_holds_2 : DEx :=
  (lift2 (pInO false) (vr 6) (pureE (plift2 pIx (plift2 pIx (pvw 0) (pvr 4)) (pcst (.int 1)))))
noncomputable def b_step_holds : DSx :=
  (seqD (setD (vr 2) (gT (gsCons (gN 3) (gsCons (gN 4) (gsCons (gN 5) gsNil)))))
  (seqD (ifD (lift2 (pIs true) (vr 4) (cst .non))
    (ifD (orD (notD (callD d_is_index (aCons (vr 4) (aCons (lift1 pLen (pureE (pvw 0))) aNil)))) (notD (lift1 pAll (lcD (itD (vr 1)) (gN 6) yesD e_step_holds_2 [6]))))
    (retD (cst (.bl false)))
    nxD)
    nxD)
  (seqD (ifD (orD (notD (lift1 (pIsi "list") (pureE (pvw 5)))) (notD (lift1 pAll (lcD (itD (vr 5)) (gN 7) yesD e_step_holds_1 [7]))))
    (retD (cst (.bl false)))
    nxD)
  (retD (andD (lift2 pEqO (lcD (itD (vr 5)) (gT (gsCons (gN 8) (gsCons (gN 6) gsNil))) yesD (vr 8) [8, 6]) (callD d_rows_to_miss (aCons (vr 0) (aCons (vr 4) aNil)))) (callD d_absent_hold (aCons (vr 0) (aCons (vr 1) (aCons (vr 5) aNil)))))))))
noncomputable def d_step_holds : Den := runD 9 b_step_holds
theorem bd_step_holds {P : Program} {wd : World} {K : PySem.W.Frag} {mg : Str → Option Value} {base : Heap} (T : Fx K mg) (C_rows_to_miss : Cal P wd K mg base 2 "rows_to_miss" 2 d_rows_to_miss) (C_absent_hold : Cal P wd K mg base 2 "absent_hold" 3 d_absent_hold) (C_is_tuple_of : Cal P wd K mg base 1 "is_tuple_of" 2 d_is_tuple_of) (C_is_index : Cal P wd K mg base 1 "is_index" 2 d_is_index) {f : Addr} {A : Around} {outer : List Env} {s : Shared} {H : Hp} {E : XK} {cdv : Value} (hr : Room 2 (A.deeper (PyProof.Rows.envOfC "step_holds" (defScope s_step_holds) s.heap.objs.size f cdv))) : DSs (cxOf (L2N.CX P wd) P wd K mg base N_step_holds "step_holds" (defScope s_step_holds) f cdv A outer s H E) (WEx E) (defBody s_step_holds) b_step_holds :=
  have sc := sc_step_holds
  (dss_cons (ds_asg (de_vr 2) (dg_tup (by rfl) (dgs_cons (dg_name (i := 3) sc.nd (by rfl) (Or.inl (by rfl))) (dgs_cons (dg_name (i := 4) sc.nd (by rfl) (Or.inr (by rfl))) (dgs_cons (dg_name (i := 5) sc.nd (by rfl) (Or.inl (by rfl))) dgs_nil)))))
  (dss_cons (ds_if (dt_cmp op_notN ans_notN (nomark _) (de_vr 4) (DE.v de_non))
    (dss_one (ds_if (DW.t (dw_or (dt_not (dt_val (Cal.call C_is_index hr (by omega) (by rfl) (L2N.takes_of (by rfl) (by rfl) (by rfl) (by rfl)) (da_cons (de_vr 4) (da_cons (de_b1 call_len ansC_len (by rfl) T.n_len b_len (DPv.v (dp_vw 0))) da_nil))))) (dw_or1 (dt_not (dt_val (de_b1 (cr_all (by rfl)) ansC_all (by rfl) T.n_all b_all (DE.v (DO.fz (do_lc (own := [("person", 6)]) (by rfl) sc.nd (di_seq (de_vr 1)) (blkOk_by (by rfl)) (by decide) (fun _ _ _ _ _ => (dg_name (i := 6) sc.nd (by rfl) (by first | exact Or.inl (by rfl) | exact Or.inr (by rfl)))) (fun _ _ _ _ _ => dts_nil) (fun _ _ _ _ _ => (de_cmp (op_inO hr.u65) (ans_inO false) (by rfl) (de_vr 6) (DE.v (DP.e (dp_ix (DP.pv (dp_ix (dp_vw 0) (dp_vr 4) (fun _ _ => (by rfl)))) dp_int (fun _ _ => (by rfl))))))))))))))))
    (dss_one (ds_ret de_bl))
    dss_nil))
    dss_nil)
  (dss_cons (ds_if (DW.t (dw_or (dt_not (dt_val (de_isi (by rfl) T.n_isinstance (by rfl) T.n_list b_list (DPv.v (dp_vw 5))))) (dw_or1 (dt_not (dt_val (de_b1 (cr_all (by rfl)) ansC_all (by rfl) T.n_all b_all (DE.v (DO.fz (do_lc (own := [("pair", 7)]) (by rfl) sc.nd (di_seq (de_vr 5)) (blkOk_by (by rfl)) (by decide) (fun _ _ _ _ _ => (dg_name (i := 7) sc.nd (by rfl) (by first | exact Or.inl (by rfl) | exact Or.inr (by rfl)))) (fun _ _ _ _ _ => dts_nil) (fun _ _ _ _ _ => (Cal.call C_is_tuple_of hr (by omega) (by rfl) takesF (da_cons (de_vr 7) (da_cons de_int da_nil)))))))))))))
    (dss_one (ds_ret de_bl))
    dss_nil)
  (dss_one (ds_ret (de_and (de_cmp (op_eqO hr.units) ans_eqO (nomark _) (DO.fz (do_lc (own := [("index", 8), ("person", 6)]) (by rfl) sc.nd (di_seq (de_vr 5)) (blkOk_by (by rfl)) (by decide) (fun _ _ _ _ _ => (dg_tup (by rfl) (dgs_cons (dg_name (i := 8) sc.nd (by rfl) (by first | exact Or.inl (by rfl) | exact Or.inr (by rfl))) (dgs_cons (dg_name (i := 6) sc.nd (by rfl) (by first | exact Or.inl (by rfl) | exact Or.inr (by rfl))) dgs_nil)))) (fun _ _ _ _ _ => dts_nil) (fun _ _ _ _ _ => (de_vr 8)))) (DE.v (Cal.call C_rows_to_miss hr (by omega) (by rfl) (L2N.takes_of (by rfl) (by rfl) (by rfl) (by rfl)) (da_cons (de_vr 0) (da_cons (de_vr 4) da_nil))))) (de_one (Cal.call C_absent_hold hr (by omega) (by rfl) (L2N.takes_of (by rfl) (by rfl) (by rfl) (by rfl)) (da_cons (de_vr 0) (da_cons (de_vr 1) (da_cons (de_vr 5) da_nil)))))))))))
abbrev s_reason_holds : Stmt := top 18
abbrev N_reason_holds : List Str := ["rows", "thing", "word", "group", "steps", "meaning", "asked", "expected", "step", "own"]
theorem sc_reason_holds : FnScope N_reason_holds ["rows", "thing"] (defScope s_reason_holds) := ⟨rfl, rfl, rfl, by decide +kernel, rfl, by decide +kernel, by decide +kernel⟩
noncomputable def f_reason_holds_1 : DSx :=
  (seqD (ifD (orD (notD (lift1 (pIsi "tuple") (pureE (pvw 7)))) (lift2 (pInO false) (pureE (plift2 pIx (pvw 7) (pcst (.int 1)))) (pureE (pvw 6))))
    (retD (cst (.bl false)))
    nxD)
  (seqD (setD (dgetD (vr 0) (pureE (plift2 pIx (pvw 7) (pcst (.int 1)))) (lstD aNil)) (gN 9))
  (seqD (ifD (orD (notD (callD d_is_tuple_of (aCons (vr 8) (aCons (cst (.int 3)) aNil)))) (orD (lift2 pNeO (pureE (plift2 pIx (pvw 8) (pcst (.int 0)))) (pureE (plift2 pIx (pvw 7) (pcst (.int 1))))) (notD (callD d_step_holds (aCons (vr 9) (aCons (vr 3) (aCons (vr 8) aNil)))))))
    (retD (cst (.bl false)))
    nxD)
  (seqD (exprD (mutD 6 kApp (aCons (pureE (plift2 pIx (pvw 7) (pcst (.int 1)))) aNil)))
  (setD (callD d_step_thing (aCons (vr 9) (aCons (pureE (plift2 pIx (pvw 8) (pcst (.int 1)))) aNil))) (gN 7))))))
noncomputable def b_reason_holds : DSx :=
  (seqD (ifD (orD (notD (callD d_is_tuple_of (aCons (vr 1) (aCons (cst (.int 5)) aNil)))) (lift2 pNeO (pureE (plift2 pIx (pvw 1) (pcst (.int 0)))) (cst (.str "reason"))))
    (retD (cst (.bl false)))
    nxD)
  (seqD (setD (slX kSl (vr 1) (bdS (cst (.int 1))) bdN) (gT (gsCons (gN 2) (gsCons (gN 3) (gsCons (gN 4) (gsCons (gN 5) gsNil))))))
  (seqD (ifD (orD (notD (callD d_is_name (aCons (vr 2) aNil))) (orD (notD (callD d_are_names (aCons (vr 3) aNil))) (notD (lift1 (pIsi "list") (pureE (pvw 4))))))
    (retD (cst (.bl false)))
    nxD)
  (seqD (setOD (lstD aNil) 6)
  (seqD (setD (aCons (cst (.str "later")) (aCons (vr 2) aNil)) (gN 7))
  (seqD (forE (itD (vr 4)) (gN 8)
    f_reason_holds_1)
  (seqD (ifD (lift1 (pIsi "tuple") (pureE (pvw 7)))
    (retD (andD (lift2 (pInO false) (pureE (plift2 pIx (pvw 7) (pcst (.int 1)))) (pureE (pvw 6))) (lift2 (pIs false) (vr 5) (cst .non))))
    nxD)
  (retD (lift2 pEqO (vr 5) (pureE (pvw 7)))))))))))
noncomputable def d_reason_holds : Den := runD 10 b_reason_holds
theorem bd_reason_holds {P : Program} {wd : World} {K : PySem.W.Frag} {mg : Str → Option Value} {base : Heap} (T : Fx K mg) (C_step_thing : Cal P wd K mg base 1 "step_thing" 2 d_step_thing) (C_is_tuple_of : Cal P wd K mg base 1 "is_tuple_of" 2 d_is_tuple_of) (C_step_holds : Cal P wd K mg base 3 "step_holds" 3 d_step_holds) (C_is_name : Cal P wd K mg base 1 "is_name" 1 d_is_name) (C_are_names : Cal P wd K mg base 2 "are_names" 1 d_are_names) {f : Addr} {A : Around} {outer : List Env} {s : Shared} {H : Hp} {E : XK} {cdv : Value} (hr : Room 3 (A.deeper (PyProof.Rows.envOfC "reason_holds" (defScope s_reason_holds) s.heap.objs.size f cdv))) : DSs (cxOf (L2N.CX P wd) P wd K mg base N_reason_holds "reason_holds" (defScope s_reason_holds) f cdv A outer s H E) (WEx E) (defBody s_reason_holds) b_reason_holds :=
  have sc := sc_reason_holds
  (dss_cons (ds_if (DW.t (dw_or (dt_not (dt_val (Cal.call C_is_tuple_of hr (by omega) (by rfl) (L2N.takes_of (by rfl) (by rfl) (by rfl) (by rfl)) (da_cons (de_vr 1) (da_cons de_int da_nil))))) (dw_or1 (dt_cmp (op_neO hr.units) ans_neO (nomark _) (DP.e (dp_ix (dp_vw 1) dp_int (fun _ _ => (by rfl)))) (DE.v de_str)))))
    (dss_one (ds_ret de_bl))
    dss_nil)
  (dss_cons (ds_asg (de_slice (de_vr 1) (db_some de_int) db_none) (dg_tup (by rfl) (dgs_cons (dg_name (i := 2) sc.nd (by rfl) (Or.inl (by rfl))) (dgs_cons (dg_name (i := 3) sc.nd (by rfl) (Or.inl (by rfl))) (dgs_cons (dg_name (i := 4) sc.nd (by rfl) (Or.inl (by rfl))) (dgs_cons (dg_name (i := 5) sc.nd (by rfl) (Or.inl (by rfl))) dgs_nil))))))
  (dss_cons (ds_if (DW.t (dw_or (dt_not (dt_val (Cal.call C_is_name hr (by omega) (by rfl) (L2N.takes_of (by rfl) (by rfl) (by rfl) (by rfl)) (da_cons (de_vr 2) da_nil)))) (dw_or (dt_not (dt_val (Cal.call C_are_names hr (by omega) (by rfl) (L2N.takes_of (by rfl) (by rfl) (by rfl) (by rfl)) (da_cons (de_vr 3) da_nil)))) (dw_or1 (dt_not (dt_val (de_isi (by rfl) T.n_isinstance (by rfl) T.n_list b_list (DPv.v (dp_vw 4)))))))))
    (dss_one (ds_ret de_bl))
    dss_nil)
  (dss_cons (ds_setO (i := 6) sc.nd (by rfl) (Or.inl (by rfl)) (do_lst da_nil))
  (dss_cons (ds_set (i := 7) sc.nd (by rfl) (Or.inl (by rfl)) (de_tup (da_cons (de_gstrE (by rfl) T.c_LATER) (da_cons (de_vr 2) da_nil))))
  (dss_cons (ds_for (passes_of (by rfl)) (by rfl) (di_seq (de_vr 4)) (dg_name (i := 8) sc.nd (by rfl) (Or.inl (by rfl)))
    (dss_cons (ds_if (DW.t (dw_or (dt_not (dt_val (de_isi (by rfl) T.n_isinstance (by rfl) T.n_tuple b_tuple (DPv.v (dp_vw 7))))) (dw_or1 (dt_cmp (op_inO hr.u65) (ans_inO false) (by rfl) (DP.e (dp_ix (dp_vw 7) dp_int (fun _ _ => (by rfl)))) (DPv.v (dp_vw 6))))))
    (dss_one (ds_ret de_bl))
    dss_nil)
  (dss_cons (ds_set (i := 9) sc.nd (by rfl) (Or.inl (by rfl)) (de_dget2 (hu_of hr) (de_vr 0) (DP.e (dp_ix (dp_vw 7) dp_int (fun _ _ => (by rfl)))) (DO.fz (do_lst da_nil)) ⟨(by rfl), (by rfl), (by rfl), (by rfl)⟩))
  (dss_cons (ds_if (DW.t (dw_or (dt_not (dt_val (Cal.call C_is_tuple_of hr (by omega) (by rfl) (L2N.takes_of (by rfl) (by rfl) (by rfl) (by rfl)) (da_cons (de_vr 8) (da_cons de_int da_nil))))) (dw_or (dt_cmp (op_neO hr.units) ans_neO (nomark _) (DP.e (dp_ix (dp_vw 8) dp_int (fun _ _ => (by rfl)))) (DE.v (DP.e (dp_ix (dp_vw 7) dp_int (fun _ _ => (by rfl)))))) (dw_or1 (dt_not (dt_val (Cal.call C_step_holds hr (by omega) (by rfl) (L2N.takes_of (by rfl) (by rfl) (by rfl) (by rfl)) (da_cons (de_vr 9) (da_cons (de_vr 3) (da_cons (de_vr 8) da_nil))))))))))
    (dss_one (ds_ret de_bl))
    dss_nil)
  (dss_cons (ds_expr (de_mut (i := 6) PySem.F.slot_list_append PySem.F.type_list_append mt_append ansM_app (da_cons (DP.e (dp_ix (dp_vw 7) dp_int (fun _ _ => (by rfl)))) da_nil)))
  (dss_one (ds_set (i := 7) sc.nd (by rfl) (Or.inl (by rfl)) (Cal.call C_step_thing hr (by omega) (by rfl) (L2N.takes_of (by rfl) (by rfl) (by rfl) (by rfl)) (da_cons (de_vr 9) (da_cons (DP.e (dp_ix (dp_vw 8) dp_int (fun _ _ => (by rfl)))) da_nil))))))))))
  (dss_cons (ds_if (dt_val (de_isi (by rfl) T.n_isinstance (by rfl) T.n_tuple b_tuple (DPv.v (dp_vw 7))))
    (dss_one (ds_ret (de_and (de_cmp (op_inO hr.u65) (ans_inO false) (by rfl) (DP.e (dp_ix (dp_vw 7) dp_int (fun _ _ => (by rfl)))) (DPv.v (dp_vw 6))) (de_one (de_cmp op_isN ans_isN (nomark _) (de_vr 5) (DE.v de_non))))))
    dss_nil)
  (dss_one (ds_ret (de_cmp (op_eqO hr.units) ans_eqO (nomark _) (de_vr 5) (DPv.v (dp_vw 7))))))))))))
abbrev s__law_judged : Stmt := top 38
abbrev N__law_judged : List Str := ["_law_rows_here", "_law_thing_here", "_law_handed", "_law_kept", "_law_turn", "_law_told"]
theorem sc__law_judged : FnScope N__law_judged ["_law_rows_here", "_law_thing_here"] (defScope s__law_judged) := ⟨rfl, rfl, rfl, by decide +kernel, rfl, by decide +kernel, by decide +kernel⟩
noncomputable def f__law_judged_1 : DSx :=
  (seqD (setD (callD d_reason_holds (aCons (vr 2) (aCons (vr 1) aNil))) (gN 5))
  (ifD (orD (notD (lift1 (pIsi "bool") (pureE (pvw 5)))) (lift2 pNe (vr 5) (callD d__law_reason_good (aCons (vr 0) (aCons (vr 1) aNil)))))
    (retD (cst (.bl false)))
    nxD))
noncomputable def b__law_judged : DSx :=
  (seqD (setD (callD d__law_copy (aCons (vr 0) aNil)) (gN 2))
  (seqD (setD (lift1 pReprA (pureE (pvw 1))) (gN 3))
  (seqD (forE (rng1 (aCons (cst (.int 2)) aNil)) (gN 4)
    f__law_judged_1)
  (retD (andD (lift2 pEqDk (vr 2) (pureE (pvw 0))) (lift2 pEqS (lift1 pReprA (pureE (pvw 1))) (pureE (pvw 3))))))))
noncomputable def d__law_judged : Den := runD 6 b__law_judged
theorem bd__law_judged {P : Program} {wd : World} {K : PySem.W.Frag} {mg : Str → Option Value} {base : Heap} (T : Fx K mg) (C__law_reason_good : Cal P wd K mg base 3 "_law_reason_good" 2 d__law_reason_good) (C_reason_holds : Cal P wd K mg base 4 "reason_holds" 2 d_reason_holds) (C__law_copy : Cal P wd K mg base 1 "_law_copy" 1 d__law_copy) {f : Addr} {A : Around} {outer : List Env} {s : Shared} {H : Hp} {E : XK} {cdv : Value} (ag : A.guards = some []) (hr : Room 4 (A.deeper (PyProof.Rows.envOfC "_law_judged" (defScope s__law_judged) s.heap.objs.size f cdv))) : DSs (cxOf (L2N.CX P wd) P wd K mg base N__law_judged "_law_judged" (defScope s__law_judged) f cdv A outer s H E) (WEx E) (defBody s__law_judged) b__law_judged :=
  have sc := sc__law_judged
  (dss_cons (ds_set (i := 2) sc.nd (by rfl) (Or.inl (by rfl)) (Cal.call C__law_copy hr (by omega) (by rfl) (L2N.takes_of (by rfl) (by rfl) (by rfl) (by rfl)) (da_cons (de_vr 0) da_nil)))
  (dss_cons (ds_set (i := 3) sc.nd (by rfl) (Or.inl (by rfl)) (de_b1 (cr_reprA ag hr.u80) ansC_reprA (by rfl) T.n_repr b_repr (DPv.v (dp_vw 1))))
  (dss_cons (ds_for (passes_of (by rfl)) (by rfl) (di_range1 (by rfl) T.n_range (da_cons de_int da_nil)) (dg_name (i := 4) sc.nd (by rfl) (Or.inl (by rfl)))
    (dss_cons (ds_set (i := 5) sc.nd (by rfl) (Or.inl (by rfl)) (Cal.call C_reason_holds hr (by omega) (by rfl) (L2N.takes_of (by rfl) (by rfl) (by rfl) (by rfl)) (da_cons (de_vr 2) (da_cons (de_vr 1) da_nil))))
  (dss_one (ds_if (DW.t (dw_or (dt_not (dt_val (de_isi (by rfl) T.n_isinstance (by rfl) T.n_bool b_bool (DPv.v (dp_vw 5))))) (dw_or1 (dt_cmp (op_neD hr.units) ans_ne (nomark _) (de_vr 5) (DE.v (Cal.call C__law_reason_good hr (by omega) (by rfl) (L2N.takes_of (by rfl) (by rfl) (by rfl) (by rfl)) (da_cons (de_vr 0) (da_cons (de_vr 1) da_nil))))))))
    (dss_one (ds_ret de_bl))
    dss_nil))))
  (dss_one (ds_ret (de_and (de_cmp (op_eqDd hr.u80) ans_eqDk (nomark _) (de_vr 2) (DPv.v (dp_vw 0))) (de_one (de_cmp op_eq ans_eqS (nomark _) (de_b1 (cr_reprA ag hr.u80) ansC_reprA (by rfl) T.n_repr b_repr (DPv.v (dp_vw 1))) (DPv.v (dp_vw 3))))))))))
abbrev s__law_odd : Stmt := top 36
abbrev N__law_odd : List Str := ["_law_bag_here", "_law_thing_here", "_law_some_here"]
theorem sc__law_odd : FnScope N__law_odd ["_law_bag_here", "_law_thing_here"] (defScope s__law_odd) := ⟨rfl, rfl, rfl, by decide +kernel, rfl, by decide +kernel, by decide +kernel⟩
noncomputable def b__law_odd : DSx :=
  (seqD (setD (lstD (aCons (cst .non) (aCons (cst (.bl true)) (aCons (cst (.bl false)) (aCons (cst (.int 0)) (aCons (cst (.int 1)) (aCons (cst (.int 2)) (aCons (lift1 pNeg (cst (.int 1))) (aCons (lift2 pPowW (cst (.int 10)) (cst (.int 20))) (aCons (cst (.str "")) (aCons (cst (.str "a")) (aCons (cst (.str "reason")) (aCons (cst (.str "future")) (aCons (cst (.str "later")) (aCons (cst (.str "A")) (aCons (cst (.str "a b")) (aCons aNil (aCons (lstD aNil) aNil)))))))))))))))))) (gN 2))
  (seqD (setD (lift2 addK (vr 2) (lstD (aCons (aCons (vr 1) aNil) (aCons (lstD (aCons (vr 1) aNil)) (aCons (dispD (aCons (cst (.str "a")) (aCons (cst (.int 1)) aNil))) aNil))))) (gN 2))
  (seqD (ifD (lift1 (pIsi "tuple") (pureE (pvw 1)))
    (setD (lift2 addK (vr 2) (lstD (aCons (listD (pureE (pvw 1))) (aCons (listD (pureE (pvw 1))) (aCons (lift2 addKT (vr 1) (aCons (cst (.str "a")) aNil)) (aCons (lift1 pRvT (vr 1)) aNil)))))) (gN 2))
    nxD)
  (seqD (ifD (lift1 (pIsi "list") (pureE (pvw 1)))
    (setD (lift2 addK (vr 2) (lstD (aCons (tupleD (pureE (pvw 1))) (aCons (tupleD (pureE (pvw 1))) (aCons (lift2 addK (vr 1) (lstD (aCons (cst (.str "a")) aNil))) (aCons (rvsD (vr 1)) aNil)))))) (gN 2))
    nxD)
  (seqD (ifD (lift1 (pIsi "int") (pureE (pvw 1)))
    (setD (lift2 addK (vr 2) (lstD (aCons (lift2 addK (vr 1) (cst (.int 1))) (aCons (lift2 pSub (vr 1) (cst (.int 1))) (aCons (lift1 pStrI (pureE (pvw 1))) (aCons (cst .non) (aCons (lift2 pEq (vr 1) (cst (.int 1))) aNil))))))) (gN 2))
    nxD)
  (seqD (ifD (lift1 (pIsi "str") (pureE (pvw 1)))
    (setD (lift2 addK (vr 2) (lstD (aCons (lift2 addK (vr 1) (cst (.str "a"))) (aCons (slX kSl (vr 1) bdN (bdS (lift1 pNeg (cst (.int 1))))) (aCons (lift1 pUp (vr 1)) (aCons (lift1 pRvS (vr 1)) aNil)))))) (gN 2))
    nxD)
  (retD (lift2 pIx (vr 2) (callD d__law_take (aCons (vr 0) (aCons (lift1 pLen (pureE (pvw 2))) aNil)))))))))))
noncomputable def d__law_odd : Den := runD 3 b__law_odd
theorem bd__law_odd {P : Program} {wd : World} {K : PySem.W.Frag} {mg : Str → Option Value} {base : Heap} (T : Fx K mg) (C__law_take : Cal P wd K mg base 1 "_law_take" 2 d__law_take) {f : Addr} {A : Around} {outer : List Env} {s : Shared} {H : Hp} {E : XK} {cdv : Value} (hr : Room 1 (A.deeper (PyProof.Rows.envOfC "_law_odd" (defScope s__law_odd) s.heap.objs.size f cdv))) : DSs (cxOf (L2N.CX P wd) P wd K mg base N__law_odd "_law_odd" (defScope s__law_odd) f cdv A outer s H E) (WEx E) (defBody s__law_odd) b__law_odd :=
  have sc := sc__law_odd
  (dss_cons (ds_set (i := 2) sc.nd (by rfl) (Or.inl (by rfl)) (DO.fz (do_lst (da_cons de_non (da_cons de_bl (da_cons de_bl (da_cons de_int (da_cons de_int (da_cons de_int (da_cons (de_neg de_int) (da_cons (de_powW de_int de_int) (da_cons de_str (da_cons de_str (da_cons de_str (da_cons de_str (da_cons de_str (da_cons de_str (da_cons de_str (da_cons (de_tup da_nil) (da_cons (DO.fz (do_lst da_nil)) da_nil))))))))))))))))))))
  (dss_cons (ds_set (i := 2) sc.nd (by rfl) (Or.inl (by rfl)) (de_addX (de_vr 2) (DO.fz (do_lst (da_cons (de_tup (da_cons (de_vr 1) da_nil)) (da_cons (DO.fz (do_lst (da_cons (de_vr 1) da_nil))) (da_cons (de_dict (dpr_cons de_str de_int dpr_nil)) da_nil)))))))
  (dss_cons (ds_if (dt_val (de_isi (by rfl) T.n_isinstance (by rfl) T.n_tuple b_tuple (DPv.v (dp_vw 1))))
    (dss_one (ds_set (i := 2) sc.nd (by rfl) (Or.inl (by rfl)) (de_addX (de_vr 2) (DO.fz (do_lst (da_cons (DO.fz (do_list (by rfl) T.n_list (DPv.v (dp_vw 1)))) (da_cons (DO.fz (do_list (by rfl) T.n_list (DPv.v (dp_vw 1)))) (da_cons (de_addT (de_vr 1) (de_tup (da_cons de_str da_nil))) (da_cons (de_rvT (de_vr 1)) da_nil)))))))))
    dss_nil)
  (dss_cons (ds_if (dt_val (de_isi (by rfl) T.n_isinstance (by rfl) T.n_list b_list (DPv.v (dp_vw 1))))
    (dss_one (ds_set (i := 2) sc.nd (by rfl) (Or.inl (by rfl)) (de_addX (de_vr 2) (DO.fz (do_lst (da_cons (de_tuple (by rfl) T.n_tuple (DPv.v (dp_vw 1))) (da_cons (de_tuple (by rfl) T.n_tuple (DPv.v (dp_vw 1))) (da_cons (de_addX (de_vr 1) (DO.fz (do_lst (da_cons de_str da_nil)))) (da_cons (DO.fz (do_rvs (de_vr 1))) da_nil)))))))))
    dss_nil)
  (dss_cons (ds_if (dt_val (de_isi (by rfl) T.n_isinstance (by rfl) T.n_int b_int (DPv.v (dp_vw 1))))
    (dss_one (ds_set (i := 2) sc.nd (by rfl) (Or.inl (by rfl)) (de_addX (de_vr 2) (DO.fz (do_lst (da_cons (de_addX (de_vr 1) de_int) (da_cons (de_sub (de_vr 1) de_int) (da_cons (de_t1 call_str_int ansC_strI (by rfl) T.n_str b_str (DPv.v (dp_vw 1))) (da_cons de_non (da_cons (de_cmp (op_eqD hr.units) ans_eq (nomark _) (de_vr 1) (DE.v de_int)) da_nil))))))))))
    dss_nil)
  (dss_cons (ds_if (dt_val (de_isi (by rfl) T.n_isinstance (by rfl) T.n_str b_str (DPv.v (dp_vw 1))))
    (dss_one (ds_set (i := 2) sc.nd (by rfl) (Or.inl (by rfl)) (de_addX (de_vr 2) (DO.fz (do_lst (da_cons (de_addX (de_vr 1) de_str) (da_cons (de_slice (de_vr 1) db_none (db_some (de_neg de_int))) (da_cons (de_upper (de_vr 1)) (da_cons (de_rvS (de_vr 1)) da_nil)))))))))
    dss_nil)
  (dss_one (ds_ret (de_ix (de_vr 2) (Cal.call C__law_take hr (by omega) (by rfl) (L2N.takes_of (by rfl) (by rfl) (by rfl) (by rfl)) (da_cons (de_vr 0) (da_cons (de_b1 call_len ansC_len (by rfl) T.n_len b_len (DPv.v (dp_vw 2))) da_nil))) (fun _ _ => (by rfl)))))))))))
abbrev s__law_bent : Stmt := top 37
abbrev N__law_bent : List Str := ["_law_bag_here", "_law_thing_here", "_law_parts", "_law_at", "_law_way"]
theorem sc__law_bent : FnScope N__law_bent ["_law_bag_here", "_law_thing_here"] (defScope s__law_bent) := ⟨rfl, rfl, rfl, by decide +kernel, rfl, by decide +kernel, by decide +kernel⟩
noncomputable def b__law_bent (dn : Den) : DSx :=
  (seqD (ifD (orD (notD (lift1 (pIsiT ["list", "tuple"]) (pureE (pvw 1)))) (orD (lift2 pEq (lift1 pLen (pureE (pvw 1))) (cst (.int 0))) (lift2 pEq (callD d__law_take (aCons (vr 0) (aCons (cst (.int 5)) aNil))) (cst (.int 0)))))
    (retD (callD d__law_odd (aCons (vr 0) (aCons (vr 1) aNil))))
    nxD)
  (seqD (setOD (listD (pureE (pvw 1))) 2)
  (seqD (setD (callD d__law_take (aCons (vr 0) (aCons (lift1 pLen (pureE (pvw 2))) aNil))) (gN 3))
  (seqD (setD (callD d__law_take (aCons (vr 0) (aCons (cst (.int 9)) aNil))) (gN 4))
  (seqD (ifD (lift2 pEq (vr 4) (cst (.int 0)))
    (exprD (mutD 2 kPopAt (aCons (vr 3) aNil)))
    (ifD (lift2 pEq (vr 4) (cst (.int 1)))
    (exprD (mutD 2 kIns (aCons (vr 3) (aCons (ixOD 2 (callD d__law_take (aCons (vr 0) (aCons (lift1 pLen (pureE (pvw 2))) aNil)))) aNil))))
    (ifD (lift2 pEq (vr 4) (cst (.int 2)))
    (exprD (mutD 2 kApp (aCons (mutD 2 kPopAt (aCons (vr 3) aNil)) aNil)))
    (subSetD 2 (pvr 3) (callD dn (aCons (vr 0) (aCons (pureE (plift2 pIx (pvw 2) (pvr 3))) aNil)))))))
  (seqD (ifD (lift1 (pIsi "tuple") (pureE (pvw 1)))
    (retD (tupleD (pureE (pvw 2))))
    nxD)
  (retD (frzE 2))))))))
noncomputable def d__law_bent : Nat → Den
  | 0 => fun _ _ => .bad
  | n + 1 => runD 5 (b__law_bent (d__law_bent n))
theorem bd__law_bent {P : Program} {wd : World} {K : PySem.W.Frag} {mg : Str → Option Value} {base : Heap} (T : Fx K mg) (C__law_take : Cal P wd K mg base 1 "_law_take" 2 d__law_take) (C__law_odd : Cal P wd K mg base 2 "_law_odd" 2 d__law_odd) {n : Nat} (C__law_bent : Cal P wd K mg base (2 + n) "_law_bent" 2 (d__law_bent n)) {f : Addr} {A : Around} {outer : List Env} {s : Shared} {H : Hp} {E : XK} {cdv : Value} (hr : Room (2 + n) (A.deeper (PyProof.Rows.envOfC "_law_bent" (defScope s__law_bent) s.heap.objs.size f cdv))) : DSs (cxOf (L2N.CX P wd) P wd K mg base N__law_bent "_law_bent" (defScope s__law_bent) f cdv A outer s H E) (WEx E) (defBody s__law_bent) (b__law_bent (d__law_bent n)) :=
  have sc := sc__law_bent
  (dss_cons (ds_if (DW.t (dw_or (dt_not (dt_val (de_isiTV (by rfl) T.n_isinstance (tys_cons (by rfl) T.n_list b_list (tys_cons (by rfl) T.n_tuple b_tuple tys_nil)) (DPv.v (dp_vw 1))))) (dw_or (dt_cmp (op_eqD hr.units) ans_eq (nomark _) (de_b1 call_len ansC_len (by rfl) T.n_len b_len (DPv.v (dp_vw 1))) (DE.v de_int)) (dw_or1 (dt_cmp (op_eqD hr.units) ans_eq (nomark _) (Cal.call C__law_take hr (by omega) (by rfl) (L2N.takes_of (by rfl) (by rfl) (by rfl) (by rfl)) (da_cons (de_vr 0) (da_cons de_int da_nil))) (DE.v de_int))))))
    (dss_one (ds_ret (Cal.call C__law_odd hr (by omega) (by rfl) (L2N.takes_of (by rfl) (by rfl) (by rfl) (by rfl)) (da_cons (de_vr 0) (da_cons (de_vr 1) da_nil)))))
    dss_nil)
  (dss_cons (ds_setO (i := 2) sc.nd (by rfl) (Or.inl (by rfl)) (do_list (by rfl) T.n_list (DPv.v (dp_vw 1))))
  (dss_cons (ds_set (i := 3) sc.nd (by rfl) (Or.inl (by rfl)) (Cal.call C__law_take hr (by omega) (by rfl) (L2N.takes_of (by rfl) (by rfl) (by rfl) (by rfl)) (da_cons (de_vr 0) (da_cons (de_b1 call_len ansC_len (by rfl) T.n_len b_len (DPv.v (dp_vw 2))) da_nil))))
  (dss_cons (ds_set (i := 4) sc.nd (by rfl) (Or.inl (by rfl)) (Cal.call C__law_take hr (by omega) (by rfl) (L2N.takes_of (by rfl) (by rfl) (by rfl) (by rfl)) (da_cons (de_vr 0) (da_cons de_int da_nil))))
  (dss_cons (ds_if (dt_cmp (op_eqD hr.units) ans_eq (nomark _) (de_vr 4) (DE.v de_int))
    (dss_one (ds_expr (de_mut (i := 2) PySem.F.slot_list_pop PySem.F.type_list_pop mt_popAt ansM_popAt (da_cons (de_vr 3) da_nil))))
    (dss_one (ds_if (dt_cmp (op_eqD hr.units) ans_eq (nomark _) (de_vr 4) (DE.v de_int))
    (dss_one (ds_expr (de_mut (i := 2) PySem.F.slot_list_insert PySem.F.type_list_insert mt_insert ansM_ins (da_cons (de_vr 3) (da_cons (de_ixO (i := 2) (Cal.call C__law_take hr (by omega) (by rfl) (L2N.takes_of (by rfl) (by rfl) (by rfl) (by rfl)) (da_cons (de_vr 0) (da_cons (de_b1 call_len ansC_len (by rfl) T.n_len b_len (DPv.v (dp_vw 2))) da_nil))) (fun _ _ => (by rfl))) da_nil)))))
    (dss_one (ds_if (dt_cmp (op_eqD hr.units) ans_eq (nomark _) (de_vr 4) (DE.v de_int))
    (dss_one (ds_expr (de_mut (i := 2) PySem.F.slot_list_append PySem.F.type_list_append mt_append ansM_app (da_cons (de_mut (i := 2) PySem.F.slot_list_pop PySem.F.type_list_pop mt_popAt ansM_popAt (da_cons (de_vr 3) da_nil)) da_nil))))
    (dss_one (ds_sub (i := 2) (Cal.call C__law_bent hr (by omega) (by rfl) (L2N.takes_of (by rfl) (by rfl) (by rfl) (by rfl)) (da_cons (de_vr 0) (da_cons (DP.e (dp_ix (dp_vw 2) (dp_vr 3) (fun _ _ => (by rfl)))) da_nil))) (dp_vr 3))))))))
  (dss_cons (ds_if (dt_val (de_isi (by rfl) T.n_isinstance (by rfl) T.n_tuple b_tuple (DPv.v (dp_vw 1))))
    (dss_one (ds_ret (de_tuple (by rfl) T.n_tuple (DPv.v (dp_vw 2)))))
    dss_nil)
  (dss_one (ds_ret (de_frz 2)))))))))
abbrev s_law : Stmt := top 39
abbrev N_law : List Str := ["_law_script", "_law_k", "_law_bag_here", "_law_folk", "_law_words", "_law_rows_here", "_law_group", "_law_word", "_law_right", "_law_turn"]
theorem sc_law : FnScope N_law ["_law_script"] (defScope s_law) := ⟨rfl, rfl, rfl, by decide +kernel, rfl, by decide +kernel, by decide +kernel⟩
noncomputable def f_law_1 : DSx :=
  (ifD (notD (callD d__law_judged (aCons (vr 5) (aCons (callD (d__law_bent 8) (aCons (vr 2) (aCons (vr 8) aNil))) aNil))))
    (retD (cst (.bl false)))
    nxD)
noncomputable def f_law_2 : DSx :=
  (seqD (ifD (orD (notD (callD d__law_reason_good (aCons (vr 5) (aCons (vr 8) aNil)))) (notD (callD d__law_judged (aCons (vr 5) (aCons (vr 8) aNil)))))
    (retD (cst (.bl false)))
    nxD)
  (forE (rng1 (aCons (cst (.int 3)) aNil)) (gN 9)
    f_law_1))
noncomputable def f_law_3 : DSx :=
  (seqD (setD (callD d__law_bag (aCons (vr 0) (aCons (vr 1) aNil))) (gN 2))
  (seqD (setD (callD d__law_ground (aCons (vr 2) aNil)) (gT (gsCons (gN 3) (gsCons (gN 4) (gsCons (gN 5) gsNil)))))
  (seqD (setD (callD d__law_some (aCons (vr 2) (aCons (vr 3) aNil))) (gN 6))
  (seqD (setD (lift2 pIx (vr 4) (callD d__law_take (aCons (vr 2) (aCons (lift1 pLen (pureE (pvw 4))) aNil)))) (gN 7))
  (forE (itD (aCons (callD d_reason (aCons (vr 5) (aCons (vr 7) (aCons (listD (pureE (pvw 6))) aNil)))) (aCons (callD d__law_other_reason (aCons (vr 2) (aCons (vr 5) (aCons (vr 7) (aCons (vr 6) aNil))))) aNil))) (gN 8)
    f_law_2)))))
noncomputable def b_law : DSx :=
  (seqD (forE (rng1 (aCons (lift2 pMax (cst (.int 1)) (lift2 pMin (lift1 pLen (pureE (pvw 0))) (cst (.int 6)))) aNil)) (gN 1)
    f_law_3)
  (retD (cst (.bl true))))
noncomputable def d_law : Den := runD 10 b_law
theorem bd_law {P : Program} {wd : World} {K : PySem.W.Frag} {mg : Str → Option Value} {base : Heap} (T : Fx K mg) (C__law_other_reason : Cal P wd K mg base 3 "_law_other_reason" 4 d__law_other_reason) (C_reason : Cal P wd K mg base 4 "reason" 3 d_reason) (C__law_bent : Cal P wd K mg base 10 "_law_bent" 2 (d__law_bent 8)) (C__law_judged : CalG P wd K mg base 5 "_law_judged" 2 d__law_judged) (C__law_reason_good : Cal P wd K mg base 3 "_law_reason_good" 2 d__law_reason_good) (C__law_take : Cal P wd K mg base 1 "_law_take" 2 d__law_take) (C__law_some : Cal P wd K mg base 2 "_law_some" 2 d__law_some) (C__law_ground : Cal P wd K mg base 4 "_law_ground" 1 d__law_ground) (C__law_bag : Cal P wd K mg base 1 "_law_bag" 2 d__law_bag) {f : Addr} {A : Around} {outer : List Env} {s : Shared} {H : Hp} {E : XK} {cdv : Value} (ag : A.guards = some []) (hr : Room 10 (A.deeper (PyProof.Rows.envOfC "law" (defScope s_law) s.heap.objs.size f cdv))) : DSs (cxOf (L2N.CX P wd) P wd K mg base N_law "law" (defScope s_law) f cdv A outer s H E) (WEx E) (defBody s_law) b_law :=
  have sc := sc_law
  (dss_cons (ds_for (passes_of (by rfl)) (by rfl) (di_range1 (by rfl) T.n_range (da_cons (de_b2 (call_max2 (by rfl)) ansC_max (by rfl) T.n_max b_max de_int (DE.v (de_b2 (call_min2 (by rfl)) ansC_min (by rfl) T.n_min b_min (de_b1 call_len ansC_len (by rfl) T.n_len b_len (DPv.v (dp_vw 0))) (DE.v de_int)))) da_nil)) (dg_name (i := 1) sc.nd (by rfl) (Or.inl (by rfl)))
    (dss_cons (ds_set (i := 2) sc.nd (by rfl) (Or.inl (by rfl)) (Cal.call C__law_bag hr (by omega) (by rfl) (L2N.takes_of (by rfl) (by rfl) (by rfl) (by rfl)) (da_cons (de_vr 0) (da_cons (de_vr 1) da_nil))))
  (dss_cons (ds_asg (Cal.call C__law_ground hr (by omega) (by rfl) (L2N.takes_of (by rfl) (by rfl) (by rfl) (by rfl)) (da_cons (de_vr 2) da_nil)) (dg_tup (by rfl) (dgs_cons (dg_name (i := 3) sc.nd (by rfl) (Or.inl (by rfl))) (dgs_cons (dg_name (i := 4) sc.nd (by rfl) (Or.inl (by rfl))) (dgs_cons (dg_name (i := 5) sc.nd (by rfl) (Or.inl (by rfl))) dgs_nil)))))
  (dss_cons (ds_set (i := 6) sc.nd (by rfl) (Or.inl (by rfl)) (Cal.call C__law_some hr (by omega) (by rfl) (L2N.takes_of (by rfl) (by rfl) (by rfl) (by rfl)) (da_cons (de_vr 2) (da_cons (de_vr 3) da_nil))))
  (dss_cons (ds_set (i := 7) sc.nd (by rfl) (Or.inl (by rfl)) (de_ix (de_vr 4) (Cal.call C__law_take hr (by omega) (by rfl) (L2N.takes_of (by rfl) (by rfl) (by rfl) (by rfl)) (da_cons (de_vr 2) (da_cons (de_b1 call_len ansC_len (by rfl) T.n_len b_len (DPv.v (dp_vw 4))) da_nil))) (fun _ _ => (by rfl))))
  (dss_one (ds_for (passes_of (by rfl)) (by rfl) (di_seq (de_tup (da_cons (Cal.call C_reason hr (by omega) (by rfl) (L2N.takes_of (by rfl) (by rfl) (by rfl) (by rfl)) (da_cons (de_vr 5) (da_cons (de_vr 7) (da_cons (DO.fz (do_list (by rfl) T.n_list (DPv.v (dp_vw 6)))) da_nil)))) (da_cons (Cal.call C__law_other_reason hr (by omega) (by rfl) (L2N.takes_of (by rfl) (by rfl) (by rfl) (by rfl)) (da_cons (de_vr 2) (da_cons (de_vr 5) (da_cons (de_vr 7) (da_cons (de_vr 6) da_nil))))) da_nil)))) (dg_name (i := 8) sc.nd (by rfl) (Or.inl (by rfl)))
    (dss_cons (ds_if (DW.t (dw_or (dt_not (dt_val (Cal.call C__law_reason_good hr (by omega) (by rfl) (L2N.takes_of (by rfl) (by rfl) (by rfl) (by rfl)) (da_cons (de_vr 5) (da_cons (de_vr 8) da_nil))))) (dw_or1 (dt_not (dt_val (CalG.call C__law_judged ag hr (by omega) (by rfl) (L2N.takes_of (by rfl) (by rfl) (by rfl) (by rfl)) (da_cons (de_vr 5) (da_cons (de_vr 8) da_nil))))))))
    (dss_one (ds_ret de_bl))
    dss_nil)
  (dss_one (ds_for (passes_of (by rfl)) (by rfl) (di_range1 (by rfl) T.n_range (da_cons de_int da_nil)) (dg_name (i := 9) sc.nd (by rfl) (Or.inl (by rfl)))
    (dss_one (ds_if (dt_not (dt_val (CalG.call C__law_judged ag hr (by omega) (by rfl) (L2N.takes_of (by rfl) (by rfl) (by rfl) (by rfl)) (da_cons (de_vr 5) (da_cons (Cal.call C__law_bent hr (by omega) (by rfl) (L2N.takes_of (by rfl) (by rfl) (by rfl) (by rfl)) (da_cons (de_vr 2) (da_cons (de_vr 8) da_nil))) da_nil)))))
    (dss_one (ds_ret de_bl))
    dss_nil))))))))))))
  (dss_one (ds_ret de_bl)))
theorem ok__law_bag {P : Program} {wd : World} {K : PySem.W.Frag} {mg : Str → Option Value} {base : Heap} (T : Fx K mg) (Df : Dfn K mg "_law_bag" ["_law_script", "_law_at"] s__law_bag)  : Cal P wd K mg base 1 "_law_bag" 2 d__law_bag :=
  Cal.of (k := 0) Df sc__law_bag rfl rfl fun f cdv A outer s H E hr => bd__law_bag T  hr
theorem ok__law_take {P : Program} {wd : World} {K : PySem.W.Frag} {mg : Str → Option Value} {base : Heap} (T : Fx K mg) (Df : Dfn K mg "_law_take" ["_law_bag_here", "_law_many"] s__law_take)  : Cal P wd K mg base 1 "_law_take" 2 d__law_take :=
  Cal.of (k := 0) Df sc__law_take rfl rfl fun f cdv A outer s H E hr => bd__law_take T  hr
theorem ok__law_names {P : Program} {wd : World} {K : PySem.W.Frag} {mg : Str → Option Value} {base : Heap} (T : Fx K mg) (Df : Dfn K mg "_law_names" ["_law_bag_here", "_law_many"] s__law_names) (C__law_take : Cal P wd K mg base 1 "_law_take" 2 d__law_take) : Cal P wd K mg base 2 "_law_names" 2 d__law_names :=
  Cal.of (k := 1) Df sc__law_names rfl rfl fun f cdv A outer s H E hr => bd__law_names T C__law_take hr
theorem ok__law_thing {P : Program} {wd : World} {K : PySem.W.Frag} {mg : Str → Option Value} {base : Heap} (T : Fx K mg) (Df : Dfn K mg "_law_thing" ["_law_bag_here", "_law_words", "_law_things"] s__law_thing) (C__law_take : Cal P wd K mg base 1 "_law_take" 2 d__law_take) : Cal P wd K mg base 2 "_law_thing" 3 d__law_thing :=
  Cal.of (k := 1) Df sc__law_thing rfl rfl fun f cdv A outer s H E hr => bd__law_thing T C__law_take hr
theorem ok__law_hearers {P : Program} {wd : World} {K : PySem.W.Frag} {mg : Str → Option Value} {base : Heap} (T : Fx K mg) (Df : Dfn K mg "_law_hearers" ["_law_bag_here", "_law_members"] s__law_hearers) (C__law_take : Cal P wd K mg base 1 "_law_take" 2 d__law_take) : Cal P wd K mg base 2 "_law_hearers" 2 d__law_hearers :=
  Cal.of (k := 1) Df sc__law_hearers rfl rfl fun f cdv A outer s H E hr => bd__law_hearers T C__law_take hr
theorem ok__law_rows {P : Program} {wd : World} {K : PySem.W.Frag} {mg : Str → Option Value} {base : Heap} (T : Fx K mg) (Df : Dfn K mg "_law_rows" ["_law_bag_here", "_law_words", "_law_things", "_law_members", "_law_most"] s__law_rows) (C__law_take : Cal P wd K mg base 1 "_law_take" 2 d__law_take) (C__law_hearers : Cal P wd K mg base 2 "_law_hearers" 2 d__law_hearers) (C__law_thing : Cal P wd K mg base 2 "_law_thing" 3 d__law_thing) : Cal P wd K mg base 3 "_law_rows" 5 d__law_rows :=
  Cal.of (k := 2) Df sc__law_rows rfl rfl fun f cdv A outer s H E hr => bd__law_rows T C__law_take C__law_hearers C__law_thing hr
theorem ok__law_ground {P : Program} {wd : World} {K : PySem.W.Frag} {mg : Str → Option Value} {base : Heap} (T : Fx K mg) (Df : Dfn K mg "_law_ground" ["_law_bag_here"] s__law_ground) (C__law_rows : Cal P wd K mg base 3 "_law_rows" 5 d__law_rows) (C__law_take : Cal P wd K mg base 1 "_law_take" 2 d__law_take) (C__law_names : Cal P wd K mg base 2 "_law_names" 2 d__law_names) : Cal P wd K mg base 4 "_law_ground" 1 d__law_ground :=
  Cal.of (k := 3) Df sc__law_ground rfl rfl fun f cdv A outer s H E hr => bd__law_ground T C__law_rows C__law_take C__law_names hr
theorem ok__law_some {P : Program} {wd : World} {K : PySem.W.Frag} {mg : Str → Option Value} {base : Heap} (T : Fx K mg) (Df : Dfn K mg "_law_some" ["_law_bag_here", "_law_things"] s__law_some) (C__law_take : Cal P wd K mg base 1 "_law_take" 2 d__law_take) : Cal P wd K mg base 2 "_law_some" 2 d__law_some :=
  Cal.of (k := 1) Df sc__law_some rfl rfl fun f cdv A outer s H E hr => bd__law_some T C__law_take hr
theorem ok_last_heard {P : Program} {wd : World} {K : PySem.W.Frag} {mg : Str → Option Value} {base : Heap} (T : Fx K mg) (Df : Dfn K mg "last_heard" ["rows", "people"] s_last_heard)  : Cal P wd K mg base 1 "last_heard" 2 d_last_heard :=
  Cal.of (k := 0) Df sc_last_heard rfl rfl fun f cdv A outer s H E hr => bd_last_heard T  hr
theorem ok_absent_person {P : Program} {wd : World} {K : PySem.W.Frag} {mg : Str → Option Value} {base : Heap} (T : Fx K mg) (Df : Dfn K mg "absent_person" ["hearers", "people"] s_absent_person)  : Cal P wd K mg base 1 "absent_person" 2 d_absent_person :=
  Cal.of (k := 0) Df sc_absent_person rfl rfl fun f cdv A outer s H E hr => bd_absent_person T  hr
theorem ok_step_thing {P : Program} {wd : World} {K : PySem.W.Frag} {mg : Str → Option Value} {base : Heap} (T : Fx K mg) (Df : Dfn K mg "step_thing" ["rows", "at"] s_step_thing)  : Cal P wd K mg base 1 "step_thing" 2 d_step_thing :=
  Cal.of (k := 0) Df sc_step_thing rfl rfl fun f cdv A outer s H E hr => bd_step_thing T  hr
theorem ok_rows_to_miss {P : Program} {wd : World} {K : PySem.W.Frag} {mg : Str → Option Value} {base : Heap} (T : Fx K mg) (Df : Dfn K mg "rows_to_miss" ["rows", "at"] s_rows_to_miss) (C_step_thing : Cal P wd K mg base 1 "step_thing" 2 d_step_thing) : Cal P wd K mg base 2 "rows_to_miss" 2 d_rows_to_miss :=
  Cal.of (k := 1) Df sc_rows_to_miss rfl rfl fun f cdv A outer s H E hr => bd_rows_to_miss T C_step_thing hr
theorem ok_step_for {P : Program} {wd : World} {K : PySem.W.Frag} {mg : Str → Option Value} {base : Heap} (T : Fx K mg) (Df : Dfn K mg "step_for" ["rows", "word", "people"] s_step_for) (C_rows_to_miss : Cal P wd K mg base 2 "rows_to_miss" 2 d_rows_to_miss) (C_absent_person : Cal P wd K mg base 1 "absent_person" 2 d_absent_person) (C_last_heard : Cal P wd K mg base 1 "last_heard" 2 d_last_heard) : Cal P wd K mg base 3 "step_for" 3 d_step_for :=
  Cal.of (k := 2) Df sc_step_for rfl rfl fun f cdv A outer s H E hr => bd_step_for T C_rows_to_miss C_absent_person C_last_heard hr
theorem ok_reason {P : Program} {wd : World} {K : PySem.W.Frag} {mg : Str → Option Value} {base : Heap} (T : Fx K mg) (Df : Dfn K mg "reason" ["rows", "word", "group"] s_reason) (C_step_thing : Cal P wd K mg base 1 "step_thing" 2 d_step_thing) (C_step_for : Cal P wd K mg base 3 "step_for" 3 d_step_for) : Cal P wd K mg base 4 "reason" 3 d_reason :=
  Cal.of (k := 3) Df sc_reason rfl rfl fun f cdv A outer s H E hr => bd_reason T C_step_thing C_step_for hr
theorem ok__law_other_step {P : Program} {wd : World} {K : PySem.W.Frag} {mg : Str → Option Value} {base : Heap} (T : Fx K mg) (Df : Dfn K mg "_law_other_step" ["_law_bag_here", "_law_own", "_law_word", "_law_group"] s__law_other_step) (C__law_take : Cal P wd K mg base 1 "_law_take" 2 d__law_take) : Cal P wd K mg base 2 "_law_other_step" 4 d__law_other_step :=
  Cal.of (k := 1) Df sc__law_other_step rfl rfl fun f cdv A outer s H E hr => bd__law_other_step T C__law_take hr
theorem ok__law_other_reason {P : Program} {wd : World} {K : PySem.W.Frag} {mg : Str → Option Value} {base : Heap} (T : Fx K mg) (Df : Dfn K mg "_law_other_reason" ["_law_bag_here", "_law_rows_here", "_law_word", "_law_group"] s__law_other_reason) (C__law_other_step : Cal P wd K mg base 2 "_law_other_step" 4 d__law_other_step) : Cal P wd K mg base 3 "_law_other_reason" 4 d__law_other_reason :=
  Cal.of (k := 2) Df sc__law_other_reason rfl rfl fun f cdv A outer s H E hr => bd__law_other_reason T C__law_other_step hr
theorem ok__law_is_name {P : Program} {wd : World} {K : PySem.W.Frag} {mg : Str → Option Value} {base : Heap} (T : Fx K mg) (Df : Dfn K mg "_law_is_name" ["_law_thing_here"] s__law_is_name)  : Cal P wd K mg base 1 "_law_is_name" 1 d__law_is_name :=
  Cal.of (k := 0) Df sc__law_is_name rfl rfl fun f cdv A outer s H E hr => bd__law_is_name T  hr
theorem ok__law_are_names {P : Program} {wd : World} {K : PySem.W.Frag} {mg : Str → Option Value} {base : Heap} (T : Fx K mg) (Df : Dfn K mg "_law_are_names" ["_law_thing_here"] s__law_are_names) (C__law_is_name : Cal P wd K mg base 1 "_law_is_name" 1 d__law_is_name) : Cal P wd K mg base 2 "_law_are_names" 1 d__law_are_names :=
  Cal.of (k := 1) Df sc__law_are_names rfl rfl fun f cdv A outer s H E hr => bd__law_are_names T C__law_is_name hr
theorem ok__law_absent_good {P : Program} {wd : World} {K : PySem.W.Frag} {mg : Str → Option Value} {base : Heap} (T : Fx K mg) (Df : Dfn K mg "_law_absent_good" ["_law_rows_here", "_law_group", "_law_first", "_law_thing_here", "_law_absent"] s__law_absent_good)  : Cal P wd K mg base 1 "_law_absent_good" 5 d__law_absent_good :=
  Cal.of (k := 0) Df sc__law_absent_good rfl rfl fun f cdv A outer s H E hr => bd__law_absent_good T  hr
theorem ok__law_step_good {P : Program} {wd : World} {K : PySem.W.Frag} {mg : Str → Option Value} {base : Heap} (T : Fx K mg) (Df : Dfn K mg "_law_step_good" ["_law_rows_here", "_law_group", "_law_word", "_law_step"] s__law_step_good) (C__law_absent_good : Cal P wd K mg base 1 "_law_absent_good" 5 d__law_absent_good) : Cal P wd K mg base 2 "_law_step_good" 4 d__law_step_good :=
  Cal.of (k := 1) Df sc__law_step_good rfl rfl fun f cdv A outer s H E hr => bd__law_step_good T C__law_absent_good hr
theorem ok__law_reason_good {P : Program} {wd : World} {K : PySem.W.Frag} {mg : Str → Option Value} {base : Heap} (T : Fx K mg) (Df : Dfn K mg "_law_reason_good" ["_law_rows_here", "_law_thing_here"] s__law_reason_good) (C__law_step_good : Cal P wd K mg base 2 "_law_step_good" 4 d__law_step_good) (C__law_are_names : Cal P wd K mg base 2 "_law_are_names" 1 d__law_are_names) (C__law_is_name : Cal P wd K mg base 1 "_law_is_name" 1 d__law_is_name) : Cal P wd K mg base 3 "_law_reason_good" 2 d__law_reason_good :=
  Cal.of (k := 2) Df sc__law_reason_good rfl rfl fun f cdv A outer s H E hr => bd__law_reason_good T C__law_step_good C__law_are_names C__law_is_name hr
theorem ok__law_copy {P : Program} {wd : World} {K : PySem.W.Frag} {mg : Str → Option Value} {base : Heap} (T : Fx K mg) (Df : Dfn K mg "_law_copy" ["_law_rows_here"] s__law_copy)  : Cal P wd K mg base 1 "_law_copy" 1 d__law_copy :=
  Cal.of (k := 0) Df sc__law_copy rfl rfl fun f cdv A outer s H E hr => bd__law_copy T  hr
theorem ok_is_tuple_of {P : Program} {wd : World} {K : PySem.W.Frag} {mg : Str → Option Value} {base : Heap} (T : Fx K mg) (Df : Dfn K mg "is_tuple_of" ["thing", "many"] s_is_tuple_of)  : Cal P wd K mg base 1 "is_tuple_of" 2 d_is_tuple_of :=
  Cal.of (k := 0) Df sc_is_tuple_of rfl rfl fun f cdv A outer s H E hr => bd_is_tuple_of T  hr
theorem ok_is_name {P : Program} {wd : World} {K : PySem.W.Frag} {mg : Str → Option Value} {base : Heap} (T : Fx K mg) (Df : Dfn K mg "is_name" ["thing"] s_is_name)  : Cal P wd K mg base 1 "is_name" 1 d_is_name :=
  Cal.of (k := 0) Df sc_is_name rfl rfl fun f cdv A outer s H E hr => bd_is_name T  hr
theorem ok_are_names {P : Program} {wd : World} {K : PySem.W.Frag} {mg : Str → Option Value} {base : Heap} (T : Fx K mg) (Df : Dfn K mg "are_names" ["thing"] s_are_names) (C_is_name : Cal P wd K mg base 1 "is_name" 1 d_is_name) : Cal P wd K mg base 2 "are_names" 1 d_are_names :=
  Cal.of (k := 1) Df sc_are_names rfl rfl fun f cdv A outer s H E hr => bd_are_names T C_is_name hr
theorem ok_is_index {P : Program} {wd : World} {K : PySem.W.Frag} {mg : Str → Option Value} {base : Heap} (T : Fx K mg) (Df : Dfn K mg "is_index" ["thing", "many"] s_is_index)  : Cal P wd K mg base 1 "is_index" 2 d_is_index :=
  Cal.of (k := 0) Df sc_is_index rfl rfl fun f cdv A outer s H E hr => bd_is_index T  hr
theorem ok_absent_hold {P : Program} {wd : World} {K : PySem.W.Frag} {mg : Str → Option Value} {base : Heap} (T : Fx K mg) (Df : Dfn K mg "absent_hold" ["rows", "group", "absent"] s_absent_hold) (C_is_index : Cal P wd K mg base 1 "is_index" 2 d_is_index) : Cal P wd K mg base 2 "absent_hold" 3 d_absent_hold :=
  Cal.of (k := 1) Df sc_absent_hold rfl rfl fun f cdv A outer s H E hr => bd_absent_hold T C_is_index hr
theorem ok_step_holds {P : Program} {wd : World} {K : PySem.W.Frag} {mg : Str → Option Value} {base : Heap} (T : Fx K mg) (Df : Dfn K mg "step_holds" ["rows", "group", "step"] s_step_holds) (C_rows_to_miss : Cal P wd K mg base 2 "rows_to_miss" 2 d_rows_to_miss) (C_absent_hold : Cal P wd K mg base 2 "absent_hold" 3 d_absent_hold) (C_is_tuple_of : Cal P wd K mg base 1 "is_tuple_of" 2 d_is_tuple_of) (C_is_index : Cal P wd K mg base 1 "is_index" 2 d_is_index) : Cal P wd K mg base 3 "step_holds" 3 d_step_holds :=
  Cal.of (k := 2) Df sc_step_holds rfl rfl fun f cdv A outer s H E hr => bd_step_holds T C_rows_to_miss C_absent_hold C_is_tuple_of C_is_index hr
theorem ok_reason_holds {P : Program} {wd : World} {K : PySem.W.Frag} {mg : Str → Option Value} {base : Heap} (T : Fx K mg) (Df : Dfn K mg "reason_holds" ["rows", "thing"] s_reason_holds) (C_step_thing : Cal P wd K mg base 1 "step_thing" 2 d_step_thing) (C_is_tuple_of : Cal P wd K mg base 1 "is_tuple_of" 2 d_is_tuple_of) (C_step_holds : Cal P wd K mg base 3 "step_holds" 3 d_step_holds) (C_is_name : Cal P wd K mg base 1 "is_name" 1 d_is_name) (C_are_names : Cal P wd K mg base 2 "are_names" 1 d_are_names) : Cal P wd K mg base 4 "reason_holds" 2 d_reason_holds :=
  Cal.of (k := 3) Df sc_reason_holds rfl rfl fun f cdv A outer s H E hr => bd_reason_holds T C_step_thing C_is_tuple_of C_step_holds C_is_name C_are_names hr
theorem ok__law_judged {P : Program} {wd : World} {K : PySem.W.Frag} {mg : Str → Option Value} {base : Heap} (T : Fx K mg) (Df : Dfn K mg "_law_judged" ["_law_rows_here", "_law_thing_here"] s__law_judged) (C__law_reason_good : Cal P wd K mg base 3 "_law_reason_good" 2 d__law_reason_good) (C_reason_holds : Cal P wd K mg base 4 "reason_holds" 2 d_reason_holds) (C__law_copy : Cal P wd K mg base 1 "_law_copy" 1 d__law_copy) : CalG P wd K mg base 5 "_law_judged" 2 d__law_judged :=
  CalG.of (k := 4) Df sc__law_judged rfl rfl fun f cdv A outer s H E ag hr => bd__law_judged T C__law_reason_good C_reason_holds C__law_copy ag hr
theorem ok__law_odd {P : Program} {wd : World} {K : PySem.W.Frag} {mg : Str → Option Value} {base : Heap} (T : Fx K mg) (Df : Dfn K mg "_law_odd" ["_law_bag_here", "_law_thing_here"] s__law_odd) (C__law_take : Cal P wd K mg base 1 "_law_take" 2 d__law_take) : Cal P wd K mg base 2 "_law_odd" 2 d__law_odd :=
  Cal.of (k := 1) Df sc__law_odd rfl rfl fun f cdv A outer s H E hr => bd__law_odd T C__law_take hr
theorem ok__law_bent {P : Program} {wd : World} {K : PySem.W.Frag} {mg : Str → Option Value} {base : Heap} (T : Fx K mg) (Df : Dfn K mg "_law_bent" ["_law_bag_here", "_law_thing_here"] s__law_bent) (C__law_take : Cal P wd K mg base 1 "_law_take" 2 d__law_take) (C__law_odd : Cal P wd K mg base 2 "_law_odd" 2 d__law_odd) : ∀ n : Nat, Cal P wd K mg base (2 + n) "_law_bent" 2 (d__law_bent n)
  | 0 => Cal.none Df rfl
  | n + 1 => Cal.of (k := 2 + n) Df sc__law_bent rfl rfl fun f cdv A outer s H E hr => bd__law_bent T C__law_take C__law_odd (ok__law_bent T Df C__law_take C__law_odd n) hr
theorem ok_law {P : Program} {wd : World} {K : PySem.W.Frag} {mg : Str → Option Value} {base : Heap} (T : Fx K mg) (C__law_other_reason : Cal P wd K mg base 3 "_law_other_reason" 4 d__law_other_reason) (C_reason : Cal P wd K mg base 4 "reason" 3 d_reason) (C__law_bent : Cal P wd K mg base 10 "_law_bent" 2 (d__law_bent 8)) (C__law_judged : CalG P wd K mg base 5 "_law_judged" 2 d__law_judged) (C__law_reason_good : Cal P wd K mg base 3 "_law_reason_good" 2 d__law_reason_good) (C__law_take : Cal P wd K mg base 1 "_law_take" 2 d__law_take) (C__law_some : Cal P wd K mg base 2 "_law_some" 2 d__law_some) (C__law_ground : Cal P wd K mg base 4 "_law_ground" 1 d__law_ground) (C__law_bag : Cal P wd K mg base 1 "_law_bag" 2 d__law_bag) {f : Addr} {fd : FuncData} (hm : mg "law" = some (.ref f)) (F : Fun K "law" "law" s_law f fd) : FnG P wd K mg base (L2N.CX P wd) 11 f fd ["_law_script"] (spD K mg 1 d_law) :=
  fn_DG (k := 10) (funV_of F) sc_law rfl fun cdv A outer s H E ag hr => bd_law T C__law_other_reason C_reason C__law_bent C__law_judged C__law_reason_good C__law_take C__law_some C__law_ground C__law_bag ag hr
def BagB (c : Cell) : Prop := ∃ b0 b1 : Int, c = .lst [.int b0, .int b1] ∧ 0 ≤ b0 ∧ 0 ≤ b1 ∧ b1 < 2147483648
def Bag (st : Store) (l : Nat) : Prop := ∃ c, st[l]? = some c ∧ BagB c
def Fr (l : Nat) (st st' : Store) : Prop := st.length ≤ st'.length ∧ ∀ k, k ≠ l → k < st.length → st'[k]? = st[k]?
theorem Fr.refl (l : Nat) (st : Store) : Fr l st st := ⟨Nat.le_refl _, fun _ _ _ => rfl⟩
theorem Fr.trans {l : Nat} {a b c : Store} (x : Fr l a b) (y : Fr l b c) : Fr l a c := ⟨Nat.le_trans x.1 y.1, fun k h1 h2 => (y.2 k h1 (Nat.lt_of_lt_of_le h2 x.1)).trans (x.2 k h1 h2)⟩
theorem Fr.set (l : Nat) (st : Store) (c : Cell) : Fr l st (st.set l c) := ⟨by simp, fun k h _ => List.getElem?_set_ne (Ne.symm h)⟩
theorem Fr.app (l : Nat) (st ex : Store) : Fr l st (st ++ ex) := ⟨by simp, fun k _ h => List.getElem?_append_left h⟩
theorem take_ok {st : Store} {l many : Nat} {Q : D → Store → Prop} (hb : Bag st l) (h0 : 0 < many) (h1 : many < 1000000) (k : ∀ (v : Nat) (st' : Store), v < many → Bag st' l → Fr l st st' → Q (.int v) st') : DOk (d__law_take [.ref l, .int many] st) Q := by
  obtain ⟨c, hl, b0, b1, rfl, p0, p1, p2⟩ := hb
  have hm : (0 : Int) < many := by omega
  obtain ⟨hll, hl'⟩ := List.getElem?_eq_some_iff.mp hl
  have cd : ∀ i : Int, CDiv i many := fun _ => ⟨hm, by omega⟩
  have cd8 : ∀ i : Int, CDiv i 8 := fun _ => ⟨by decide, by decide⟩
  unfold d__law_take
  refine DOk_run ?_
  by_cases hb : 0 < b0
  · have hv : ((b0 % many).toNat : Int) = b0 % many := Int.toNat_of_nonneg (Int.emod_nonneg _ (by omega))
    have := k (b0 % many).toNat (st.set l (.lst [.int (b0 / many), .int b1])) (by have := Int.emod_lt_of_pos b0 hm; have := Int.emod_nonneg b0 (show (many : Int) ≠ 0 by omega); omega)
      ⟨_, List.getElem?_set_self hll, _, _, rfl, Int.ediv_nonneg p0 (by omega), p1, p2⟩ (Fr.set ..)
    rw [hv] at this
    simp [b__law_take, hl', hll, atI, ixN, hb, cd, h0]
    exact this
  · obtain ⟨m, hmx⟩ : ∃ m : Int, (b1 * 48271 + 7919) % 2147483647 = m := ⟨_, rfl⟩
    have m0 : 0 ≤ m := by rw [← hmx]; exact Int.emod_nonneg _ (by decide)
    have m1 : m < 2147483647 := by rw [← hmx]; exact Int.emod_lt_of_pos _ (by decide)
    obtain ⟨v, hv⟩ : ∃ v : Int, m / 8 * 69621 % 2147483629 % many = v := ⟨_, rfl⟩
    have v0 : 0 ≤ v := by rw [← hv]; exact Int.emod_nonneg _ (by omega)
    have v1 : v < many := by rw [← hv]; exact Int.emod_lt_of_pos _ (by omega)
    have c1 : CMul b1 48271 := .inr (by decide)
    have c2 : CMul (m / 8) 69621 := .inr (by decide)
    have := k v.toNat (st.set l (.lst [.int b0, .int m])) (by omega) ⟨_, List.getElem?_set_self hll, _, _, rfl, p0, m0, by omega⟩ (Fr.set ..)
    rw [Int.toNat_of_nonneg v0] at this
    simp [b__law_take, hl', hll, atI, ixN, hb, cd8, h0, c1, hmx, c2, hv]
    exact this
theorem bag_ok {ns : List Int} {i : Nat} {st : Store} {Q : D → Store → Prop} (h : i < 1000) (hn : ns.length ≤ 63) (k : ∀ st' : Store, Bag st' st.length → Fr st.length st st' → Q (.ref st.length) st') : DOk (d__law_bag [.lsk (ns.map .int), .int i] st) Q := by
  unfold d__law_bag
  refine DOk_run ?_
  have e18 : CPow2 10 18 := ⟨by decide, by decide, Nat.lt_of_lt_of_le (by decide : Int.natAbs 10 < 2 ^ 8) (Nat.pow_le_pow_right (by decide) (by decide))⟩
  have cm : CMul 7919 i := by left; decide
  obtain ⟨j, hj, hj2⟩ : ∃ j : Nat, j ≤ ns.length ∧ (if (60 : Int) < (ns.length : Int) then (60 : Int) else (ns.length : Int)) = (j : Int) := by
    by_cases h : (60 : Int) < (ns.length : Int)
    · exact ⟨60, by omega, by rw [if_pos h]; rfl⟩
    · exact ⟨ns.length, by omega, by rw [if_neg h]⟩
  have hrg : Rg (j : Int) := .of (by omega) (by omega)
  have loop : ∀ (cell mix : Int), 0 ≤ cell → 0 ≤ mix → mix < 2147483648 → ∀ x4 : Sl, SOk (forD (gN 4) f__law_bag_1 (rngItems 0 j) [.val (.lsk (ns.map .int)), .val (.int i), .val (.int cell), .val (.int mix), x4] st)
      (fun ρ st' => st' = st ∧ ∃ (mix : Int) (x4 : Sl), 0 ≤ mix ∧ mix < 2147483648 ∧ ρ = [.val (.lsk (ns.map .int)), .val (.int i), .val (.int cell), .val (.int mix), x4]) Q := by
    intro cell mix hc h1 h2 x4
    have := SOk_forD (k := gN 4) (b := f__law_bag_1) (N := fun ρ st' => st' = st ∧ ∃ (mix : Int) (x4 : Sl), 0 ≤ mix ∧ mix < 2147483648 ∧ ρ = [.val (.lsk (ns.map .int)), .val (.int i), .val (.int cell), .val (.int mix), x4]) (V := Q) (fun n : Nat => D.int (n : Int))
      (fun _ ρ st' => st' = st ∧ ∃ (mix : Int) (x4 : Sl), 0 ≤ mix ∧ mix < 2147483648 ∧ ρ = [.val (.lsk (ns.map .int)), .val (.int i), .val (.int cell), .val (.int mix), x4]) (List.range j) [] [.val (.lsk (ns.map .int)), .val (.int i), .val (.int cell), .val (.int mix), x4] st ⟨rfl, mix, x4, h1, h2, rfl⟩
      (by
        rintro p q r ρ st' hpq ⟨rfl, m, x4, m1, m2, rfl⟩
        have hq : q < j := by
          have : q ∈ List.range j := by rw [List.nil_append] at hpq; rw [hpq]; simp
          exact List.mem_range.mp this
        have hq2 : q < ns.length := by omega
        refine ⟨_, rfl, ?_⟩
        have c1 : CMul m 48271 := .inr (by decide)
        obtain ⟨z, hz⟩ : ∃ z : Int, (m * 48271 + ns[q] % 2147483647 + q) % 2147483629 = z := ⟨_, rfl⟩
        have z0 : 0 ≤ z := by rw [← hz]; exact Int.emod_nonneg _ (by decide)
        have z1 : z < 2147483629 := by rw [← hz]; exact Int.emod_lt_of_pos _ (by decide)
        simp [f__law_bag_1, c1, hq2, atI, ixN, hz]
        exact ⟨z0, by omega⟩) (fun ρ st' z => z)
    rwa [← show rngItems 0 j = (List.range j).map (fun n : Nat => D.int (n : Int)) by simp [rngItems]] at this
  have fin : ∀ (cell : Int), 0 ≤ cell → ∀ (mix : Int) (x4 : Sl), 0 ≤ mix → mix < 2147483648 → SOk (seqD (ifD (lift2 pLtX (vr 2) (lift2 pPowW (cst (.int 10)) (cst (.int 18)))) (setD (cst (.int 0)) (gN 2)) nxD) (retCD (lstD (aCons (vr 2) (aCons (vr 3) aNil)))) [.val (.lsk (ns.map .int)), .val (.int i), .val (.int cell), .val (.int mix), x4] st) (fun _ st => Q .non st) Q := by
    intro cell hc mix x4 h1 h2
    by_cases hb : cell < 1000000000000000000
    · have := k (st ++ [.lst [.int 0, .int mix]]) ⟨.lst [.int 0, .int mix], by simp, 0, mix, rfl, by decide, h1, h2⟩ (Fr.app ..)
      simp [e18, hb]
      exact this
    · have := k (st ++ [.lst [.int cell, .int mix]]) ⟨.lst [.int cell, .int mix], by simp, cell, mix, rfl, hc, h1, h2⟩ (Fr.app ..)
      simp [e18, hb]
      exact this
  have hmx : 0 ≤ 7919 * (i : Int) + 17 ∧ 7919 * (i : Int) + 17 < 2147483648 := by omega
  by_cases hlt : i < ns.length
  · obtain ⟨cell, hcell⟩ : ∃ cell : Int, (if ns[i] < 0 then -ns[i] else ns[i]) = cell := ⟨_, rfl⟩
    have hc : 0 ≤ cell := by rw [← hcell]; split <;> omega
    have L := loop cell (7919 * i + 17) hc hmx.1 hmx.2 .no
    unfold b__law_bag
    simp -dsimp [hlt, atI, ixN, hcell, cm, hj2, hrg]
    refine L.mono (fun ρ st' z => ?_) fun _ _ z => z
    obtain ⟨rfl, mix, x4, m1, m2, rfl⟩ := z
    exact fin cell hc mix x4 m1 m2
  · have L := loop 0 (7919 * i + 17) (by decide) hmx.1 hmx.2 .no
    unfold b__law_bag
    simp -dsimp [hlt, cm, hj2, hrg]
    refine L.mono (fun ρ st' z => ?_) fun _ _ z => z
    obtain ⟨rfl, mix, x4, m1, m2, rfl⟩ := z
    exact fin 0 (by decide) mix x4 m1 m2
abbrev LET : Str := "abcdefghijklmnopqrstuvwxyz"
theorem LET_len : LET.length = 26 := by decide
theorem LET_sz : LET.length ≤ sizeLine := by rw [LET_len, sizeLine_eq]; omega
theorem LET_ok : ∀ c ∈ LET.cps.toList, c < 0x110000 := by decide
structure NameS (s : Str) : Prop where
  lo : 1 ≤ s.length
  hi : s.length ≤ 8
  low : ∀ c ∈ s.cps.toList, c ∈ LET.cps.toList
theorem NameS.ok {s : Str} (h : NameS s) : okS s := fun c hc => LET_ok c (h.low c hc)
theorem LET_mem {c : Nat} : c ∈ LET.cps.toList ↔ 97 ≤ c ∧ c < 123 := by
  have : LET.cps.toList = List.range' 97 26 := by decide
  rw [this, List.mem_range'_1]
theorem LET_at (u : Nat) (h : u < 26) : LET.cps.toList[u]? = some (97 + u) := by
  have : LET.cps.toList = List.range' 97 26 := by decide
  rw [this, List.getElem?_range' h]; simp
def nmK (long : Bool) (bs : List Nat) (spot first k : Nat) : Str := if long then mkS (List.replicate (1 + k % 8) (97 + (first + k) % 26)) else mkS (bs.take spot ++ (97 + (first + k) % 26) :: bs.drop (spot + 1))
theorem nmK_name {long : Bool} {bs : List Nat} {spot first k : Nat} (h : spot < bs.length) (h8 : bs.length ≤ 8) (hl : ∀ c ∈ bs, c ∈ LET.cps.toList) : NameS (nmK long bs spot first k) := by
  have hc : 97 + (first + k) % 26 ∈ LET.cps.toList := by rw [LET_mem]; omega
  unfold nmK
  cases long with
  | true =>
    refine ⟨by simp, by simp; omega, fun c h => ?_⟩
    simp at h
    rw [h]; exact hc
  | false =>
    refine ⟨by simp; omega, by simp; omega, fun c h => ?_⟩
    simp at h
    rcases h with h | h | h
    · exact hl c (List.mem_of_mem_take h)
    · rw [h]; exact hc
    · exact hl c (List.mem_of_mem_drop h)
theorem nmK_inj {long : Bool} {bs : List Nat} {spot first j k : Nat} (hj : j < 26) (hk : k < 26) (h : nmK long bs spot first j = nmK long bs spot first k) : j = k := by
  unfold nmK at h
  cases long with
  | true =>
    have h := mkS_inj.mp h
    have h1 := congrArg List.length h
    simp at h1
    have h2 : (List.replicate (1 + j % 8) (97 + (first + j) % 26))[0]? = (List.replicate (1 + k % 8) (97 + (first + k) % 26))[0]? := by rw [h]
    rw [List.getElem?_replicate, List.getElem?_replicate, if_pos (by omega), if_pos (by omega)] at h2
    injection h2 with h2
    omega
  | false =>
    have h := List.append_cancel_left (mkS_inj.mp h)
    injection h with h _
    omega
theorem nmK_nodup {long : Bool} {bs : List Nat} {spot first many : Nat} (h : many ≤ 26) : ((List.range many).map (nmK long bs spot first)).Nodup := by
  rw [List.Nodup, List.pairwise_map]
  refine List.Pairwise.imp_of_mem (R := fun a b => a ≠ b) ?_ List.nodup_range
  intro a b ha hb hne e
  exact hne (nmK_inj (Nat.lt_of_lt_of_le (List.mem_range.mp ha) h) (Nat.lt_of_lt_of_le (List.mem_range.mp hb) h) e)
theorem names_ok {st : Store} {l many : Nat} {Q : D → Store → Prop} (hb : Bag st l) (hm : many ≤ 26) (k : ∀ (ns : List Str) (st' : Store), ns.length = many → ns.Nodup → (∀ s ∈ ns, NameS s) → Bag st' l → Fr l st st' → Q (.lst (ns.map .str)) st') : DOk (d__law_names [.ref l, .int many] st) Q := by
  unfold d__law_names
  refine DOk_run ?_
  unfold b__law_names
  simp
  refine COk.of (take_ok hb (many := 8) (by decide) (by decide) fun v st1 hv hb1 f1 => ?_)
  simp
  refine COk.of (take_ok hb1 (many := 1 + v) (by omega) (by omega) fun spot st2 hs hb2 f2 => ?_)
  simp
  refine COk.of (take_ok hb2 (many := 26) (by decide) (by decide) fun first st3 hf hb3 f3 => ?_)
  simp
  have r1 : Rg (1 + (v : Int)) := .of (by omega) (by omega)
  have n1 : (1 + (v : Int)).toNat = 1 + v := by omega
  simp [r1, n1]
  refine SOk_rng (1 + v) (fun q ρ st' => ∃ (bs : List Nat) (x7 : Sl), bs.length = q ∧ (∀ c ∈ bs, c ∈ LET.cps.toList) ∧ Bag st' l ∧ Fr l st st' ∧ ρ = [.val (.ref l), .val (.int many), .val (.str LET), .val (.int (1 + v)), .val (.int spot), .val (.int first), .val (.str (mkS bs)), x7, .no, .no, .no])
    ⟨[], .no, rfl, by simp, hb3, (f1.trans f2).trans f3, rfl⟩ ?_ ?_
  · rintro q ρ st' hq ⟨bs, x7, hl, hbs, hB, hF, rfl⟩
    refine ⟨_, rfl, ?_⟩
    unfold f__law_names_2
    simp
    refine COk.of (take_ok hB (many := 26) (by decide) (by decide) fun u st4 hu hb4 f4 => ?_)
    have hz : bs.length + (⟨#[97 + u]⟩ : Str).length ≤ sizeLine := by rw [sizeLine_eq]; show bs.length + 1 ≤ _; omega
    simp [LET_at u hu, LET_sz, hz]
    refine ⟨bs ++ [97 + u], by simp [hl], fun c hc => ?_, hb4, hF.trans f4, mkS_app bs [97 + u]⟩
    rcases List.mem_append.mp hc with hc | hc
    · have := hbs c hc; simpa using this
    · have : c ∈ LET.cps.toList := by rw [List.mem_singleton.mp hc, LET_mem]; omega
      simpa using this
  · rintro ρ st' ⟨bs, x7, hl, hbs, hB, hF, rfl⟩
    simp
    refine COk.of (take_ok hB (many := 3) (by decide) (by decide) fun u st4 hu hb4 f4 => ?_)
    simp
    have r2 : Rg (many : Int) := .of (by omega) (by omega)
    simp [r2]
    refine SOk_rng many (fun q ρ st' => ∃ (x7 x10 : Sl), st' = st4 ∧ ρ = [.val (.ref l), .val (.int many), .val (.str LET), .val (.int (1 + v)), .val (.int spot), .val (.int first), .val (.str (mkS bs)), x7, .val (.bl (decide (u = 0))), .ml (((List.range q).map (nmK (decide (u = 0)) bs spot first)).map .str), x10])
      ⟨x7, .no, rfl, rfl⟩ ?_ ?_
    · rintro q ρ st' hq ⟨x7, x10, rfl, rfl⟩
      refine ⟨_, rfl, ?_⟩
      have h1 : atI LET.cps.toList (((first : Int) + q) % 26) = some (97 + (first + q) % 26) := by
        rw [show ((first : Int) + q) % 26 = (((first + q) % 26 : Nat) : Int) by omega, DL.atI_nat]
        exact LET_at _ (by omega)
      have qs : q < sizeLine := by rw [sizeLine_eq]; omega
      unfold f__law_names_1
      by_cases h0 : u = 0
      · have c1 : (0 : Int) < 1 + (q : Int) % 8 := by omega
        have c2 : (1 : Int) + (q : Int) % 8 < 1000 := by omega
        have c3 : (⟨#[97 + (first + q) % 26]⟩ : Str).length ≤ 1000 := by show 1 ≤ 1000; decide
        have hr : repS ⟨#[97 + (first + q) % 26]⟩ (1 + (q : Int) % 8).toNat = nmK true bs spot first q := by
          apply mkS_ext
          rw [repS_cps]
          have : (1 + (q : Int) % 8).toNat = 1 + q % 8 := by omega
          rw [this]
          show _ = (mkS _).cps.toList
          rw [mkS_cps]
          exact List.flatten_replicate_singleton
        simp [h0, qs, LET_sz, h1, c1, c2, c3, hr, List.range_succ]
      · have hsp : spot < bs.length := by omega
        have z1 : bs.length ≤ sizeLine := by rw [sizeLine_eq]; omega
        have cu1 : cutS (mkS bs) none (some (spot : Int)) = mkS (bs.take spot) := by
          apply mkS_ext
          rw [cutS_cps]
          simp [HT.sIx, show ¬ (spot : Int) < 0 by omega, Nat.min_eq_left (Nat.le_of_lt hsp)]
        have cu2 : cutS (mkS bs) (some ((spot : Int) + 1)) none = mkS (bs.drop (spot + 1)) := by
          apply mkS_ext
          rw [cutS_cps]
          simp [HT.sIx, show ¬ ((spot : Int) + 1) < 0 by omega, show ((spot : Int) + 1).toNat = spot + 1 by omega, Nat.min_eq_left (show spot + 1 ≤ bs.length by omega)]
          exact List.take_of_length_le (by simp)
        have e1 : (⟨#[97 + (first + q) % 26]⟩ : Str) = mkS [97 + (first + q) % 26] := rfl
        have e2 : mkS (bs.take spot ++ (97 + (first + q) % 26) :: bs.drop (spot + 1)) = nmK false bs spot first q := by simp [nmK]
        have s1 : min spot bs.length + 1 ≤ sizeLine := by rw [sizeLine_eq]; omega
        have s2 : min spot bs.length + 1 + (bs.length - (spot + 1)) ≤ sizeLine := by rw [sizeLine_eq]; omega
        simp [h0, qs, LET_sz, h1, z1, cu1, cu2, e1, s1, s2, mkS_app, e2, List.range_succ]
    · rintro ρ st' ⟨x7, x10, rfl, rfl⟩
      simp
      have := k ((List.range many).map (nmK (decide (u = 0)) bs spot first)) st' (by simp) (nmK_nodup hm) (fun s hs => by
        obtain ⟨j, _, rfl⟩ := List.mem_map.mp hs
        exact nmK_name (by omega) (by omega) hbs) hb4 (hF.trans f4)
      simpa using this
theorem erase_map {α β : Type} (f : α → β) : ∀ (l : List α) (i : Nat), (l.map f).eraseIdx i = (l.eraseIdx i).map f
  | [], _ => rfl
  | _ :: _, 0 => rfl
  | x :: l, i + 1 => by simp [erase_map f l i]
theorem eraseIdx_perm {α : Type} : ∀ (l : List α) (i : Nat) (h : i < l.length), (l[i] :: l.eraseIdx i).Perm l
  | x :: l, 0, _ => List.Perm.refl _
  | x :: l, i + 1, h => by
    have := eraseIdx_perm l i (by simpa using h)
    simp only [List.getElem_cons_succ, List.eraseIdx_cons_succ]
    exact (List.Perm.swap ..).trans (this.cons x)
theorem some_ok {st : Store} {l : Nat} {ms : List Str} {Q : D → Store → Prop} (hb : Bag st l) (h0 : 0 < ms.length) (hms : ms.length ≤ 1000) (nd : ms.Nodup) (k : ∀ (ys : List Str) (st' : Store), ys.Nodup → (∀ x ∈ ys, x ∈ ms) → 0 < ys.length → ys.length ≤ ms.length → Bag st' l → Fr l st st' → Q (.lst (ys.map .str)) st') : DOk (d__law_some [.ref l, .lst (ms.map .str)] st) Q := by
  unfold d__law_some
  refine DOk_run ?_
  unfold b__law_some
  simp
  refine COk.of (take_ok hb (many := ms.length) h0 (by omega) fun v st1 hv hb1 f1 => ?_)
  have r1 : Rg (1 + (v : Int)) := .of (by omega) (by omega)
  have n1 : (1 + (v : Int)).toNat = 1 + v := by omega
  simp [r1, n1]
  refine SOk_rng (1 + v) (fun q ρ st' => ∃ (L F : List Str) (x4 : Sl), F.length = q ∧ (F ++ L).Perm ms ∧ Bag st' l ∧ Fr l st st' ∧ ρ = [.val (.ref l), .val (.lst (ms.map .str)), .ml (L.map .str), .ml (F.map .str), x4])
    ⟨ms, [], .no, rfl, List.Perm.refl _, hb1, f1, rfl⟩ ?_ ?_
  · rintro q ρ st' hq ⟨L, F, x4, hl, hp, hB, hF, rfl⟩
    refine ⟨_, rfl, ?_⟩
    have hlen := hp.length_eq
    rw [List.length_append] at hlen
    unfold f__law_some_1
    simp
    refine COk.of (take_ok hB (many := L.length) (by omega) (by omega) fun u st2 hu hb2 f2 => ?_)
    have hrs : Rs (u : Int) := .of (by omega) (by omega)
    have hsx : seqIndex? (u : Int) L.length = some u := by
      have h0 : ¬ ((u : Int) < 0) := by omega
      simp [seqIndex?, h0, hu]
    have hz : F.length < sizeLine := by rw [sizeLine_eq]; omega
    simp [hrs, hsx, hu, hz]
    refine ⟨L.eraseIdx u, F ++ [L[u]], by simp [hl], ?_, hb2, hF.trans f2, by rw [erase_map], by simp⟩
    rw [List.append_assoc]
    exact (List.Perm.append_left F (eraseIdx_perm L u hu)).trans hp
  · rintro ρ st' ⟨L, F, x4, hl, hp, hB, hF, rfl⟩
    have hlen := hp.length_eq
    rw [List.length_append] at hlen
    have nd2 : (F ++ L).Nodup := hp.nodup_iff.mpr nd
    simp
    exact k F st' (List.nodup_append.mp nd2).1 (fun x hx => hp.mem_iff.mp (List.mem_append_left _ hx)) (by omega) (by omega) hB hF
abbrev Rw := Th × List Str
def rowD (r : Rw) : D := .tup [Dt.d r.1, .tup (r.2.map .str)]
def rowsD (rs : List Rw) : D := .lst (rs.map rowD)
structure RwOk (r : Rw) : Prop where
  th : Dt.ok r.1
  he : ∀ x ∈ r.2, okS x
structure RsOk (rs : List Rw) : Prop where
  sz : rs.length ≤ 1000
  ok : ∀ r ∈ rs, RwOk r
def dctD (R : List (Str × List Rw)) : List (Key × D) := R.map fun p => (.inr p.1, rowsD p.2)
def own : List (Str × List Rw) → Str → List Rw
  | [], _ => []
  | p :: R, w => if p.1 = w then p.2 else own R w
theorem own_get : ∀ (R : List (Str × List Rw)) (w : Str), (getK (dctD R) (.inr w)).getD (.lst []) = rowsD (own R w)
  | [], _ => rfl
  | p :: R, w => by
    by_cases h : p.1 = w
    · simp [dctD, getK, own, h]
    · have := own_get R w
      unfold getK dctD at this ⊢
      simpa [own, h] using this
theorem own_ok {R : List (Str × List Rw)} {w : Str} (h : ∀ p ∈ R, RsOk p.2) : RsOk (own R w) := by
  induction R with
  | nil => exact ⟨Nat.zero_le _, fun r hr => by cases hr⟩
  | cons p R ih =>
    unfold own
    split
    · exact h p (List.mem_cons_self ..)
    · exact ih fun q hq => h q (List.mem_cons_of_mem _ hq)
theorem own_key {R : List (Str × List Rw)} {w : Str} (h : w ∉ R.map (·.1)) : own R w = [] := by
  induction R with
  | nil => rfl
  | cons p R ih =>
    simp at h
    unfold own
    rw [if_neg (fun e => h.1 e.symm)]
    exact ih (by simpa using h.2)
def heard (P : List Str) (r : Rw) : Bool := P.all fun p => decide (p ∈ r.2)
def lastGo (P : List Str) : List Rw → Nat → Option Nat → Option Nat
  | [], _, f => f
  | r :: rs, k, f => lastGo P rs (k + 1) (if heard P r then some k else f)
def lastH (P : List Str) (rs : List Rw) : Option Nat := lastGo P rs 0 none
theorem lastGo_cat (P : List Str) : ∀ (a b : List Rw) (k : Nat) (f : Option Nat), lastGo P (a ++ b) k f = lastGo P b (k + a.length) (lastGo P a k f)
  | [], b, k, f => rfl
  | r :: a, b, k, f => by
    show lastGo P (a ++ b) (k + 1) _ = _
    rw [lastGo_cat P a b]
    show _ = lastGo P b (k + (a.length + 1)) (lastGo P a (k + 1) _)
    rw [show k + (a.length + 1) = k + 1 + a.length by omega]
theorem lastGo_no {P : List Str} : ∀ {a : List Rw} {k : Nat} {f : Option Nat}, (∀ r ∈ a, heard P r = false) → lastGo P a k f = f
  | [], _, _, _ => rfl
  | r :: a, k, f, h => by
    show lastGo P a (k + 1) _ = f
    rw [h r (List.mem_cons_self ..)]
    exact lastGo_no fun x hx => h x (List.mem_cons_of_mem _ hx)
theorem lastH_at {P : List Str} {a b : List Rw} {r : Rw} (h : heard P r = true) (hb : ∀ x ∈ b, heard P x = false) : lastH P (a ++ r :: b) = some a.length := by
  unfold lastH
  rw [lastGo_cat]
  show lastGo P b _ _ = _
  rw [lastGo_no hb, h, Nat.zero_add]; rfl
theorem lastH_no {P : List Str} {a : List Rw} (h : ∀ r ∈ a, heard P r = false) : lastH P a = none := lastGo_no h
theorem lastH_cases (P : List Str) (rs : List Rw) : (lastH P rs = none ∧ ∀ r ∈ rs, heard P r = false) ∨ ∃ a r b, rs = a ++ r :: b ∧ heard P r = true ∧ (∀ x ∈ b, heard P x = false) ∧ lastH P rs = some a.length := by
  have : (∀ r ∈ rs, heard P r = false) ∨ ∃ a r b, rs = a ++ r :: b ∧ heard P r = true ∧ ∀ x ∈ b, heard P x = false := by
    induction rs with
    | nil => exact .inl fun r hr => by cases hr
    | cons r rs ih =>
      rcases ih with ih | ⟨a, q, b, rfl, h1, h2⟩
      · cases hr : heard P r with
        | true => exact .inr ⟨[], r, rs, rfl, hr, ih⟩
        | false => exact .inl fun x hx => by rcases List.mem_cons.mp hx with rfl | hx; exact hr; exact ih x hx
      · exact .inr ⟨r :: a, q, b, rfl, h1, h2⟩
  rcases this with h | ⟨a, r, b, rfl, h1, h2⟩
  · exact .inl ⟨lastH_no h, h⟩
  · exact .inr ⟨a, r, b, rfl, h1, h2, lastH_at h1 h2⟩
def optD : Option Nat → D
  | none => .non
  | some i => .int i
def stepT (rs : List Rw) : Option Nat → Th
  | none => .non
  | some i => ((rs[i]?).map (·.1)).getD .non
def firstAt : Option Nat → Nat
  | none => 0
  | some i => i + 1
def thAt (rs : List Rw) (i : Nat) : Th := ((rs[i]?).map (·.1)).getD .non
def heAt (rs : List Rw) (i : Nat) : List Str := ((rs[i]?).map (·.2)).getD []
def toMiss (rs : List Rw) (o : Option Nat) : List Nat := ((List.range (rs.length - firstAt o)).map (firstAt o + ·)).filter fun i => decide (thAt rs i ≠ stepT rs o)
def absentP (he P : List Str) : Str := ((P.filter fun p => decide (p ∉ he))[0]?).getD ""
def mD (p : Nat × Str) : D := .tup [.int p.1, .str p.2]
def missD (rs : List Rw) (P : List Str) : List (Nat × Str) := (toMiss rs (lastH P rs)).map fun i => (i, absentP (heAt rs i) P)
def stepD (rs : List Rw) (P : List Str) (w : Str) : D := .tup [.str w, optD (lastH P rs), .lst ((missD rs P).map mD)]
theorem DOk.eq {r : R} {x : D} {st : Store} (h : DOk r fun d st' => d = x ∧ st' = st) : r = .ok x [] st := by
  obtain ⟨d, st', e, rfl, rfl⟩ := h
  exact e
@[simp] theorem COk_ok {d : D} {ρ ρ' : En} {st : Store} {P : D → En → Store → Prop} : COk (.ok d ρ' st) ρ P ↔ P d ρ st := Iff.rfl
theorem pIn_tup {n : Bool} {p : Str} {xs : List Str} (hp : okS p) (hx : ∀ x ∈ xs, okS x) : pInX n (.str p) (.tup (xs.map .str)) = some (.bl (if n then !decide (p ∈ xs) else decide (p ∈ xs))) := pInX_tup (α := Str) hp hx
theorem pIn_lst {n : Bool} {p : Str} {xs : List Str} (hp : okS p) (hx : ∀ x ∈ xs, okS x) : pInX n (.str p) (.lst (xs.map .str)) = some (.bl (if n then !decide (p ∈ xs) else decide (p ∈ xs))) := pInX_lst (α := Str) hp hx
theorem last_heard_eq {rs : List Rw} {P : List Str} {st : Store} (ho : RsOk rs) (hp : ∀ x ∈ P, okS x) (hz : P.length ≤ 1000) : d_last_heard [rowsD rs, .tup (P.map .str)] st = .ok (optD (lastH P rs)) [] st := by
  refine DOk.eq ?_
  unfold d_last_heard
  refine DOk_run ?_
  unfold b_last_heard rowsD
  simp
  refine SOk_enumI rowD rs (fun q ρ st' => st' = st ∧ ∃ x3 x4 x5, ρ = [.val (.lst (rs.map rowD)), .val (.tup (P.map .str)), .val (optD (lastH P (rs.take q))), x3, x4, x5, .no]) ⟨rfl, .no, .no, .no, rfl⟩ ?_ ?_
  · rintro q x ρ st' hq ⟨rfl, x3, x4, x5, rfl⟩
    have hx := ho.ok x (List.mem_of_getElem? hq)
    refine ⟨_, rfl, ?_⟩
    have hz' : P.length ≤ sizeLine := by rw [sizeLine_eq]; omega
    unfold f_last_heard_2
    simp [hz']
    refine EOk_lcM D.str (fun p => .bl (decide (p ∈ x.2))) P (fun p hpP => ⟨_, rfl, ?_⟩) ?_
    · simp [e_last_heard_1, pIn_tup (hp p hpP) hx.he]
    · have e1 : rs.take (q + 1) = rs.take q ++ [x] := by rw [List.take_add_one, hq]; rfl
      have e2 : (rs.take q).length = q := by
        have := (List.getElem?_eq_some_iff.mp hq).1
        simp; omega
      have e3 : lastH P (rs.take (q + 1)) = if heard P x = true then some q else lastH P (rs.take q) := by
        unfold lastH
        rw [e1, lastGo_cat, e2, Nat.zero_add]
        rfl
      simp
      cases hh : heard P x with
      | true =>
        have hall : ∀ p ∈ P, p ∈ x.2 := by simpa [heard] using hh
        simp [hh, e3, optD]
        intro p h1 h2
        exact absurd (hall p h1) h2
      | false =>
        have hall : ¬ ∀ p ∈ P, p ∈ x.2 := by simpa [heard] using hh
        simp [hh, e3]
        intro h
        exact absurd h hall
  · rintro ρ st' ⟨rfl, x3, x4, x5, rfl⟩
    simp
theorem step_thing_eq {rs : List Rw} {o : Option Nat} {st : Store} (h : ∀ i, o = some i → i < rs.length) : d_step_thing [rowsD rs, optD o] st = .ok (Dt.d (stepT rs o)) [] st := by
  refine DOk.eq ?_
  unfold d_step_thing
  refine DOk_run ?_
  unfold b_step_thing rowsD
  cases o with
  | none => simp [optD, stepT, Dt.d]
  | some i =>
    have := h i rfl
    simp [optD, stepT, this, rowD]
theorem absent_eq {he P : List Str} {st : Store} (hh : ∀ x ∈ he, okS x) (hp : ∀ x ∈ P, okS x) (hz : P.length ≤ 1000) (ha : P.all (fun p => decide (p ∈ he)) = false) : d_absent_person [.tup (he.map .str), .tup (P.map .str)] st = .ok (.str (absentP he P)) [] st := by
  refine DOk.eq ?_
  unfold d_absent_person
  refine DOk_run ?_
  have hz' : P.length ≤ sizeLine := by rw [sizeLine_eq]; omega
  unfold b_absent_person
  simp [hz']
  refine EOk_lcP D.str (fun p => !decide (p ∈ he)) .str P [] (fun p hpP => ⟨_, rfl, ?_⟩) ?_
  · simp [t_absent_person_1, pIn_tup (hp p hpP) hh]
  · have hne : (P.filter fun p => !decide (p ∈ he)) ≠ [] := fun e => by
      rw [List.filter_eq_nil_iff] at e
      have : P.all (fun p => decide (p ∈ he)) = true := List.all_eq_true.mpr fun p hp => by simpa using e p hp
      rw [this] at ha; cases ha
    obtain ⟨y, ys, hy⟩ := List.exists_cons_of_ne_nil hne
    have hy2 : absentP he P = y := by
      unfold absentP
      rw [show (P.filter fun p => decide (p ∉ he)) = y :: ys by rw [← hy]; congr 1; funext p; simp]
      rfl
    rw [hy2, hy]
    simp
theorem to_miss_eq {rs : List Rw} {o : Option Nat} {st : Store} (ho : RsOk rs) (h : ∀ i, o = some i → i < rs.length) : d_rows_to_miss [rowsD rs, optD o] st = .ok (.lst ((toMiss rs o).map fun i : Nat => .int i)) [] st := by
  refine DOk.eq ?_
  unfold d_rows_to_miss
  refine DOk_run ?_
  unfold b_rows_to_miss
  have h1 : firstAt o ≤ rs.length := by cases o with
    | none => simp [firstAt]
    | some i => exact h i rfl
  have hsz := ho.sz
  have r1 : Rg (firstAt o : Int) := .of (by omega) (by omega)
  have r2 : Rg (rs.length : Int) := .of (by omega) (by omega)
  have key : ∀ x2 : Sl, EOk (lcD (rng2 (aCons (vr 2) (aCons (lift1 pLen (pureE (pvw 0))) aNil))) (gN 3) t_rows_to_miss_1 (vr 3) [3] [.val (rowsD rs), .val (optD o), .val (.int (firstAt o)), x2] st) (k_ret fun d st' => d = .lst ((toMiss rs o).map fun i : Nat => .int i) ∧ st' = st) := by
    intro x2
    have z1 : (rngItems (↑(firstAt o)) (rs.length - firstAt o)).length ≤ sizeLine := by rw [sizeLine_eq]; simp [rngItems]; omega
    have e1 : rngItems (↑(firstAt o)) (rs.length - firstAt o) = ((List.range (rs.length - firstAt o)).map (firstAt o + ·)).map fun i : Nat => D.int i := by simp [rngItems]
    simp [r1, r2, rowsD, z1]
    rw [e1]
    refine EOk_lcP (fun i : Nat => D.int i) (fun i => decide (thAt rs i ≠ stepT rs o)) (fun i : Nat => D.int i) _ [] (fun i hi => ⟨_, rfl, ?_⟩) ?_
    · have hi2 : i < rs.length := by simp at hi; omega
      have e2 : Dt.d rs[i].1 = Dt.d (thAt rs i) := by simp [thAt, hi2]
      have k1 : Dt.ok (thAt rs i) := by have := (ho.ok _ (List.getElem_mem hi2)).th; simpa [thAt, hi2] using this
      have k2 : Dt.ok (stepT rs o) := by
        cases o with
        | none => exact trivial
        | some j => have hj := h j rfl; have := (ho.ok _ (List.getElem_mem hj)).th; simpa [stepT, hj] using this
      have e3 := step_thing_eq (st := st) h
      unfold rowsD at e3
      simp [t_rows_to_miss_1, hi2, rowD, e3, e2, pNe_dt k1 k2]
    · simp [toMiss]
  cases o with
  | none =>
    have := key .no
    simpa [optD, firstAt] using this
  | some i =>
    have := key .no
    simpa [optD, firstAt] using this
theorem lastH_lt {P : List Str} {rs : List Rw} (i : Nat) (h : lastH P rs = some i) : i < rs.length := by
  rcases lastH_cases P rs with ⟨h1, _⟩ | ⟨a, r, b, rfl, _, _, h1⟩
  · rw [h1] at h; cases h
  · rw [h1] at h; cases h; simp
theorem not_heard {P : List Str} {rs : List Rw} {i : Nat} (h : firstAt (lastH P rs) ≤ i) (hi : i < rs.length) : P.all (fun p => decide (p ∈ heAt rs i)) = false := by
  have e : heAt rs i = rs[i].2 := by simp [heAt, hi]
  rw [e]
  show heard P rs[i] = false
  rcases lastH_cases P rs with ⟨_, h1⟩ | ⟨a, r, b, rfl, _, h1, h2⟩
  · exact h1 _ (List.getElem_mem hi)
  · rw [h2] at h
    have : a.length + 1 ≤ i := h
    rw [List.getElem_append_right (by omega)]
    have e2 : (r :: b)[i - a.length]'(by simp at hi ⊢; omega) = b[i - a.length - 1]'(by simp at hi ⊢; omega) := by
      have : i - a.length = (i - a.length - 1) + 1 := by omega
      rw [List.getElem_cons, dif_neg (by omega)]
    rw [e2]
    exact h1 _ (List.getElem_mem _)
theorem miss_mem {rs : List Rw} {o : Option Nat} {i : Nat} (h : i ∈ toMiss rs o) : firstAt o ≤ i ∧ i < rs.length := by
  simp [toMiss] at h
  omega
theorem heAt_ok {rs : List Rw} {i : Nat} (ho : RsOk rs) : ∀ x ∈ heAt rs i, okS x := by
  unfold heAt
  cases h : rs[i]? with
  | none => intro x hx; cases hx
  | some r => exact (ho.ok r (List.mem_of_getElem? h)).he
theorem step_for_eq {d : D} {R : List (Str × List Rw)} {P : List Str} {w : Str} {st : Store} (hR : dOf (lkD st d) = some (dctD R)) (hO : ∀ p ∈ R, RsOk p.2) (hp : ∀ x ∈ P, okS x) (hz : P.length ≤ 1000) :
    d_step_for [d, .str w, .tup (P.map .str)] st = .ok (stepD (own R w) P w) [] st := by
  have hw := own_ok (w := w) hO
  refine DOk.eq ?_
  unfold d_step_for
  refine DOk_run ?_
  unfold b_step_for
  have l1 := last_heard_eq (st := st) hw hp hz
  have l2 := to_miss_eq (st := st) hw (o := lastH P (own R w)) lastH_lt
  have hs := hw.sz
  have z1 : (toMiss (own R w) (lastH P (own R w))).length ≤ sizeLine := by
    rw [sizeLine_eq]
    have : (toMiss (own R w) (lastH P (own R w))).length ≤ (own R w).length := by
      unfold toMiss
      refine Nat.le_trans (List.length_filter_le ..) ?_
      simp
    omega
  simp [-dOf, -lkD, hR, own_get, l1, l2, z1]
  refine EOk_lcM (fun i : Nat => D.int i) (fun i => mD (i, absentP (heAt (own R w) i) P)) _ (fun i hi => ⟨_, rfl, ?_⟩) ?_
  · obtain ⟨i1, i2⟩ := miss_mem hi
    have e1 := absent_eq (st := st) (heAt_ok hw (i := i)) hp hz (not_heard i1 i2)
    have e2 : heAt (own R w) i = (own R w)[i].2 := by simp [heAt, i2]
    rw [e2] at e1
    simp [e_step_for_1, rowsD, i2, rowD, e1, mD, e2]
  · simp [stepD, missD]
def nxt (R : List (Str × List Rw)) (P : List Str) (w : Str) : Th := stepT (own R w) (lastH P (own R w))
inductive Wk (R : List (Str × List Rw)) (P : List Str) (word : Str) : List Str → Th → Prop
  | nil : Wk R P word [] (.later word)
  | step {asked : List Str} {w : Str} : Wk R P word asked (.later w) → w ∉ asked → Wk R P word (asked ++ [w]) (nxt R P w)
theorem Wk.split {R : List (Str × List Rw)} {P : List Str} {word : Str} {asked : List Str} {t : Th} (h : Wk R P word asked t) : ∀ p w q, asked = p ++ w :: q → Wk R P word p (.later w) ∧ w ∉ p := by
  induction h with
  | nil => intro p w q e; have := congrArg List.length e; simp at this
  | @step asked w hw hn ih =>
    intro p v q e
    rcases List.eq_nil_or_concat q with rfl | ⟨q', z, rfl⟩
    · obtain ⟨rfl, e2⟩ := List.append_inj' e rfl
      cases e2
      exact ⟨hw, hn⟩
    · have e' : asked ++ [w] = (p ++ v :: q') ++ [z] := by rw [e]; simp
      obtain ⟨rfl, _⟩ := List.append_inj' e' rfl
      exact ih p v q' rfl
theorem Wk.nodup {R : List (Str × List Rw)} {P : List Str} {word : Str} {asked : List Str} {t : Th} (h : Wk R P word asked t) : asked.Nodup := by
  induction h with
  | nil => exact List.nodup_nil
  | step hw hn ih => exact List.nodup_append.mpr ⟨ih, by simp, fun a ha b hb e => by rw [List.mem_singleton] at hb; exact hn (by rw [← hb, ← e]; exact ha)⟩
def Wdone (asked : List Str) (t : Th) : Prop := ∀ w, t = .later w → w ∈ asked
def finT : Th → Th
  | .later _ => .non
  | t => t
def reasonD (R : List (Str × List Rw)) (P : List Str) (word : Str) (asked : List Str) (t : Th) : D :=
  .tup [.str "reason", .str word, .tup (P.map .str), .lst (asked.map fun w => stepD (own R w) P w), Dt.d (finT t)]
theorem nxt_ok {R : List (Str × List Rw)} {P : List Str} {w : Str} (hO : ∀ p ∈ R, RsOk p.2) : Dt.ok (nxt R P w) := by
  have ho := own_ok (w := w) hO
  unfold nxt
  cases h : lastH P (own R w) with
  | none => exact trivial
  | some j => have hj := lastH_lt j h; have := (ho.ok _ (List.getElem_mem hj)).th; simpa [stepT, hj] using this
theorem Wk.ok {R : List (Str × List Rw)} {P : List Str} {word : Str} {asked : List Str} {t : Th} (hO : ∀ p ∈ R, RsOk p.2) (hw : okS word) (h : Wk R P word asked t) : Dt.ok t ∧ ∀ x ∈ asked, okS x := by
  induction h with
  | nil => exact ⟨hw, fun x hx => by cases hx⟩
  | step h1 h2 ih => exact ⟨nxt_ok hO, fun x hx => by
      rcases List.mem_append.mp hx with hx | hx
      · exact ih.2 x hx
      · rw [List.mem_singleton.mp hx]; exact ih.1⟩
def leftN (R : List (Str × List Rw)) (asked : List Str) : Nat := ((R.map (·.1)).filter fun w => decide (w ∉ asked)).length
def meas (R : List (Str × List Rw)) (asked : List Str) : Th → Nat
  | .later _ => 2 * leftN R asked + 1
  | _ => 2 * leftN R asked
theorem filter_le {α : Type} {p q : α → Bool} (h : ∀ y, q y = true → p y = true) : ∀ l : List α, (l.filter q).length ≤ (l.filter p).length
  | [] => Nat.le_refl _
  | b :: l => by
    have ih := filter_le h l
    cases hq : q b with
    | true => simp [List.filter_cons, hq, h b hq]; exact ih
    | false =>
      rw [List.filter_cons_of_neg (by simp [hq])]
      refine Nat.le_trans ih ?_
      rw [List.filter_cons]
      split <;> simp
theorem filter_lt {α : Type} {p q : α → Bool} (h : ∀ y, q y = true → p y = true) : ∀ {l : List α} {x : α}, x ∈ l → p x = true → q x = false → (l.filter q).length < (l.filter p).length
  | a :: l, x, hx, h1, h2 => by
    have le := filter_le h l
    rcases List.mem_cons.mp hx with rfl | hx
    · simp [List.filter_cons, h1, h2]; omega
    · have := filter_lt h hx h1 h2
      cases hq : q a with
      | true => simp [List.filter_cons, hq, h a hq]; exact this
      | false =>
        rw [List.filter_cons_of_neg (by simp [hq])]
        refine Nat.lt_of_lt_of_le this ?_
        rw [List.filter_cons]
        split <;> simp
theorem meas_lt {R : List (Str × List Rw)} {P : List Str} {asked : List Str} {w : Str} (h : w ∉ asked) : meas R (asked ++ [w]) (nxt R P w) < meas R asked (.later w) := by
  have le : leftN R (asked ++ [w]) ≤ leftN R asked := by
    unfold leftN
    exact filter_le (fun y hy => by simp at hy ⊢; exact hy.1) _
  by_cases hk : w ∈ R.map (·.1)
  · have : leftN R (asked ++ [w]) < leftN R asked := by
      unfold leftN
      exact filter_lt (fun y hy => by simp at hy ⊢; exact hy.1) hk (by simpa using h) (by simp)
    have m1 : meas R (asked ++ [w]) (nxt R P w) ≤ 2 * leftN R (asked ++ [w]) + 1 := by unfold meas; split <;> omega
    show _ < 2 * leftN R asked + 1
    omega
  · have e : nxt R P w = .non := by
      unfold nxt
      rw [own_key hk]; rfl
    rw [e]
    show 2 * leftN R (asked ++ [w]) < 2 * leftN R asked + 1
    omega
theorem atI_last {α : Type} (p : List α) (c : α) : atI (p ++ [c]) (-1) = some c := by
  unfold atI ixN
  rw [if_neg (by omega), if_pos (by simp; omega), show (-1 + (((p ++ [c]).length : Nat) : Int)).toNat = p.length by simp; omega]
  simp
@[simp] theorem d_non : (Dt.d Th.non : D) = .non := rfl
@[simp] theorem d_nm (s : Str) : (Dt.d (Th.nm s) : D) = .str s := rfl
@[simp] theorem d_later (s : Str) : (Dt.d (Th.later s) : D) = .tup [.str "later", .str s] := rfl
def RInv (d : D) (R : List (Str × List Rw)) (group : List Str) (word : Str) (st : Store) (n : Nat) (ρ : En) (st' : Store) : Prop :=
  st' = st ∧ ∃ asked t, Wk R (srt group) word asked t ∧ n = meas R asked t ∧ ρ = [.val d, .val (.str word), .val (.lst (group.map .str)), .val (.tup ((srt group).map .str)), .ml (asked.map fun w => stepD (own R w) (srt group) w), .ml (asked.map .str), .val (Dt.d t)]
theorem asked_le {R : List (Str × List Rw)} {P : List Str} {word : Str} {asked : List Str} {t : Th} (h : Wk R P word asked t) : asked.length ≤ 2 * R.length + 1 ∧ meas R asked t + asked.length ≤ 2 * R.length + 1 := by
  induction h with
  | nil =>
    have : leftN R [] ≤ R.length := by unfold leftN; refine Nat.le_trans (List.length_filter_le ..) (by simp)
    exact ⟨by simp, by simp [meas]; omega⟩
  | step h1 h2 ih =>
    have := meas_lt (R := R) (P := P) h2
    simp
    omega
theorem reason_ok {d : D} {R : List (Str × List Rw)} {group : List Str} {word : Str} {st : Store} {Q : D → Store → Prop} (hR : dOf (lkD st d) = some (dctD R)) (hO : ∀ p ∈ R, RsOk p.2) (hRl : R.length ≤ 1000) (hp : ∀ x ∈ group, okS x) (hz : group.length ≤ 1000) (hw : okS word)
    (k : ∀ asked t, Wk R (srt group) word asked t → Wdone asked t → Q (reasonD R (srt group) word asked t) st) : DOk (d_reason [d, .str word, .lst (group.map .str)] st) Q := by
  have hp' : ∀ x ∈ srt group, okS x := fun x hx => hp x (srt_mem.mp hx)
  have hz' : (srt group).length ≤ 1000 := by rw [(srt_perm group).length_eq]; exact hz
  unfold d_reason
  refine DOk_run ?_
  unfold b_reason
  simp [-dOf, -lkD, sortOk_strs, sort_strs]
  refine SOk_while (RInv d R group word st) ?_ _ _ _ ⟨rfl, [], .later word, .nil, rfl, rfl⟩
  rintro n ρ st' ⟨rfl, asked, t, hk, rfl, rfl⟩
  obtain ⟨kt, ka⟩ := hk.ok hO hw
  have hal : asked.length < sizeLine := by have := (asked_le hk).1; rw [sizeLine_eq]; omega
  unfold w_reason_1
  cases t with
  | non =>
    have := k asked .non hk (fun w h => by cases h)
    simp [-dOf, -lkD]
    exact this
  | nm s =>
    have := k asked (.nm s) hk (fun w h => by cases h)
    simp [-dOf, -lkD]
    exact this
  | later w =>
    by_cases hm : w ∈ asked
    · have := k asked (.later w) hk (fun w' h => by cases h; exact hm)
      simp [-dOf, -lkD, pIn_lst kt ka, hm]
      exact this
    · simp [-dOf, -lkD, pIn_lst kt ka, hm]
      unfold f_reason_2
      have e1 := step_for_eq (w := w) hR hO hp' hz'
      have e2 := step_thing_eq (st := st') (rs := own R w) (o := lastH (srt group) (own R w)) lastH_lt
      have fin : ∃ m, m < meas R asked (.later w) ∧ RInv d R group word st' m [.val d, .val (.str word), .val (.lst (group.map .str)), .val (.tup ((srt group).map .str)), .ml ((asked.map fun w => stepD (own R w) (srt group) w) ++ [stepD (own R w) (srt group) w]), .ml (asked.map .str ++ [.str w]), .val (Dt.d (nxt R (srt group) w))] st' :=
        ⟨_, meas_lt hm, rfl, asked ++ [w], nxt R (srt group) w, .step hk hm, rfl, by simp⟩
      unfold stepD at e1 fin
      unfold stepD
      simp [-dOf, -lkD, hal, atI_last, e1, hR, own_get, e2]
      exact fin
def ThN (ws ths : List Str) (t : Th) : Prop := t = .non ∨ (∃ v ∈ ws, t = .later v) ∨ ∃ x ∈ ths, t = .nm x
theorem at_get {α : Type} {l : List α} {v : Nat} (h : v < l.length) : ∃ x, l[v]? = some x ∧ x ∈ l := ⟨l[v], List.getElem?_eq_getElem h, List.getElem_mem h⟩
theorem eqI {v : Nat} {j : Int} : pEq (.int v) (.int j) = some (.bl (decide ((v : Int) = j))) := pEq_dt (α := Int) trivial trivial
theorem lawthing_ok {st : Store} {l : Nat} {ws ths : List Str} {Q : D → Store → Prop} (hb : Bag st l) (w0 : 0 < ws.length) (w1 : ws.length ≤ 1000) (t0 : 0 < ths.length) (t1 : ths.length ≤ 1000)
    (k : ∀ (t : Th) (st' : Store), ThN ws ths t → Bag st' l → Fr l st st' → Q (Dt.d t) st') : DOk (d__law_thing [.ref l, .lst (ws.map .str), .lst (ths.map .str)] st) Q := by
  have zw : ws.length ≤ sizeLine := sz _ (by omega)
  have zt : ths.length ≤ sizeLine := sz _ (by omega)
  have E : enter 4 [.ref l, .lst (ws.map .str), .lst (ths.map .str)] = [.val (.ref l), .val (.lst (ws.map .str)), .val (.lst (ths.map .str)), .no] := rfl
  unfold d__law_thing
  refine DOk_run ?_
  rw [E]
  unfold b__law_thing
  simp
  refine COk.of (take_ok hb (many := 6) (by decide) (by decide) fun v st1 hv hb1 F1 => ?_)
  have e0 := eqI (v := v) (j := 0)
  have e1 := eqI (v := v) (j := 1)
  by_cases h0 : v = 0
  · subst h0
    simp [e0]
    exact k .non st1 (.inl rfl) hb1 F1
  · have n0 : ¬ ((v : Int) = 0) := by omega
    by_cases h1 : v = 1
    · subst h1
      simp [e0, e1, zw]
      refine COk.of (take_ok hb1 w0 (by omega) fun u st2 hu hb2 F2 => ?_)
      obtain ⟨x, hx1, hx2⟩ := at_get (l := ws) hu
      simp [hx1]
      exact k (.later x) st2 (.inr (.inl ⟨x, hx2, rfl⟩)) hb2 (F1.trans F2)
    · have n1 : ¬ ((v : Int) = 1) := by omega
      simp [e0, e1, n0, n1, h0, h1, zt]
      refine COk.of (take_ok hb1 t0 (by omega) fun u st2 hu hb2 F2 => ?_)
      obtain ⟨x, hx1, hx2⟩ := at_get (l := ths) hu
      simp [hx1]
      exact k (.nm x) st2 (.inr (.inr ⟨x, hx2, rfl⟩)) hb2 (F1.trans F2)
def HeI (st0 : Store) (l : Nat) (ms : List Str) (way : Nat) (p : List Str) (ρ : En) (st : Store) : Prop := ∃ (lot : List Str) (a4 : Sl), ρ = [.val (.ref l), .val (.lst (ms.map .str)), .val (.int way), .ml (lot.map .str), a4] ∧ lot.Sublist p ∧ (way = 2 → lot = []) ∧ Bag st l ∧ Fr l st0 st
theorem hearers_ok {st : Store} {l : Nat} {ms : List Str} {Q : D → Store → Prop} (hb : Bag st l) (m0 : 0 < ms.length) (m1 : ms.length ≤ 1000) (nd : ms.Nodup)
    (k : ∀ (lot : List Str) (st' : Store), lot.Nodup → (∀ x ∈ lot, x ∈ ms) → Bag st' l → Fr l st st' → Q (.tup ((srt lot).map .str)) st') : DOk (d__law_hearers [.ref l, .lst (ms.map .str)] st) Q := by
  have zm : ms.length ≤ sizeLine := sz _ (by omega)
  have E : enter 5 [.ref l, .lst (ms.map .str)] = [.val (.ref l), .val (.lst (ms.map .str)), .no, .no, .no] := rfl
  unfold d__law_hearers
  refine DOk_run ?_
  rw [E]
  unfold b__law_hearers
  simp
  refine COk.of (take_ok hb (many := 4) (by decide) (by decide) fun way st1 hv hb1 F1 => ?_)
  simp
  refine SOk_forD (V := Q) D.str (HeI st l ms way) ms [] _ _ ⟨[], .no, rfl, List.Sublist.refl _, fun _ => rfl, hb1, F1⟩ ?_ ?_
  · rintro p x q ρ st2 hpq ⟨lot, a4, rfl, hs, hw, hb2, F2⟩
    refine ⟨_, rfl, ?_⟩
    have hx : x ∈ ms := by rw [show ms = p ++ x :: q from hpq]; simp
    have hl : lot.length < sizeLine := by
      have h1 := hs.length_le
      have h2 := congrArg List.length hpq
      simp at h2
      exact Nat.lt_of_le_of_lt (show lot.length ≤ 1000 by omega) (by decide)
    have e3 := eqI (v := way) (j := 3)
    have e2 := eqI (v := way) (j := 2)
    have grow : ∀ st3, Bag st3 l → Fr l st st3 → way ≠ 2 → HeI st l ms way (p ++ [x]) [.val (.ref l), .val (.lst (ms.map .str)), .val (.int way), .ml ((lot ++ [x]).map .str), .val (.str x)] st3 := fun st3 b f h => ⟨lot ++ [x], _, rfl, hs.append (List.Sublist.refl _), fun z => absurd z h, b, f⟩
    have stay : ∀ st3, Bag st3 l → Fr l st st3 → HeI st l ms way (p ++ [x]) [.val (.ref l), .val (.lst (ms.map .str)), .val (.int way), .ml (lot.map .str), .val (.str x)] st3 := fun st3 b f => ⟨lot, _, rfl, hs.trans (List.sublist_append_left _ _), hw, b, f⟩
    unfold f__law_hearers_1
    by_cases w3 : way = 3
    · subst w3
      simp [e3, hl]
      have := grow st2 hb2 F2 (by omega)
      simpa using this
    · have n3 : ¬ ((way : Int) = 3) := by omega
      by_cases w2 : way < 2
      · have n2 : (way : Int) < 2 := by omega
        simp [e3, n3, w3, n2]
        refine COk.of (take_ok hb2 (many := 3) (by decide) (by decide) fun u st3 hu hb3 F3 => ?_)
        by_cases hu2 : way < u
        · have nu : (way : Int) < (u : Int) := by omega
          simp [nu, hu2, hl]
          have := grow st3 hb3 (F2.trans F3) (by omega)
          simpa using this
        · have nu : ¬ (way : Int) < (u : Int) := by omega
          simp [nu, hu2]
          exact stay st3 hb3 (F2.trans F3)
      · have n2 : ¬ (way : Int) < 2 := by omega
        simp [e3, n3, w3, n2]
        exact stay st2 hb2 F2
  · rintro ρ st2 ⟨lot, a4, rfl, hs, hw, hb2, F2⟩
    simp only [List.nil_append] at hs
    have e2 := eqI (v := way) (j := 2)
    by_cases w2 : way = 2
    · have hlot := hw w2
      subst hlot
      subst w2
      simp [e2, zm]
      refine COk.of (take_ok hb2 m0 (by omega) fun u st3 hu hb3 F3 => ?_)
      obtain ⟨x, hx1, hx2⟩ := at_get (l := ms) hu
      have so := sortOk_strs [x]
      have ss := sort_strs [x]
      have z0 : 0 < sizeLine := by decide
      simp only [List.map_cons, List.map_nil] at so ss
      simp [hx1, z0, so, ss]
      have := k [x] st3 (by simp) (by simpa using hx2) hb3 (F2.trans F3)
      simpa using this
    · have n2 : ¬ ((way : Int) = 2) := by omega
      have so := sortOk_strs lot
      have ss := sort_strs lot
      simp [e2, n2, w2, so, ss]
      exact k lot st2 (nd.sublist hs) (fun x hx => hs.subset hx) hb2 F2
structure RwN (ws ths ms : List Str) (r : Rw) : Prop where
  th : ThN ws ths r.1
  nd : r.2.Nodup
  so : r.2.Pairwise (fun a b => sLe a b = true)
  sub : ∀ x ∈ r.2, x ∈ ms
theorem frz_th (t : Th) (st : Store) : frz (Dt.d t) st = some (Dt.d t, st) := by cases t <;> simp [Dt.d, frz, frzs]
theorem frzs_str : ∀ (l : List Str) (st : Store), frzs (l.map .str) st = some (l.map .str, st)
  | [], _ => rfl
  | x :: l, st => by simp [frzs, frz, frzs_str l st]
theorem frz_row (r : Rw) (st : Store) : frz (rowD r) st = some (rowD r, st) := by
  have h1 := frz_th r.1 st
  have h2 := frzs_str r.2 st
  simp [rowD, frz, frzs, h1, h2]
theorem frzs_rows : ∀ (rs : List Rw) (st : Store), frzs (rs.map rowD) st = some (rs.map rowD, st)
  | [], _ => rfl
  | r :: rs, st => by
    have h1 := frz_row r st
    have h2 := frzs_rows rs st
    simp [frzs, h1, h2]
theorem frzKs_dctD : ∀ (R : List (Str × List Rw)) (st : Store), frzKs (dctD R) st = some (dctD R, st)
  | [], _ => rfl
  | p :: R, st => by
    have h1 := frzs_rows p.2 st
    have h2 := frzKs_dctD R st
    unfold dctD at h2 ⊢
    simp only [rowsD] at h2
    simp [frzKs, rowsD, frz, h1, h2]
theorem putD_dctD {R : List (Str × List Rw)} {w : Str} {rs : List Rw} (h : w ∉ R.map (·.1)) : putD (dctD R) (.inr w) (rowsD rs) = dctD (R ++ [(w, rs)]) := by
  unfold putD dctD
  rw [if_neg, List.map_append]
  · rfl
  · rw [List.any_map, List.any_eq_true]
    rintro ⟨q, hq, e⟩
    simp at e
    exact h (List.mem_map.mpr ⟨q, hq, e⟩)
abbrev rwR (l m : Nat) (ws ths ms : List Str) (most : Nat) (a6 a7 a8 a9 : Sl) : En := [.val (.ref l), .val (.lst (ws.map .str)), .val (.lst (ths.map .str)), .val (.lst (ms.map .str)), .val (.int most), .val (.ref m), a6, a7, a8, a9]
def OwI (st0 : Store) (l m : Nat) (ws ths ms : List Str) (most : Nat) (R : List (Str × List Rw)) (w : Str) (q : Nat) (ρ : En) (st : Store) : Prop := ∃ (rs : List Rw) (a8 a9 : Sl), ρ = rwR l m ws ths ms most (.val (.str w)) (.ml (rs.map rowD)) a8 a9 ∧ rs.length = q ∧ (∀ r ∈ rs, RwN ws ths ms r) ∧ Bag st l ∧ Fr l st0 st ∧ st[m]? = some (.dct (dctD R))
def RoI (st0 : Store) (l m : Nat) (ws ths ms : List Str) (most : Nat) (p : List Str) (ρ : En) (st : Store) : Prop := ∃ (R : List (Str × List Rw)) (a6 a7 a8 a9 : Sl), ρ = rwR l m ws ths ms most a6 a7 a8 a9 ∧ (R.map (·.1)).Sublist p ∧ (∀ q ∈ R, q.2.length ≤ most ∧ ∀ r ∈ q.2, RwN ws ths ms r) ∧ Bag st l ∧ Fr l st0 st ∧ st[m]? = some (.dct (dctD R))
theorem rows_ok {st : Store} {l most : Nat} {ws ths ms : List Str} {Q : D → Store → Prop} (hb : Bag st l) (w0 : 0 < ws.length) (w1 : ws.length ≤ 1000) (wnd : ws.Nodup) (t0 : 0 < ths.length) (t1 : ths.length ≤ 1000) (m0 : 0 < ms.length) (m1 : ms.length ≤ 1000) (mnd : ms.Nodup) (hmost : most ≤ 1000)
    (k : ∀ (R : List (Str × List Rw)) (st' : Store), (R.map (·.1)).Sublist ws → (∀ q ∈ R, q.2.length ≤ most ∧ ∀ r ∈ q.2, RwN ws ths ms r) → Bag st' l → Fr l st st' → Q (.dlk (dctD R)) st') : DOk (d__law_rows [.ref l, .lst (ws.map .str), .lst (ths.map .str), .lst (ms.map .str), .int most] st) Q := by
  have E : enter 10 [.ref l, .lst (ws.map .str), .lst (ths.map .str), .lst (ms.map .str), .int most] = [.val (.ref l), .val (.lst (ws.map .str)), .val (.lst (ths.map .str)), .val (.lst (ms.map .str)), .val (.int most), .no, .no, .no, .no, .no] := rfl
  have hll : l < st.length := by
    obtain ⟨c, hl, _⟩ := hb
    exact (List.getElem?_eq_some_iff.mp hl).1
  have hba : Bag (st ++ [.dct []]) l := by
    obtain ⟨c, hl, h⟩ := hb
    exact ⟨c, by rw [List.getElem?_append_left hll]; exact hl, h⟩
  unfold d__law_rows
  refine DOk_run ?_
  rw [E]
  unfold b__law_rows
  simp
  refine SOk_forD (V := Q) D.str (RoI st l st.length ws ths ms most) ws [] _ _ ⟨[], .no, .no, .no, .no, rfl, by simp, by simp, hba, Fr.app _ _ _, by simp [dctD]⟩ ?_ ?_
  · rintro p w q ρ st1 hpq ⟨R, a6, a7, a8, a9, rfl, hs, hr, hb1, F1, hd⟩
    refine ⟨_, rfl, ?_⟩
    have hnew : w ∉ R.map (·.1) := fun z => by
      have h1 := hs.subset z
      have h2 : (p ++ w :: q).Nodup := hpq ▸ wnd
      exact (List.nodup_append.mp h2).2.2 w h1 w (by simp) rfl
    have hpl : p.length + 1 ≤ 1000 := by
      have := congrArg List.length hpq
      simp at this
      omega
    have hz : (dctD R).length < sizeLine := by
      have h1 := hs.length_le
      unfold dctD
      rw [List.length_map]
      rw [List.length_map] at h1
      exact Nat.lt_of_le_of_lt (show R.length ≤ 1000 by omega) (by decide)
    unfold f__law_rows_2
    simp
    have cst : ((most : Int) + 1) = ((most + 1 : Nat) : Int) := by omega
    rw [cst]
    refine COk.of (take_ok hb1 (many := most + 1) (by omega) (by omega) fun v st2 hv hb2 F2 => ?_)
    have rg : Rg (v : Int) := .of (by omega) (by omega)
    have lm : l ≠ st.length := by omega
    have hd2 : st2[st.length]? = some (.dct (dctD R)) := by rw [F2.2 _ (Ne.symm lm) (List.getElem?_eq_some_iff.mp hd).1]; exact hd
    simp [rg]
    refine SOk_rng v (OwI st l st.length ws ths ms most R w) ⟨[], a8, a9, rfl, rfl, by simp, hb2, F1.trans F2, hd2⟩ ?_ ?_
    · rintro j ρ st3 hj ⟨rs, b8, b9, rfl, hl, hn, hb3, F3, hd3⟩
      refine ⟨_, rfl, ?_⟩
      have hzl : rs.length < sizeLine := Nat.lt_of_le_of_lt (show rs.length ≤ 1000 by omega) (by decide)
      unfold f__law_rows_1
      simp
      refine COk.of (lawthing_ok hb3 w0 w1 t0 t1 fun t st4 ht hb4 F4 => ?_)
      simp
      refine COk.of (hearers_ok hb4 m0 m1 mnd fun lot st5 lnd lsub hb5 F5 => ?_)
      have hd5 : st5[st.length]? = some (.dct (dctD R)) := by
        have h4 : st4[st.length]? = some (.dct (dctD R)) := by rw [F4.2 _ (Ne.symm lm) (List.getElem?_eq_some_iff.mp hd3).1]; exact hd3
        rw [F5.2 _ (Ne.symm lm) (List.getElem?_eq_some_iff.mp h4).1]; exact h4
      simp [hzl]
      refine ⟨rs ++ [(t, srt lot)], _, _, by simp [rowD]; exact ⟨rfl, rfl⟩, by simp [hl], fun r hr' => ?_, hb5, F3.trans (F4.trans F5), hd5⟩
      rcases List.mem_append.mp hr' with z | z
      · exact hn r z
      · rw [List.mem_singleton.mp z]
        exact ⟨ht, srt_nodup lnd, srt_pw lot, fun x hx => lsub x (srt_mem.mp hx)⟩
    · rintro ρ st3 ⟨rs, b8, b9, rfl, hl, hn, hb3, F3, hd3⟩
      have put : ∀ st4, Bag st4 l → Fr l st st4 → st4[st.length]? = some (.dct (dctD R)) → RoI st l st.length ws ths ms most (p ++ [w]) (rwR l st.length ws ths ms most (.val (.str w)) (.val (.lst (rs.map rowD))) b8 b9) (st4.set st.length (.dct (dctD (R ++ [(w, rs)])))) := fun st4 b f d => by
        have hml := (List.getElem?_eq_some_iff.mp d).1
        refine ⟨R ++ [(w, rs)], _, _, _, _, rfl, ?_, fun x hx => ?_, ?_, ?_, by rw [List.getElem?_set_self hml]⟩
        · rw [List.map_append]; exact hs.append (List.Sublist.refl _)
        · rcases List.mem_append.mp hx with z | z
          · exact hr x z
          · rw [List.mem_singleton.mp z]; exact ⟨by simp only; omega, hn⟩
        · obtain ⟨c, hc, h⟩ := b
          exact ⟨c, by rw [List.getElem?_set_ne (Ne.symm lm)]; exact hc, h⟩
        · refine ⟨by rw [List.length_set]; exact f.1, fun k h1 h2 => ?_⟩
          rw [List.getElem?_set_ne (by omega)]
          exact f.2 k h1 h2
      have pe := putD_dctD (rs := rs) hnew
      unfold rowsD at pe
      cases rs with
      | nil =>
        simp
        refine COk.of (take_ok hb3 (many := 2) (by decide) (by decide) fun u st4 hu hb4 F4 => ?_)
        have e0 := eqI (v := u) (j := 0)
        have hd4 : st4[st.length]? = some (.dct (dctD R)) := by rw [F4.2 _ (Ne.symm lm) (List.getElem?_eq_some_iff.mp hd3).1]; exact hd3
        by_cases h0 : u = 0
        · subst h0
          have := put st4 hb4 (F3.trans F4) hd4
          simp only [List.map_nil] at pe this
          simp [e0, hd4, D.key, hz, pe]
          exact this
        · have n0 : ¬ ((u : Int) = 0) := by omega
          simp [e0, n0, h0]
          exact ⟨R, _, _, _, _, rfl, hs.trans (List.sublist_append_left _ _), hr, hb4, F3.trans F4, hd4⟩
      | cons r rs =>
        have := put st3 hb3 F3 hd3
        simp only [List.map_cons] at pe this
        simp [hd3, D.key, hz, pe]
        exact this
  · rintro ρ st1 ⟨R, a6, a7, a8, a9, rfl, hs, hr, hb1, F1, hd⟩
    have fz := frzKs_dctD R st1
    have lm : l ≠ st.length := by omega
    simp [hd, fz]
    refine k R _ (by simpa using hs) hr ?_ ?_
    · obtain ⟨c, hc, h⟩ := hb1
      exact ⟨c, by rw [List.getElem?_set_ne (Ne.symm lm)]; exact hc, h⟩
    · refine ⟨by rw [List.length_set]; exact F1.1, fun j h1 h2 => ?_⟩
      rw [List.getElem?_set_ne (by omega)]
      exact F1.2 j h1 h2
inductive AnyD : D → Prop
  | non : AnyD .non
  | bl (b : Bool) : AnyD (.bl b)
  | int (i : Int) : AnyD (.int i)
  | str {s : Str} : okS s → s.length ≤ 1000 → AnyD (.str s)
  | lst {ds : List D} : ds.length ≤ 60 → (∀ d ∈ ds, AnyD d) → AnyD (.lst ds)
  | tup {ds : List D} : ds.length ≤ 60 → (∀ d ∈ ds, AnyD d) → AnyD (.tup ds)
  | dct (kvs : List (Key × D)) : AnyD (.dct kvs)
open Classical in
noncomputable def isNm : D → Bool
  | .str s => decide (NameS s)
  | _ => false
theorem nameS_iff (s : Str) : NameS s ↔ 1 ≤ s.length ∧ s.length ≤ 8 ∧ ∀ c ∈ s.cps.toList, c ∈ LET.cps.toList := ⟨fun h => ⟨h.lo, h.hi, h.low⟩, fun ⟨a, b, c⟩ => ⟨a, b, c⟩⟩
theorem bools_map {α : Type} (p : α → Bool) : ∀ l : List α, bools (l.map fun x => D.bl (p x)) = some (l.map p)
  | [] => rfl
  | x :: l => by simp [bools, bools_map p l]
theorem seen_any {d : D} (h : AnyD d) (st : Store) : seen st (.val d) = some d := by cases h <;> rfl
theorem isNm_str {s : Str} : isNm (.str s) = (decide (1 ≤ s.length) && decide (s.length ≤ 8) && s.cps.toList.all fun c => decide (c ∈ LET.cps.toList)) := by
  unfold isNm
  rw [Bool.eq_iff_iff]
  simp only [decide_eq_true_eq, nameS_iff, Bool.and_eq_true, List.all_eq_true]
  exact ⟨fun ⟨a, b, c⟩ => ⟨⟨a, b⟩, c⟩, fun ⟨⟨a, b⟩, c⟩ => ⟨a, b, c⟩⟩
theorem is_name_any {d : D} (h : AnyD d) (st : Store) : d_is_name [d] st = .ok (.bl (isNm d)) [] st := by
  refine DOk.eq ?_
  unfold d_is_name
  refine DOk_run ?_
  unfold b_is_name
  cases h with
  | str ok hl =>
    rename_i s
    rw [isNm_str]
    have z1 : s.length ≤ sizeLine := by rw [sizeLine_eq]; omega
    have z2 : s.cps.size ≤ sizeLine := z1
    by_cases h1 : 1 ≤ s.length
    · by_cases h2 : s.length ≤ 8
      · have l1 : (1 : Int) ≤ (s.length : Int) := by omega
        have l2 : (s.length : Int) ≤ 8 := by omega
        simp [l1, l2, h1, h2, z1, z2]
        refine EOk_lcM (fun c => D.str ⟨#[c]⟩) (fun c => .bl (decide (c ∈ LET.cps.toList))) s.cps.toList (fun c hc => ⟨_, rfl, ?_⟩) ?_
        · have hi : pInX false (.str ⟨#[c]⟩) (.str ("abcdefghijklmnopqrstuvwxyz" : Str)) = some (.bl (decide (c ∈ LET.cps.toList))) := rfl
          simp [e_is_name_1, hi]
        · have := pAll_map s.cps.toList (fun c => decide (c ∈ LET.cps.toList))
          simp [this]
      · have l1 : (1 : Int) ≤ (s.length : Int) := by omega
        have l2 : ¬ (s.length : Int) ≤ 8 := by omega
        simp [l1, l2, h1, h2, z1, z2]
    · have l1 : ¬ (1 : Int) ≤ (s.length : Int) := by omega
      simp [l1, h1, z1, z2]
  | _ => simp [isNm, seen]
theorem lis_name_any {d : D} (h : AnyD d) (st : Store) : d__law_is_name [d] st = .ok (.bl (isNm d)) [] st := by
  refine DOk.eq ?_
  unfold d__law_is_name
  refine DOk_run ?_
  unfold b__law_is_name
  cases h with
  | str ok hl =>
    rename_i s
    rw [isNm_str]
    have z1 : s.length ≤ sizeLine := by rw [sizeLine_eq]; omega
    have z2 : s.cps.size ≤ sizeLine := z1
    by_cases h1 : 1 ≤ s.length
    · by_cases h2 : s.length ≤ 8
      · have l1 : ¬ (s.length : Int) < 1 := by omega
        have l2 : ¬ (8 : Int) < (s.length : Int) := by omega
        simp [l1, l2, h1, h2, z1, z2]
        refine EOk_lcP (fun c => D.str ⟨#[c]⟩) (fun c => !decide (c ∈ LET.cps.toList)) (fun c => D.str ⟨#[c]⟩) s.cps.toList [] (fun c hc => ⟨_, rfl, ?_⟩) ?_
        · have hi : pInX true (.str ⟨#[c]⟩) (.str ("abcdefghijklmnopqrstuvwxyz" : Str)) = some (.bl (!decide (c ∈ LET.cps.toList))) := rfl
          simp [t__law_is_name_1, hi]
        · simp
          rw [Bool.eq_iff_iff]
          simp [List.isEmpty_iff, List.filter_eq_nil_iff]
          exact ⟨fun h i hi => h _ (Array.getElem_mem hi), fun h a ha => by obtain ⟨i, hi, rfl⟩ := Array.getElem_of_mem ha; exact h i hi⟩
      · have l1 : ¬ (s.length : Int) < 1 := by omega
        have l2 : (8 : Int) < (s.length : Int) := by omega
        simp [l1, l2, h1, h2, z1, z2]
    · have l1 : (s.length : Int) < 1 := by omega
      simp [l1, h1, z1, z2]
  | _ => simp [isNm, seen]
open Classical in
noncomputable def grp56 : D → Option (List Str)
  | .tup ds => match strL ds with
    | some xs => if xs ≠ [] ∧ (∀ x ∈ xs, NameS x) ∧ sst xs = xs then some xs else none
    | none => none
  | _ => none
theorem strL_mapY : ∀ ys : List Str, strL (ys.map D.str) = some ys
  | [] => rfl
  | y :: ys => by simp [strL, strL_mapY ys]
theorem strL_inv : ∀ {ds : List D} {xs : List Str}, strL ds = some xs → ds = xs.map D.str
  | [], xs, h => by cases h; rfl
  | d :: ds, xs, h => by
    cases d with
    | str z =>
      simp only [strL, Option.map_eq_some_iff] at h
      obtain ⟨ys, e, rfl⟩ := h
      rw [strL_inv e]
      rfl
    | _ => simp [strL] at h
theorem all_nm : ∀ {ds : List D}, (ds.all isNm = true) → ∃ xs : List Str, ds = xs.map D.str ∧ ∀ x ∈ xs, NameS x
  | [], _ => ⟨[], rfl, fun x h => by cases h⟩
  | d :: ds, h => by
    rw [List.all_cons, Bool.and_eq_true] at h
    obtain ⟨xs, e, hx⟩ := all_nm h.2
    cases d with
    | str z =>
      have hz : NameS z := by have := h.1; unfold isNm at this; simpa using this
      exact ⟨z :: xs, by rw [e]; rfl, fun x hx' => by
        rcases List.mem_cons.mp hx' with rfl | hx'
        · exact hz
        · exact hx x hx'⟩
    | _ => cases h.1
open Classical in
theorem grp_not {ds : List D} (h : ds.all isNm = false) : grp56 (.tup ds) = none := by
  show (match strL ds with
    | some xs => if xs ≠ [] ∧ (∀ x ∈ xs, NameS x) ∧ sst xs = xs then some xs else none
    | none => none) = none
  cases e : strL ds with
  | none => rfl
  | some xs =>
    refine if_neg ?_
    rintro ⟨_, h2, _⟩
    rw [strL_inv e] at h
    have : ((xs.map D.str).all isNm) = true := List.all_eq_true.mpr fun d hd => by
      obtain ⟨x, hx, rfl⟩ := List.mem_map.mp hd
      unfold isNm
      simpa using h2 x hx
    rw [this] at h
    cases h
open Classical in
theorem grp_yes {xs : List Str} (h1 : xs ≠ []) (h2 : ∀ x ∈ xs, NameS x) : grp56 (.tup (xs.map .str)) = if sst xs = xs then some xs else none := by
  show (match strL (xs.map D.str) with
    | some xs => if xs ≠ [] ∧ (∀ x ∈ xs, NameS x) ∧ sst xs = xs then some xs else none
    | none => none) = _
  rw [strL_mapY]
  by_cases h : sst xs = xs
  · simp only [if_pos h]
    exact if_pos ⟨h1, h2, h⟩
  · simp only [if_neg h]
    exact if_neg fun ⟨_, _, h3⟩ => h h3
theorem pEqO_strs {a b : List Str} (ha : ∀ x ∈ a, okS x) (hb : ∀ x ∈ b, okS x) : pEqO (.lst (a.map .str)) (.lst (b.map .str)) = some (.bl (decide (a = b))) := by
  have sc : (b.map D.str).all isSc = true := List.all_eq_true.mpr fun d hd => by obtain ⟨x, _, rfl⟩ := List.mem_map.mp hd; rfl
  have one : ∀ x y : Str, okS x → okS y → eqAS (.str x) (.str y) = some (decide (x = y)) := fun x y hx hy => by
    have h : pEq (.str x) (.str y) = some (.bl (decide (x = y))) := pEq_dt (α := Str) hx hy
    unfold pEq at h
    unfold eqAS
    simp only [isSc, isCt, if_true, Bool.false_eq_true, if_false]
    cases e : pEqB (.str x) (.str y) with
    | none => rw [e] at h; cases h
    | some b => rw [e] at h; simpa using h
  have key : ∀ (a b : List Str), (∀ x ∈ a, okS x) → (∀ x ∈ b, okS x) → a.length = b.length → eqLS (a.map .str) (b.map .str) = some (decide (a = b)) := by
    intro a
    induction a with
    | nil => intro b _ _ hl; cases b with
      | nil => rfl
      | cons _ _ => cases hl
    | cons x a ih =>
      intro b ha hb hl
      cases b with
      | nil => cases hl
      | cons y b =>
        have h1 := one x y (ha x (List.mem_cons_self ..)) (hb y (List.mem_cons_self ..))
        have h2 := ih b (fun z hz => ha z (List.mem_cons_of_mem _ hz)) (fun z hz => hb z (List.mem_cons_of_mem _ hz)) (by simpa using hl)
        rw [List.map_cons, List.map_cons, eqLS, h1, h2]
        simp
  unfold pEqO pEqOB
  simp only
  rw [if_pos sc]
  by_cases hl : a.length = b.length
  · rw [if_pos (by simpa using hl), key a b ha hb hl]
    rfl
  · rw [if_neg (by simpa using hl)]
    have : a ≠ b := fun e => hl (by rw [e])
    simp [this]
theorem EOk_lcMi {g : DGx} {f : DEx} {vs : List Nat} {P : D → En → Store → Prop} {ρ : En} {st : Store} (r : D → D) (xs : List D)
    (h : ∀ x ∈ xs, ∃ ρ1, g x ρ = some ρ1 ∧ EOk (f ρ1 st) (k_lcb vs ρ st (r x))) (hd : P (.lst (xs.map r)) ρ st) : EOk (lcGo g yesD f vs xs [] ρ st) P := by
  have := EOk_lcM (fun d : D => d) r xs h hd
  rw [List.map_id'] at this
  exact this
theorem are_names_any {d : D} (h : AnyD d) (st : Store) : d_are_names [d] st = .ok (.bl (grp56 d).isSome) [] st := by
  refine DOk.eq ?_
  unfold d_are_names
  refine DOk_run ?_
  unfold b_are_names
  cases h with
  | tup hl ha =>
    rename_i ds
    have z1 : ds.length ≤ sizeLine := by rw [sizeLine_eq]; omega
    have e0 : pEqO (.int (ds.length : Int)) (.int 0) = some (.bl (decide (ds.length = 0))) := by
      have h : pEq (.int (ds.length : Int)) (.int 0) = some (.bl (decide ((ds.length : Int) = 0))) := pEq_dt (α := Int) trivial trivial
      have e : pEqO (.int (ds.length : Int)) (.int 0) = pEq (.int (ds.length : Int)) (.int 0) := rfl
      rw [e, h]
      congr 2
      exact decide_eq_decide.mpr (by omega)
    by_cases hn : ds.length = 0
    · have : ds = [] := List.eq_nil_of_length_eq_zero hn
      subst this
      have e00 : pEqO (.int 0) (.int 0) = some (.bl true) := by
        have h : pEq (.int 0) (.int 0) = some (.bl (decide ((0 : Int) = 0))) := pEq_dt (α := Int) trivial trivial
        exact h
      simp [e00, grp56, strL]
    · simp [e0, hn, z1]
      refine EOk_lcMi (fun d => .bl (isNm d)) ds (fun d hd => ⟨_, rfl, ?_⟩) ?_
      · simp [e_are_names_1, is_name_any (ha d hd)]
      · have := pAll_map ds isNm
        simp [this]
        by_cases hall : ds.all isNm = true
        · obtain ⟨xs, e, hx⟩ := all_nm hall
          subst e
          have hne : xs ≠ [] := fun e => hn (by rw [e]; rfl)
          rw [grp_yes hne hx]
          have l64 : xs.length < 64 := by simp at hl; omega
          have eq := pEqO_strs (a := xs) (b := sst xs) (fun x h => (hx x h).ok) (fun x h => (hx x (sst_mem.mp h)).ok)
          have hnm : ∀ x ∈ xs, isNm (.str x) = true := fun x h => by unfold isNm; simpa using hx x h
          simp [strL_mapY, l64, eq]
          try (refine ⟨fun h => ?_, fun _ => ?_⟩)
          by_cases h : sst xs = xs
          · simp [h]
            exact hnm
          · have h' : ¬ xs = sst xs := fun e => h e.symm
            simp [h, h']
        · have hall : ds.all isNm = false := by simpa using hall
          rw [grp_not hall]
          simp
          intro h
          have : ds.all isNm = true := List.all_eq_true.mpr h
          rw [hall] at this
          cases this
  | _ => simp [grp56]
theorem pGe_str (a b : Str) : pGeX (.str a) (.str b) = some (.bl (sLe b a)) := by
  simp [ordB, D.py, PySem.W.alike, PyData.depth]
  have : sLe b a = !PySem.W.dataLt (.str a) (.str b) := rfl
  rw [this, Bool.not_not]
theorem asc_pair {xs : List Str} (h : sst xs = xs) {k : Nat} (hk : k + 1 < xs.length) : sLe xs[k + 1] xs[k] = false := by
  have pw := sst_pw xs
  have nd := sst_nodup xs
  rw [h] at pw nd
  cases e : sLe xs[k + 1] xs[k] with
  | false => rfl
  | true =>
    have h1 := List.pairwise_iff_getElem.mp pw k (k + 1) (by omega) hk (by omega)
    have h2 := List.pairwise_iff_getElem.mp nd k (k + 1) (by omega) hk (by omega)
    exact absurd (sLe_anti _ _ h1 e) h2
theorem asc_all : ∀ {xs : List Str}, (∀ k (hk : k + 1 < xs.length), sLe xs[k + 1] xs[k] = false) → xs.Pairwise (fun a b => sLe b a = false)
  | [], _ => .nil
  | [x], _ => List.pairwise_singleton _ _
  | x :: y :: xs, h => by
    have ih := asc_all (xs := y :: xs) fun k hk => by
      have := h (k + 1) (by simpa using hk)
      simpa using this
    have h0 : sLe y x = false := by have := h 0 (by simp); simpa using this
    refine List.pairwise_cons.mpr ⟨fun z hz => ?_, ih⟩
    rcases List.mem_cons.mp hz with rfl | hz
    · exact h0
    · have h1 := (List.pairwise_cons.mp ih).1 z hz
      cases e : sLe z x with
      | false => rfl
      | true =>
        have t := sLe_total
        have xy : sLe x y = true := by
          have := t.total x y
          rw [h0] at this
          simpa using this
        have := t.trans z x y e xy
        rw [h1] at this
        cases this
theorem asc_sst {xs : List Str} (h : ∀ k (hk : k + 1 < xs.length), sLe xs[k + 1] xs[k] = false) : sst xs = xs := by
  have p := asc_all h
  refine sst_id ?_ ?_
  · refine p.imp fun {a b} hab e => ?_
    subst e
    have := sLe_total.total a a
    rw [hab] at this
    simp at this
  · refine p.imp fun {a b} hab => ?_
    have := sLe_total.total a b
    rw [hab] at this
    simpa using this
theorem lare_names_any {d : D} (h : AnyD d) (st : Store) : d__law_are_names [d] st = .ok (.bl (grp56 d).isSome) [] st := by
  refine DOk.eq ?_
  unfold d__law_are_names
  refine DOk_run ?_
  unfold b__law_are_names
  cases h with
  | tup hl ha =>
    rename_i ds
    have e0 : pEqO (.tup ds) (.tup []) = some (.bl ds.isEmpty) := rfl
    cases ds with
    | nil =>
      simp [e0, grp56, strL]
    | cons d0 ds0 =>
      have r1 : Rg ((((d0 :: ds0).length : Nat)) : Int) := .of (by omega) (by simp at hl ⊢; omega)
      generalize hds : d0 :: ds0 = ds at *
      have hne : ds ≠ [] := by rw [← hds]; simp
      have e1 : pEqO (.tup ds) (.tup []) = some (.bl false) := by rw [e0, ← hds]; rfl
      simp [e1, r1]
      refine SOk_rng ds.length (fun q ρ st' => st' = st ∧ ∃ x1, ρ = [.val (.tup ds), x1] ∧ (∀ j (hj : j < ds.length), j < q → isNm ds[j] = true) ∧ ∀ j (hj : j + 1 < ds.length), j + 1 < q → ∀ a b, ds[j] = .str a → ds[j + 1] = .str b → sLe b a = false) ⟨rfl, _, rfl, by omega, by omega⟩ ?_ ?_
      · rintro q ρ st' hq ⟨rfl, x1, rfl, h1, h2⟩
        refine ⟨_, rfl, ?_⟩
        unfold f__law_are_names_1
        have hq' : q < ds.length := hq
        have ix : ds[q]? = some ds[q] := List.getElem?_eq_getElem hq
        have nm := lis_name_any (ha ds[q] (List.getElem_mem hq)) st'
        simp [ix, nm]
        cases en : isNm ds[q] with
        | false =>
          have : ds.all isNm = false := by
            cases e : ds.all isNm with
            | false => rfl
            | true => rw [List.all_eq_true.mp e _ (List.getElem_mem hq)] at en; cases en
          simp [grp_not this]
        | true =>
          by_cases q0 : q = 0
          · subst q0
            simp
            intro j hj e
            subst e
            exact en
          · obtain ⟨p, rfl⟩ : ∃ p, q = p + 1 := ⟨q - 1, by omega⟩
            have hp := h1 p (by omega) (by omega)
            obtain ⟨z, hz⟩ : ∃ z, ds[p + 1] = .str z := by
              cases e : ds[p + 1] with
              | str z => exact ⟨z, rfl⟩
              | _ => rw [e] at en; cases en
            obtain ⟨y, hy⟩ : ∃ y, ds[p]'(by omega) = .str y := by
              cases e : ds[p]'(by omega) with
              | str z => exact ⟨z, rfl⟩
              | _ => rw [e] at hp; cases hp
            have ix1 : ds[p]? = some (.str y) := by rw [List.getElem?_eq_getElem (by omega), hy]
            have ix2 : ds[p + 1]? = some (.str z) := by rw [ix, hz]
            have cst1 : ((p : Int) + 1) = ((p + 1 : Nat) : Int) := by omega
            have ge : ordB (fun d e => !PySem.W.dataLt d e) (.str y) (.str z) = some (.bl (sLe z y)) := pGe_str y z
            have ix3 : atI ds ((p : Int) + 1) = some (.str z) := by rw [cst1, DL.atI_nat, ix2]
            simp [ix1, ix3, ge]
            cases es : sLe z y with
            | true =>
              have gn : grp56 (.tup ds) = none := by
                cases hall : ds.all isNm with
                | false => exact grp_not hall
                | true =>
                  obtain ⟨xs, e, hx⟩ := all_nm hall
                  subst e
                  rw [grp_yes (fun e => hne (by rw [e]; rfl)) hx]
                  refine if_neg fun as => ?_
                  have := asc_pair as (k := p) (by simpa using hq)
                  simp at hy hz
                  rw [hy, hz, es] at this
                  cases this
              simp [gn]
            | false =>
              simp [es]
              refine ⟨fun j hj hjq => ?_, fun j hj hjq a b ha' hb' => ?_⟩
              · by_cases e : j = p + 1
                · subst e; exact en
                · exact h1 j hj (by omega)
              · by_cases e : j = p
                · subst e
                  rw [hy] at ha'; rw [hz] at hb'
                  cases ha'; cases hb'
                  exact es
                · exact h2 j hj (by omega) a b ha' hb'
      · rintro ρ st' ⟨rfl, x1, rfl, h1, h2⟩
        have hall : ds.all isNm = true := List.all_eq_true.mpr fun d hd => by
          obtain ⟨j, hj, rfl⟩ := List.getElem_of_mem hd
          exact h1 j hj hj
        obtain ⟨xs, e, hx⟩ := all_nm hall
        subst e
        have hne' : xs ≠ [] := fun e => hne (by rw [e]; rfl)
        have as : sst xs = xs := asc_sst fun k hk => h2 k (by simpa using hk) (by simpa using hk) _ _ (by simp) (by simp)
        simp [grp_yes hne' hx, as]
  | _ => simp [grp56]
def isS (w : Str) : D → Bool
  | .str s => decide (s = w)
  | _ => false
def isI (k : Int) : D → Bool
  | .int j => decide (j = k)
  | .bl b => decide ((if b then (1 : Int) else 0) = k)
  | _ => false
def inG (P : List Str) : D → Bool
  | .str p => decide (p ∈ P)
  | _ => false
theorem eqAS_str {d : D} (h : AnyD d) {w : Str} (hw : okS w) : eqAS d (.str w) = some (isS w d) := by
  have sw : SeqAt.shaped (.str w) = true := by
    unfold SeqAt.shaped
    rw [Bool.and_eq_true]
    exact ⟨okS_lay hw, decide_eq_true (by simp [PyData.depth])⟩
  cases h with
  | str ok hl =>
    rename_i s
    have ss : SeqAt.shaped (.str s) = true := by
      unfold SeqAt.shaped
      rw [Bool.and_eq_true]
      exact ⟨okS_lay ok, decide_eq_true (by simp [PyData.depth])⟩
    have e : PyData.eqv (.str s) (.str w) = decide (s = w) := Dt.eqv (α := Str) s w
    simp [eqAS, isSc, isCt, pEqB, D.py, ss, sw, isS, e]
  | _ => first | (simp [eqAS, isSc, isCt, pEqB, D.py, isS, sw, PyData.eqv]; rfl) | simp [eqAS, isSc, isCt, pEqB, D.py, isS, sw, PyData.eqv]
theorem eqAS_int {d : D} (h : AnyD d) (k : Int) : eqAS d (.int k) = some (isI k d) := by
  have sw : SeqAt.shaped (.int k) = true := rfl
  cases h with
  | str ok hl =>
    rename_i s
    have ss : SeqAt.shaped (.str s) = true := by
      unfold SeqAt.shaped
      rw [Bool.and_eq_true]
      exact ⟨okS_lay ok, decide_eq_true (by simp [PyData.depth])⟩
    simp [eqAS, isSc, isCt, pEqB, D.py, ss, sw, isI, PyData.eqv]
  | bl b => cases b <;> simp [eqAS, isSc, isCt, pEqB, D.py, isI, sw, PyData.eqv, show SeqAt.shaped (.bool true) = true from rfl, show SeqAt.shaped (.bool false) = true from rfl] <;> (rw [Bool.eq_iff_iff]; simp)
  | int i =>
    have si : SeqAt.shaped (.int i) = true := rfl
    simp [eqAS, isSc, isCt, pEqB, D.py, isI, sw, si, PyData.eqv]
    try (rw [Bool.eq_iff_iff]; simp)
  | non =>
    have si : SeqAt.shaped .none = true := rfl
    simp [eqAS, isSc, isCt, pEqB, D.py, isI, sw, si, PyData.eqv]
  | _ => simp [eqAS, isSc, isCt, isI]
theorem pEqO_sc {d e : D} {b : Bool} (hs : isSc e = true) (h : eqAS d e = some b) : pEqO d e = some (.bl b) ∧ pNeO d e = some (.bl (!b)) := by
  have key : pEqOB d e = some b := by
    unfold eqAS at h
    rw [if_pos hs] at h
    have g : pEqOB d e = if isCt d ∧ isSc e then some false else pEqB d e := by
      unfold pEqOB
      split
      · cases hs
      · cases hs
      · rfl
    rw [g]
    split at h
    · rename_i hc
      rw [if_pos ⟨hc, hs⟩]
      exact h
    · rename_i hc
      rw [if_neg fun x => hc x.1]
      split at h
      · exact h
      · cases h
  unfold pEqO pNeO
  rw [key]
  exact ⟨rfl, rfl⟩
theorem neO_str {d : D} (h : AnyD d) {w : Str} (hw : okS w) : pNeO d (.str w) = some (.bl (!isS w d)) := (pEqO_sc rfl (eqAS_str h hw)).2
theorem eqO_str {d : D} (h : AnyD d) {w : Str} (hw : okS w) : pEqO d (.str w) = some (.bl (isS w d)) := (pEqO_sc rfl (eqAS_str h hw)).1
theorem neO_int {d : D} (h : AnyD d) (k : Int) : pNeO d (.int k) = some (.bl (!isI k d)) := (pEqO_sc rfl (eqAS_int h k)).2
theorem eqO_non {d : D} (h : AnyD d) : pEqO d .non = some (.bl (match d with | .non => true | _ => false)) := by
  refine (pEqO_sc rfl ?_).1
  cases h with
  | str ok hl =>
    rename_i s
    have ss : SeqAt.shaped (.str s) = true := by
      unfold SeqAt.shaped
      rw [Bool.and_eq_true]
      exact ⟨okS_lay ok, decide_eq_true (by simp [PyData.depth])⟩
    simp [eqAS, isSc, isCt, pEqB, D.py, ss, show SeqAt.shaped .none = true from rfl, PyData.eqv]
  | int i => simp [eqAS, isSc, isCt, pEqB, D.py, show SeqAt.shaped (.int i) = true from rfl, show SeqAt.shaped .none = true from rfl, PyData.eqv]
  | bl b => cases b <;> simp [eqAS, isSc, isCt, pEqB, D.py, show SeqAt.shaped (.bool true) = true from rfl, show SeqAt.shaped (.bool false) = true from rfl, show SeqAt.shaped .none = true from rfl, PyData.eqv]
  | non => simp [eqAS, isSc, isCt, pEqB, D.py, show SeqAt.shaped .none = true from rfl, PyData.eqv]
  | _ => simp [eqAS, isSc, isCt]
theorem strs_shapedZ {zs : List Str} (h : ∀ z ∈ zs, okS z) : pyAll (zs.map D.str) = some (zs.map .str) ∧ SeqAt.shaped (.list (zs.map .str)) = true := by
  constructor
  · induction zs with
    | nil => rfl
    | cons z zs ih =>
      have := ih fun y hy => h y (List.mem_cons_of_mem _ hy)
      simp [pyAll, D.py, this]
  · have l : PyData.canLayAll0 (zs.map PyData.str) = true := by
      induction zs with
      | nil => rfl
      | cons z zs ih =>
        rw [List.map_cons]
        unfold PyData.canLayAll0
        rw [okS_lay (h z (List.mem_cons_self ..)), ih fun y hy => h y (List.mem_cons_of_mem _ hy)]
        rfl
    have d : PyData.depthAll (zs.map PyData.str) ≤ 1 := by
      clear l h
      induction zs with
      | nil => simp [PyData.depthAll]
      | cons z zs ih =>
        simp only [List.map_cons, PyData.depthAll, PyData.depth]
        omega
    unfold SeqAt.shaped
    rw [Bool.and_eq_true]
    refine ⟨l, decide_eq_true ?_⟩
    simp only [PyData.depth]
    omega
theorem inO_any (n : Bool) {d : D} (h : AnyD d) {P : List Str} (hP : ∀ x ∈ P, okS x) : pInO n d (.tup (P.map .str)) = some (.bl (if n then !inG P d else inG P d)) := by
  have as : (P.map D.str).all isStr = true := List.all_eq_true.mpr fun d hd => by obtain ⟨x, _, rfl⟩ := List.mem_map.mp hd; rfl
  obtain ⟨py, sh⟩ := strs_shapedZ hP
  have ct : isCt d = true → pInO n d (.tup (P.map .str)) = some (.bl n) := fun hc => by
    unfold pInO
    simp only
    rw [if_pos ⟨hc, as⟩]
  have no : isCt d = false → pInO n d (.tup (P.map .str)) = pInX n d (.tup (P.map .str)) := fun hc => by
    unfold pInO
    simp only
    rw [if_neg (by rw [hc]; simp)]
  have f : ∀ q : PyData, (∀ z, PyData.eqv (.str z) q = false) → ((P.map PyData.str).any fun z => PyData.eqv z q) = false := fun q hq => by
    rw [List.any_eq_false]
    intro z hz
    obtain ⟨y, _, rfl⟩ := List.mem_map.mp hz
    rw [hq]; simp
  cases h with
  | str ok hl =>
    rw [no rfl, pIn_tup ok hP]
    rfl
  | non => rw [no rfl]; simp [pInX, pInB, D.py, py, sh, show SeqAt.shaped .none = true from rfl, f .none (fun z => by simp [PyData.eqv]), inG]
  | bl b => rw [no rfl]; cases b <;> simp [pInX, pInB, D.py, py, sh, show SeqAt.shaped (.bool true) = true from rfl, show SeqAt.shaped (.bool false) = true from rfl, f (.bool true) (fun z => by simp [PyData.eqv]), f (.bool false) (fun z => by simp [PyData.eqv]), inG]
  | int i => rw [no rfl]; simp [pInX, pInB, D.py, py, sh, show SeqAt.shaped (.int i) = true from rfl, f (.int i) (fun z => by simp [PyData.eqv]), inG]
  | lst _ _ => rw [ct rfl]; cases n <;> rfl
  | tup _ _ => rw [ct rfl]; cases n <;> rfl
  | dct _ => rw [ct rfl]; cases n <;> rfl
theorem eqLS_ints : ∀ {ds : List D} {ms : List Nat}, (∀ d ∈ ds, AnyD d) → ds.length = ms.length → eqLS ds (ms.map fun m : Nat => D.int (m : Int)) = some ((ds.zip ms).all fun p => isI (p.2 : Int) p.1)
  | [], [], _, _ => rfl
  | [], _ :: _, _, h => by cases h
  | _ :: _, [], _, h => by cases h
  | d :: ds, m :: ms, ha, hl => by
    have ih := eqLS_ints (ds := ds) (ms := ms) (fun x hx => ha x (List.mem_cons_of_mem _ hx)) (by simpa using hl)
    rw [List.map_cons, eqLS, eqAS_int (ha d (List.mem_cons_self ..)), ih]
    simp
theorem pEqO_ints {ds : List D} {ms : List Nat} (ha : ∀ d ∈ ds, AnyD d) : pEqO (.lst ds) (.lst (ms.map fun m : Nat => D.int (m : Int))) = some (.bl (decide (ds.length = ms.length) && (ds.zip ms).all fun p => isI (p.2 : Int) p.1)) := by
  have sc : (ms.map fun m : Nat => D.int (m : Int)).all isSc = true := List.all_eq_true.mpr fun d hd => by obtain ⟨x, _, rfl⟩ := List.mem_map.mp hd; rfl
  unfold pEqO pEqOB
  simp only
  rw [if_pos sc]
  by_cases hl : ds.length = ms.length
  · rw [if_pos (by simpa using hl), eqLS_ints ha hl]
    simp [hl]
  · rw [if_neg (by simpa using hl)]
    simp [hl]
@[simp] def k_chb (p p' : D → D → Option D) (h : DEx) (P : D → En → Store → Prop) (d e : D) (ρ : En) (st : Store) : Prop := EOk (match p d e with
  | some (.bl true) => (h ρ st).bind fun z ρ st => match p' e z with
    | some y => .ok y ρ st
    | none => .bad
  | some (.bl false) => .ok (.bl false) ρ st
  | _ => .bad) P
@[simp] def k_cha (p p' : D → D → Option D) (g h : DEx) (P : D → En → Store → Prop) (d : D) (ρ : En) (st : Store) : Prop := EOk (g ρ st) (k_chb p p' h P d)
@[simp ↓] theorem EOk_chain {p p' : D → D → Option D} {f g h : DEx} {ρ : En} {st : Store} {P : D → En → Store → Prop} : EOk (chainD p p' f g h ρ st) P ↔ EOk (f ρ st) (k_cha p p' g h P) :=
  (EOk_bind _ _).trans ⟨fun z => z.mono fun _ _ _ => (EOk_bind _ _).mp, fun z => z.mono fun _ _ _ => (EOk_bind _ _).mpr⟩
def idxOk (n : Nat) : D → Bool
  | .int i => decide (0 ≤ i) && decide (i < (n : Int))
  | _ => false
def tupN (n : Nat) : D → Bool
  | .tup ds => decide (ds.length = n)
  | _ => false
def natI : D → Nat
  | .int i => i.toNat
  | _ => 0
def perOk (rs : List Rw) (P : List Str) (q : D × D) : Bool := idxOk rs.length q.1 && (inG P q.2 && !inG (heAt rs (natI q.1)) q.2)
def pT (q : D × D) : D := .tup [q.1, q.2]
theorem is_index_any {d : D} (h : AnyD d) (n : Nat) (st : Store) : d_is_index [d, .int (n : Int)] st = .ok (.bl (idxOk n d)) [] st := by
  refine DOk.eq ?_
  unfold d_is_index
  refine DOk_run ?_
  unfold b_is_index
  cases h with
  | int i =>
    by_cases h1 : 0 ≤ i
    · by_cases h2 : i < (n : Int)
      · simp [idxOk, h1, h2]
      · simp [idxOk, h1, h2]
    · simp [idxOk, h1]
  | _ => simp [idxOk, seen]
theorem is_tup_any {d : D} (h : AnyD d) (n : Nat) (st : Store) : d_is_tuple_of [d, .int (n : Int)] st = .ok (.bl (tupN n d)) [] st := by
  refine DOk.eq ?_
  unfold d_is_tuple_of
  refine DOk_run ?_
  unfold b_is_tuple_of
  cases h with
  | tup hl ha => simp [tupN]; omega
  | _ => simp [tupN, seen]
theorem heAt_rows {rs : List Rw} (ho : RsOk rs) {i : Nat} : ∀ x ∈ heAt rs i, okS x := by
  intro x hx
  unfold heAt at hx
  cases e : rs[i]? with
  | none => rw [e] at hx; cases hx
  | some r => rw [e] at hx; exact (ho.ok r (List.mem_of_getElem? e)).he x hx
theorem absent_hold_any {rs : List Rw} {P : List Str} {qs : List (D × D)} {st : Store} (ho : RsOk rs) (hp : ∀ x ∈ P, okS x) (ha : ∀ q ∈ qs, AnyD q.1 ∧ AnyD q.2) : d_absent_hold [rowsD rs, .tup (P.map .str), .lst (qs.map pT)] st = .ok (.bl (qs.all (perOk rs P))) [] st := by
  refine DOk.eq ?_
  unfold d_absent_hold
  refine DOk_run ?_
  unfold b_absent_hold
  simp
  refine SOk_each pT qs (fun q ρ st' => st' = st ∧ ((qs.take q).all (perOk rs P) = true) ∧ ∃ x3 x4, ρ = [.val (rowsD rs), .val (.tup (P.map .str)), .val (.lst (qs.map pT)), x3, x4]) ⟨rfl, by simp, _, _, rfl⟩ ?_ ?_
  · rintro q p ρ st' hq ⟨rfl, hB, x3, x4, rfl⟩
    obtain ⟨i, n⟩ := p
    have hm := List.mem_of_getElem? hq
    obtain ⟨h1, h2⟩ := ha _ hm
    refine ⟨_, rfl, ?_⟩
    have e3 := is_index_any h1 rs.length st'
    have hta : qs.take (q + 1) = qs.take q ++ [(i, n)] := by rw [List.take_add_one, hq]; rfl
    have hno : perOk rs P (i, n) = false → qs.all (perOk rs P) = false := fun h => List.all_eq_false.mpr ⟨(i, n), hm, by rw [h]; simp⟩
    unfold f_absent_hold_1 rowsD
    cases hi : idxOk rs.length i with
    | false =>
      have := hno (by simp [perOk, hi])
      simp [e3, hi, this]
    | true =>
      obtain ⟨j, rfl, hj⟩ : ∃ j : Nat, i = .int (j : Int) ∧ j < rs.length := by
        cases i with
        | int k =>
          simp [idxOk] at hi
          exact ⟨k.toNat, by rw [Int.toNat_of_nonneg hi.1], by omega⟩
        | _ => cases hi
      have e2 : heAt rs j = rs[j].2 := by simp [heAt, hj]
      have p1 := inO_any true h2 hp
      have p2 := inO_any false h2 (heAt_rows ho (i := j))
      rw [e2] at p2
      simp at p1 p2
      have pk : perOk rs P (.int (j : Int), n) = (inG P n && !inG rs[j].2 n) := by
        show (idxOk rs.length (.int (j : Int)) && (inG P n && !inG (heAt rs ((j : Int)).toNat) n)) = _
        rw [hi, Int.toNat_natCast, e2]
        rfl
      cases hg : inG P n with
      | false =>
        have := hno (by rw [pk, hg]; rfl)
        simp [e3, hi, hj, rowD, p1, p2, hg, this]
      | true =>
        cases hh : inG rs[j].2 n with
        | true =>
          have := hno (by rw [pk, hg, hh]; rfl)
          simp [e3, hi, hj, rowD, p1, p2, hg, hh, this]
        | false =>
          have pk' : perOk rs P (.int (j : Int), n) = true := by rw [pk, hg, hh]; rfl
          have fin : (qs.take (q + 1)).all (perOk rs P) = true := by rw [hta, List.all_append, hB]; simp [pk']
          simp [e3, hi, hj, rowD, p1, p2, hg, hh]
          exact fun a b => List.all_eq_true.mp fin (a, b)
  · rintro ρ st' ⟨rfl, hB, x3, x4, rfl⟩
    rw [List.take_length] at hB
    simp [hB]
def isNon : D → Bool
  | .non => true
  | _ => false
def pairOk (rs : List Rw) (P : List Str) (m : Nat) : D → Bool
  | .tup [.int i, p] => decide (i = (m : Int)) && (inG P p && !inG (heAt rs m) p)
  | _ => false
def absB (rs : List Rw) (P : List Str) (o : Option Nat) : D → Bool
  | .lst ds => decide (ds.length = (toMiss rs o).length) && (ds.zip (toMiss rs o)).all fun p => pairOk rs P p.2 p.1
  | _ => false
def stepC (rs : List Rw) (P : List Str) (ab : D) : D → Bool
  | .non => absB rs P none ab
  | .int i => (decide (0 ≤ i) && decide (i < (rs.length : Int))) && ((P.all fun p => decide (p ∈ heAt rs i.toNat)) && absB rs P (some i.toNat) ab)
  | _ => false
theorem toMiss_lt {rs : List Rw} {o : Option Nat} (h : ∀ i, o = some i → i < rs.length) {m : Nat} (hm : m ∈ toMiss rs o) : m < rs.length := by
  unfold toMiss at hm
  simp only [List.mem_filter, List.mem_map, List.mem_range] at hm
  obtain ⟨⟨k, hk, rfl⟩, _⟩ := hm
  have : firstAt o ≤ rs.length := by cases o with
    | none => simp [firstAt]
    | some i => exact h i rfl
  omega
theorem pair_one {rs : List Rw} {P : List Str} {m : Nat} (hm : m < rs.length) (i p : D) : (isI (m : Int) i && perOk rs P (i, p)) = pairOk rs P m (.tup [i, p]) := by
  cases i with
  | int j =>
    show (decide (j = (m : Int)) && ((decide (0 ≤ j) && decide (j < (rs.length : Int))) && (inG P p && !inG (heAt rs j.toNat) p))) = (decide (j = (m : Int)) && (inG P p && !inG (heAt rs m) p))
    by_cases h : j = (m : Int)
    · subst h
      have h1 : (0 : Int) ≤ (m : Int) := by omega
      have h2 : (m : Int) < (rs.length : Int) := by omega
      simp [h1, h2]
    · simp [h]
  | bl b => simp [perOk, idxOk, pairOk]
  | _ => simp [isI, pairOk]
theorem pair_all {rs : List Rw} {P : List Str} : ∀ (qs : List (D × D)) (M : List Nat), (∀ m ∈ M, m < rs.length) → qs.length = M.length → ((((qs.map (·.1)).zip M).all fun p => isI (p.2 : Int) p.1) && qs.all (perOk rs P)) = ((qs.map pT).zip M).all fun p => pairOk rs P p.2 p.1
  | [], [], _, _ => rfl
  | [], _ :: _, _, h => by cases h
  | _ :: _, [], _, h => by cases h
  | (i, p) :: qs, m :: M, hM, hl => by
    have ih := pair_all (P := P) qs M (fun x hx => hM x (List.mem_cons_of_mem _ hx)) (by simpa using hl)
    have one := pair_one (P := P) (hM m (List.mem_cons_self ..)) i p
    simp only [List.map_cons, List.zip_cons_cons, List.all_cons, pT]
    rw [← one, ← ih]
    cases isI (m : Int) i <;> cases perOk rs P (i, p) <;> simp
theorem abs_pairs {rs : List Rw} {P : List Str} {o : Option Nat} {qs : List (D × D)} (h : ∀ i, o = some i → i < rs.length) : absB rs P o (.lst (qs.map pT)) = ((decide ((qs.map (·.1)).length = (toMiss rs o).length) && ((qs.map (·.1)).zip (toMiss rs o)).all fun p => isI (p.2 : Int) p.1) && qs.all (perOk rs P)) := by
  unfold absB
  by_cases hl : qs.length = (toMiss rs o).length
  · have := pair_all (P := P) qs _ (fun m hm => toMiss_lt h hm) hl
    simp only [List.length_map, hl, decide_true, Bool.true_and]
    exact this.symm
  · simp [hl]
theorem pairs_of : ∀ {ds : List D}, ds.all (tupN 2) = true → (∀ d ∈ ds, AnyD d) → ∃ qs : List (D × D), ds = qs.map pT ∧ ∀ q ∈ qs, AnyD q.1 ∧ AnyD q.2
  | [], _, _ => ⟨[], rfl, fun q h => by cases h⟩
  | d :: ds, h, ha => by
    rw [List.all_cons, Bool.and_eq_true] at h
    obtain ⟨qs, e, hq⟩ := pairs_of h.2 fun x hx => ha x (List.mem_cons_of_mem _ hx)
    have h1 := h.1
    have hd := ha d (List.mem_cons_self ..)
    cases d with
    | tup es =>
      unfold tupN at h1
      match es, h1, hd with
      | [a, b], _, hd =>
        cases hd with
        | tup _ hab =>
          refine ⟨(a, b) :: qs, by rw [e]; rfl, fun q hq' => ?_⟩
          rcases List.mem_cons.mp hq' with rfl | hq'
          · exact ⟨hab a (by simp), hab b (by simp)⟩
          · exact hq q hq'
      | [], h1, _ => simp at h1
      | [_], h1, _ => simp at h1
      | _ :: _ :: _ :: _, h1, _ => simp at h1
    | _ => cases h1
theorem absB_not {rs : List Rw} {P : List Str} {o : Option Nat} : ∀ {ds : List D}, ds.all (tupN 2) = false → absB rs P o (.lst ds) = false := by
  intro ds h
  unfold absB
  by_cases hl : ds.length = (toMiss rs o).length
  · rw [List.all_eq_false] at h
    obtain ⟨d, hd, hn⟩ := h
    obtain ⟨k, hk, rfl⟩ := List.getElem_of_mem hd
    have : ((ds.zip (toMiss rs o)).all fun p => pairOk rs P p.2 p.1) = false := by
      refine List.all_eq_false.mpr ⟨(ds[k], (toMiss rs o)[k]'(by omega)), ?_, ?_⟩
      · rw [← List.getElem_zip (h := by simp; omega)]
        exact List.getElem_mem _
      · intro hp
        apply hn
        show tupN 2 ds[k] = true
        have hp : pairOk rs P ((toMiss rs o)[k]'(by omega)) ds[k] = true := hp
        generalize ds[k] = d at hp
        unfold pairOk at hp
        split at hp
        · rfl
        · cases hp
    simp [this]
  · simp [hl]
theorem inO_strT (n : Bool) {p : Str} {xs : List Str} (hp : okS p) (hx : ∀ x ∈ xs, okS x) : pInO n (.str p) (.tup (xs.map .str)) = some (.bl (if n then !decide (p ∈ xs) else decide (p ∈ xs))) := by
  have : pInO n (.str p) (.tup (xs.map .str)) = pInX n (.str p) (.tup (xs.map .str)) := by
    unfold pInO
    simp only
    rw [if_neg fun h => by cases h.1]
  rw [this]
  exact pIn_tup hp hx
theorem inO_strL (n : Bool) {p : Str} {xs : List Str} (hp : okS p) (hx : ∀ x ∈ xs, okS x) : pInO n (.str p) (.lst (xs.map .str)) = some (.bl (if n then !decide (p ∈ xs) else decide (p ∈ xs))) := by
  have : pInO n (.str p) (.lst (xs.map .str)) = pInX n (.str p) (.lst (xs.map .str)) := by
    unfold pInO
    simp only
    rw [if_neg fun h => by cases h.1]
  rw [this]
  exact pIn_lst hp hx
theorem isN_any (n : Bool) {d : D} (h : AnyD d) : pIs n d .non = some (.bl (if n then !isNon d else isNon d)) := by
  cases h <;> rfl
theorem step_holds_any {rs : List Rw} {P : List Str} {a o ab : D} {st : Store} (ho : RsOk rs) (hp : ∀ x ∈ P, okS x) (hz : P.length ≤ 1000) (h1 : AnyD o) (h2 : AnyD ab) : d_step_holds [rowsD rs, .tup (P.map .str), .tup [a, o, ab]] st = .ok (.bl (stepC rs P ab o)) [] st := by
  have z1 : P.length ≤ sizeLine := by rw [sizeLine_eq]; omega
  have rest : ∀ (o' : Option Nat) (x6 : Sl), (∀ i, o' = some i → i < rs.length) → SOk (seqD (ifD (orD (notD (lift1 (pIsi "list") (pureE (pvw 5)))) (notD (lift1 pAll (lcD (itD (vr 5)) (gN 7) yesD e_step_holds_1 [7]))))
      (retD (cst (.bl false))) nxD)
      (retD (andD (lift2 pEqO (lcD (itD (vr 5)) (gT (gsCons (gN 8) (gsCons (gN 6) gsNil))) yesD (vr 8) [8, 6]) (callD d_rows_to_miss (aCons (vr 0) (aCons (vr 4) aNil)))) (callD d_absent_hold (aCons (vr 0) (aCons (vr 1) (aCons (vr 5) aNil))))))
      [.val (rowsD rs), .val (.tup (P.map .str)), .val (.tup [a, optD o', ab]), .val a, .val (optD o'), .val ab, x6, .no, .no] st) (fun _ st' => False) (fun d st' => d = .bl (absB rs P o' ab) ∧ st' = st) := by
    intro o' x6 hlt
    have tm := to_miss_eq (st := st) ho hlt
    cases h2 with
    | lst hl ha =>
      rename_i ds
      have z2 : ds.length ≤ sizeLine := by rw [sizeLine_eq]; omega
      simp [z2]
      refine EOk_lcMi (fun d => .bl (tupN 2 d)) ds (fun d hd => ⟨_, rfl, ?_⟩) ?_
      · have := is_tup_any (ha d hd) 2 st
        simp at this
        simp [e_step_holds_1, this]
      · have pa := pAll_map ds (tupN 2)
        cases hall : ds.all (tupN 2) with
        | false =>
          rw [hall] at pa
          simp only [k_EOk_lift1, pa, EOk_ok, k_EOk_not]
          simp [absB_not hall]
        | true =>
          rw [hall] at pa
          obtain ⟨qs, rfl, hq⟩ := pairs_of hall ha
          have z3 : qs.length ≤ sizeLine := by rw [List.length_map] at z2; exact z2
          simp only [List.map_map] at pa
          simp only [List.map_map, k_EOk_lift1, pa, EOk_ok, k_EOk_not]
          simp [z3]
          refine EOk_lcM pT (fun q => q.1) qs (fun q hq => ⟨_, rfl, ?_⟩) ?_
          · simp [pT]
          · have e1 := pEqO_ints (ds := qs.map (·.1)) (ms := toMiss rs o') (fun d hd => by obtain ⟨q, hq', rfl⟩ := List.mem_map.mp hd; exact (hq q hq').1)
            have ah := absent_hold_any (st := st) ho hp hq
            rw [abs_pairs hlt]
            cases hd : (decide ((qs.map (·.1)).length = (toMiss rs o').length) && ((qs.map (·.1)).zip (toMiss rs o')).all fun p => isI (p.2 : Int) p.1) with
            | true =>
              rw [hd] at e1
              simp [tm, e1, ah]
            | false =>
              rw [hd] at e1
              simp [tm, e1]
    | _ => simp [absB, seen]
  refine DOk.eq ?_
  unfold d_step_holds
  refine DOk_run ?_
  unfold b_step_holds
  have ix := is_index_any h1 rs.length st
  cases h1 with
  | non =>
    have := rest none .no (fun i h => by cases h)
    simp [optD] at this
    simp [stepC]
    exact this
  | int i =>
    have sr : seen st (.val (rowsD rs)) = some (rowsD rs) := rfl
    have lr : pLen (rowsD rs) = some (.int rs.length) := by simp [rowsD]
    cases hi : idxOk rs.length (.int i) with
    | false =>
      rw [hi] at ix
      have : stepC rs P ab (.int i) = false := by
        show (idxOk rs.length (.int i) && _) = false
        rw [hi]; rfl
      simp [-pLen, ix, sr, lr, this]
    | true =>
      obtain ⟨j, rfl, hj⟩ : ∃ j : Nat, i = (j : Int) ∧ j < rs.length := by
        simp [idxOk] at hi
        exact ⟨i.toNat, by rw [Int.toNat_of_nonneg hi.1], by omega⟩
      have e2 : heAt rs j = rs[j].2 := by simp [heAt, hj]
      have hr := ho.ok _ (List.getElem_mem hj)
      have es : stepC rs P ab (.int (j : Int)) = ((P.all fun p => decide (p ∈ rs[j].2)) && absB rs P (some j) ab) := by
        show (idxOk rs.length (.int (j : Int)) && ((P.all fun p => decide (p ∈ heAt rs ((j : Int)).toNat)) && absB rs P (some ((j : Int)).toNat) ab)) = _
        rw [hi, Int.toNat_natCast, e2]
        rfl
      rw [hi] at ix
      rw [es]
      simp [-pLen, ix, z1, sr, lr]
      refine EOk_lcM D.str (fun p => .bl (decide (p ∈ rs[j].2))) P (fun p hpP => ⟨_, rfl, ?_⟩) ?_
      · have p2 := inO_strT false (hp p hpP) hr.he
        simp at p2
        simp [e_step_holds_2, rowsD, hj, rowD, p2]
      · have pa := pAll_map P (fun p => decide (p ∈ rs[j].2))
        have := rest (some j) .no (fun i h => by cases h; exact hj)
        simp [optD] at this
        simp only [k_EOk_lift1, pa, EOk_ok, k_EOk_not]
        cases hh : P.all (fun p => decide (p ∈ rs[j].2)) with
        | true =>
          simp [hh]
          exact this
        | false =>
          simp [hh]
  | _ =>
    have sr : seen st (.val (rowsD rs)) = some (rowsD rs) := rfl
    have lr : pLen (rowsD rs) = some (.int rs.length) := by simp [rowsD]
    simp [-pLen, ix, sr, lr, stepC, idxOk]
theorem pNeO_th {a b : Th} (ha : Dt.ok a) (hb : Dt.ok b) : pNeO (Dt.d a) (Dt.d b) = some (.bl (!decide (a = b))) := by
  have h : pNe (Dt.d a) (Dt.d b) = some (.bl (!decide (a = b))) := pNe_dt ha hb
  have key : ∀ d e : D, ¬ (isCt d = true ∧ isSc e = true) → (∀ ds es, ¬ (d = .lst ds ∧ e = .lst es)) → (∀ ds, ¬ (d = .tup ds ∧ e = .tup [])) → pNeO d e = pNe d e := fun d e h1 h2 h3 => by
    unfold pNeO pNe pEqOB
    split
    · exact absurd ⟨rfl, rfl⟩ (h2 _ _)
    · exact absurd ⟨rfl, rfl⟩ (h3 _)
    · rw [if_neg h1]
  cases a with
  | later w =>
    cases b with
    | later v => rw [← h]; exact key _ _ (fun x => by cases x.2) (fun _ _ x => by cases x.1) (fun _ x => by cases x.2)
    | nm v => rfl
    | non => rfl
  | nm w => rw [← h]; exact key _ _ (fun x => by cases x.1) (fun _ _ x => by cases x.1) (fun _ x => by cases x.1)
  | non => rw [← h]; exact key _ _ (fun x => by cases x.1) (fun _ _ x => by cases x.1) (fun _ x => by cases x.1)
theorem neO_nat (a b : Nat) : pNeO (.int (a : Int)) (.int (b : Int)) = some (.bl (!decide (a = b))) := by
  have h := neO_int (AnyD.int (a : Int)) (b : Int)
  rw [h]
  unfold isI
  congr 2
  exact congrArg _ (decide_eq_decide.mpr (by omega))
theorem miss_len56 (rs : List Rw) (o : Option Nat) : (toMiss rs o).length ≤ rs.length := by
  unfold toMiss
  refine Nat.le_trans (List.length_filter_le ..) ?_
  simp
theorem absent_good_any {rs : List Rw} {P : List Str} {o : Option Nat} {ab : D} {st : Store} (ho : RsOk rs) (hp : ∀ x ∈ P, okS x) (hlt : ∀ i, o = some i → i < rs.length) (h2 : AnyD ab) :
    d__law_absent_good [rowsD rs, .tup (P.map .str), .int (firstAt o), Dt.d (stepT rs o), ab] st = .ok (.bl (absB rs P o ab)) [] st := by
  refine DOk.eq ?_
  unfold d__law_absent_good
  refine DOk_run ?_
  have h1 : firstAt o ≤ rs.length := by cases o with
    | none => simp [firstAt]
    | some i => exact hlt i rfl
  have hsz := ho.sz
  have hml := miss_len56 rs o
  have r1 : Rg (firstAt o : Int) := .of (by omega) (by omega)
  have r2 : Rg (rs.length : Int) := .of (by omega) (by omega)
  have r3 : Rg ((toMiss rs o).length : Int) := .of (by omega) (by omega)
  have z1 : (rngItems (↑(firstAt o)) (rs.length - firstAt o)).length ≤ sizeLine := by rw [sizeLine_eq]; simp [rngItems]; omega
  have e1 : rngItems (↑(firstAt o)) (rs.length - firstAt o) = ((List.range (rs.length - firstAt o)).map (firstAt o + ·)).map fun i : Nat => D.int i := by simp [rngItems]
  unfold b__law_absent_good
  simp [r1, r2, rowsD, z1]
  rw [e1]
  refine EOk_lcP (fun i : Nat => D.int i) (fun i => decide (thAt rs i ≠ stepT rs o)) (fun i : Nat => D.int i) _ [] (fun i hi => ⟨_, rfl, ?_⟩) ?_
  · have hi2 : i < rs.length := by simp at hi; omega
    have e2 : Dt.d rs[i].1 = Dt.d (thAt rs i) := by simp [thAt, hi2]
    have k1 : Dt.ok (thAt rs i) := by have := (ho.ok _ (List.getElem_mem hi2)).th; simpa [thAt, hi2] using this
    have k2 : Dt.ok (stepT rs o) := by
      cases o with
      | none => exact trivial
      | some j => have hj := hlt j rfl; have := (ho.ok _ (List.getElem_mem hj)).th; simpa [stepT, hj] using this
    simp [t__law_absent_good_2, hi2, rowD, e2, pNeO_th k1 k2]
  · rw [List.nil_append, show (List.filter (fun i => decide (thAt rs i ≠ stepT rs o)) (List.map (fun x => firstAt o + x) (List.range (rs.length - firstAt o)))) = toMiss rs o from rfl]
    cases h2 with
    | lst hl ha =>
      rename_i ds
      have nl := neO_nat ds.length (toMiss rs o).length
      by_cases hl : ds.length = (toMiss rs o).length
      · rw [hl] at nl
        simp at nl
        simp [hl, nl, r3]
        have fail : ∀ q (hq : q < (toMiss rs o).length), pairOk rs P (toMiss rs o)[q] (ds[q]'(by omega)) = false → absB rs P o (.lst ds) = false := fun q hq h => by
          have : ((ds.zip (toMiss rs o)).all fun p => pairOk rs P p.2 p.1) = false := List.all_eq_false.mpr ⟨(ds[q]'(by omega), (toMiss rs o)[q]), by
            rw [← List.getElem_zip (h := by simp; omega)]
            exact List.getElem_mem _, by simp [h]⟩
          unfold absB
          simp [this]
        refine SOk_rng (toMiss rs o).length (fun q ρ st' => st' = st ∧ (∀ j (hj : j < (toMiss rs o).length), j < q → pairOk rs P (toMiss rs o)[j] (ds[j]'(by omega)) = true) ∧ ∃ x6 x7, ρ = [.val (rowsD rs), .val (.tup (P.map .str)), .val (.int (firstAt o)), .val (Dt.d (stepT rs o)), .val (.lst ds), .val (.lst ((toMiss rs o).map fun i : Nat => .int i)), x6, x7]) ⟨rfl, fun j _ h => absurd h (by omega), _, _, rfl⟩ ?_ ?_
        · rintro q ρ st' hq ⟨rfl, hA, x6, x7, rfl⟩
          refine ⟨_, rfl, ?_⟩
          have hqa : q < ds.length := by omega
          have hf := fail q hq
          have hs : pairOk rs P (toMiss rs o)[q] ds[q] = true → ∀ j (hj : j < (toMiss rs o).length), j < q + 1 → pairOk rs P (toMiss rs o)[j] (ds[j]'(by omega)) = true := fun h j hj hjq => by
            by_cases e : j = q
            · subst e; exact h
            · exact hA j hj (by omega)
          have ia := ha ds[q] (List.getElem_mem hqa)
          have ix : ds[q]? = some ds[q] := List.getElem?_eq_getElem hqa
          have iy : (toMiss rs o)[q]? = some (toMiss rs o)[q] := List.getElem?_eq_getElem hq
          have m1 : (toMiss rs o)[q] < rs.length := toMiss_lt hlt (List.getElem_mem hq)
          generalize ds[q] = d at hf hs ia ix
          generalize (toMiss rs o)[q] = m at hf hs iy m1
          have hm : heAt rs m = rs[m].2 := by simp [heAt, m1]
          have okh := heAt_rows ho (i := m)
          rw [hm] at okh
          unfold f__law_absent_good_1
          cases ia with
          | tup hl2 ha2 =>
            rename_i es
            by_cases h2 : es.length = 2
            · match es, h2, ha2, hf, hs, ix with
              | [i, p], _, ha2, hf, hs, ix =>
                have hi : AnyD i := ha2 i (by simp)
                have hpp : AnyD p := ha2 p (by simp)
                have p1 := inO_any true hpp hp
                have p2 := inO_any false hpp okh
                simp at p1 p2
                have n2 := neO_int hi (m : Int)
                have n3 : pNeO (.int ((([i, p] : List D).length : Nat) : Int)) (.int 2) = some (.bl false) := neO_nat 2 2
                simp at n3
                cases hi with
                | bl b =>
                  have := hf rfl
                  simp [ix, n3, this]
                | int j =>
                  by_cases hj : j = (m : Int)
                  · subst hj
                    simp [isI] at n2
                    have pk : pairOk rs P m (.tup [.int (m : Int), p]) = (inG P p && !inG rs[m].2 p) := by
                      show (decide ((m : Int) = m) && (inG P p && !inG (heAt rs m) p)) = _
                      rw [hm]; simp
                    rw [pk] at hf hs
                    cases g1 : inG P p with
                    | false =>
                      have := hf (by rw [g1]; rfl)
                      simp [ix, iy, n3, n2, p1, g1, this]
                    | true =>
                      cases g2 : inG rs[m].2 p with
                      | true =>
                        have := hf (by rw [g1, g2]; rfl)
                        simp [ix, iy, n3, n2, p1, g1, m1, rowsD, rowD, p2, g2, this]
                      | false =>
                        have := hs (by rw [g1, g2]; rfl)
                        simp [ix, iy, n3, n2, p1, g1, m1, rowsD, rowD, p2, g2]
                        exact this
                  · have := hf (by simp [pairOk, hj])
                    have n2' : pNeO (.int j) (.int (m : Int)) = some (.bl true) := by rw [n2]; simp [isI, hj]
                    simp [ix, iy, n3, n2', this]
                | _ =>
                  have := hf rfl
                  simp [isI] at n2
                  simp [ix, iy, n3, n2, this]
            · have n3 := neO_nat es.length 2
              have : pairOk rs P m (.tup es) = false := by
                unfold pairOk
                split
                · rename_i e
                  cases e
                  exact absurd rfl h2
                · rfl
              have := hf this
              simp [h2] at n3
              simp [ix, n3, this]
          | _ =>
            have := hf rfl
            simp [ix, this]
        · rintro ρ st' ⟨rfl, hA, x6, x7, rfl⟩
          have : ((ds.zip (toMiss rs o)).all fun p => pairOk rs P p.2 p.1) = true := List.all_eq_true.mpr fun x hx => by
            obtain ⟨k, hk, rfl⟩ := List.getElem_of_mem hx
            have hk' : k < (toMiss rs o).length := by simp at hk; omega
            have := hA k hk' hk'
            simpa using this
          have : absB rs P o (.lst ds) = true := by
            unfold absB
            simp only [hl, decide_true, Bool.true_and]
            exact this
          simp [this]
      · have : absB rs P o (.lst ds) = false := by unfold absB; simp [hl]
        simp [hl] at nl
        simp [nl, this]
    | _ => simp [absB, seen]
def stepA (rs : List Rw) (P : List Str) (w : Str) : D → Bool
  | .tup [a, o, ab] => isS w a && stepC rs P ab o
  | _ => false
theorem step_good_any {rs : List Rw} {P : List Str} {w : Str} {s : D} {st : Store} (ho : RsOk rs) (hp : ∀ x ∈ P, okS x) (hz : P.length ≤ 1000) (hw : okS w) (hs : AnyD s) :
    d__law_step_good [rowsD rs, .tup (P.map .str), .str w, s] st = .ok (.bl (stepA rs P w s)) [] st := by
  refine DOk.eq ?_
  unfold d__law_step_good
  refine DOk_run ?_
  unfold b__law_step_good
  cases hs with
  | tup hl ha =>
    rename_i es
    have n3 := neO_nat es.length 3
    by_cases h3 : es.length = 3
    · match es, h3, ha, n3 with
      | [a, o, ab], _, ha, n3 =>
        have ia : AnyD a := ha a (by simp)
        have io : AnyD o := ha o (by simp)
        have iab : AnyD ab := ha ab (by simp)
        simp at n3
        have ne := neO_str ia hw
        cases hsw : isS w a with
        | false =>
          rw [hsw] at ne
          simp at ne
          simp [n3, ne, stepA, hsw]
        | true =>
          rw [hsw] at ne
          simp at ne
          have isn := isN_any false io
          simp only [Bool.false_eq_true, if_false] at isn
          cases io with
          | non =>
            have ag := absent_good_any (st := st) (o := none) ho hp (fun i h => by cases h) iab
            simp [firstAt, stepT, Dt.d] at ag
            simp [n3, ne, stepA, hsw, stepC, ag]
          | int i =>
            by_cases h0 : 0 ≤ i
            · by_cases h1 : i < (rs.length : Int)
              · obtain ⟨j, rfl⟩ : ∃ j : Nat, i = (j : Int) := ⟨i.toNat, by rw [Int.toNat_of_nonneg h0]⟩
                have hj : j < rs.length := by omega
                have e2 : heAt rs j = rs[j].2 := by simp [heAt, hj]
                have hr := ho.ok _ (List.getElem_mem hj)
                have hz' : P.length ≤ sizeLine := by rw [sizeLine_eq]; omega
                have ag := absent_good_any (st := st) (o := some j) ho hp (fun i h => by cases h; exact hj) iab
                have ag' : d__law_absent_good [rowsD rs, .tup (P.map .str), .int ((j : Int) + 1), Dt.d rs[j].1, ab] st = .ok (.bl (absB rs P (some j) ab)) [] st := by
                  have e : stepT rs (some j) = rs[j].1 := by simp [stepT, hj]
                  rw [e] at ag
                  exact ag
                have es : stepA rs P w (.tup [a, .int (j : Int), ab]) = ((P.all fun p => decide (p ∈ rs[j].2)) && absB rs P (some j) ab) := by
                  show (isS w a && ((decide ((0 : Int) ≤ (j : Int)) && decide ((j : Int) < (rs.length : Int))) && ((P.all fun p => decide (p ∈ heAt rs ((j : Int)).toNat)) && absB rs P (some ((j : Int)).toNat) ab))) = _
                  rw [hsw, Int.toNat_natCast, e2, decide_eq_true h0, decide_eq_true h1]
                  rfl
                have hi' : ¬ (rs.length ≤ j) := by omega
                rw [es]
                unfold rowsD at ag' ⊢
                simp [n3, ne, hz', hi', hj]
                refine EOk_lcP D.str (fun p => !decide (p ∈ rs[j].2)) D.str P [] (fun p hpP => ⟨_, rfl, ?_⟩) ?_
                · have p2 := inO_strT true (hp p hpP) hr.he
                  simp at p2
                  simp [t__law_step_good_1, hj, rowD, p2]
                · cases hh : P.all (fun p => decide (p ∈ rs[j].2)) with
                  | true =>
                    have hf : P.filter (fun p => !decide (p ∈ rs[j].2)) = [] := List.filter_eq_nil_iff.mpr fun p hpP => by
                      have := List.all_eq_true.mp hh p hpP
                      simpa using this
                    rw [hf]
                    simp [hj, rowD, ag', hh]
                  | false =>
                    have hf : 0 < (P.filter (fun p => !decide (p ∈ rs[j].2))).length := by
                      rw [List.all_eq_false] at hh
                      obtain ⟨p, hp1, hp2⟩ := hh
                      exact List.length_pos_of_mem (List.mem_filter.mpr ⟨hp1, by simpa using hp2⟩)
                    generalize P.filter (fun p => !decide (p ∈ rs[j].2)) = fl at hf
                    simp [hf, hh]
              · have h2 : (rs.length : Int) ≤ i := by omega
                have h0' : ¬ i < 0 := by omega
                simp [n3, ne, h0', h2, rowsD, stepA, stepC, h1]
            · have h0' : i < 0 := by omega
              simp [n3, ne, h0', stepA, stepC, h0]
          | _ => simp [n3, ne, stepA, stepC, hsw]
    · have : stepA rs P w (.tup es) = false := by
        unfold stepA
        split
        · rename_i e
          cases e
          exact absurd rfl h3
        · rfl
      simp [h3] at n3
      simp [n3, this]
  | _ => simp [stepA, seen]
def nextT (rs : List Rw) : D → Th
  | .tup [_, .int i, _] => stepT rs (some i.toNat)
  | _ => .non
def goA (R : List (Str × List Rw)) (P : List Str) : List D → Th → List Str → Option (Th × List Str)
  | [], t, seen => some (t, seen)
  | s :: r, .later w, seen => if w ∈ seen then none else if stepA (own R w) P w s = true then goA R P r (nextT (own R w) s) (seen ++ [w]) else none
  | _ :: _, _, _ => none
def endA (m : D) : Th × List Str → Bool
  | (.later w, seen) => decide (w ∈ seen) && isNon m
  | (.nm z, _) => isS z m
  | (.non, _) => isNon m
def chainA (R : List (Str × List Rw)) (P : List Str) (w : Str) (ss : List D) (m : D) : Bool := match goA R P ss (.later w) [] with
  | some p => endA m p
  | none => false
noncomputable def bodyA (R : List (Str × List Rw)) (w g ss m : D) : Bool := match w, grp56 g, ss with
  | .str w, some P, .lst ss => isNm (.str w) && chainA R P w ss m
  | _, _, _ => false
noncomputable def reasonA (R : List (Str × List Rw)) : D → Bool
  | .tup [a, w, g, ss, m] => isS "reason" a && bodyA R w g ss m
  | _ => false
theorem goA_app {R : List (Str × List Rw)} {P : List Str} : ∀ (a b : List D) (t : Th) (seen : List Str), goA R P (a ++ b) t seen = (goA R P a t seen).bind fun p => goA R P b p.1 p.2
  | [], b, t, seen => rfl
  | s :: a, b, t, seen => by
    cases t with
    | later w =>
      show (if w ∈ seen then none else if stepA (own R w) P w s = true then goA R P (a ++ b) (nextT (own R w) s) (seen ++ [w]) else none) = (if w ∈ seen then none else if stepA (own R w) P w s = true then goA R P a (nextT (own R w) s) (seen ++ [w]) else none : Option (Th × List Str)).bind _
      split
      · rfl
      · split
        · exact goA_app a b _ _
        · rfl
    | _ => rfl
theorem goA_len {R : List (Str × List Rw)} {P : List Str} : ∀ (c : List D) (t t' : Th) (seen seen' : List Str), goA R P c t seen = some (t', seen') → seen'.length = seen.length + c.length
  | [], t, t', seen, seen', h => by cases h; simp
  | s :: r, t, t', seen, seen', h => by
    cases t with
    | later w =>
      unfold goA at h
      split at h
      · cases h
      · split at h
        · have := goA_len r _ _ _ _ h
          simp at this ⊢
          omega
        · cases h
    | _ => cases h
theorem nextT_ok {rs : List Rw} (ho : RsOk rs) (s : D) : Dt.ok (nextT rs s) := by
  unfold nextT
  split
  · rename_i i _
    show Dt.ok (((rs[i.toNat]?).map (·.1)).getD Th.non)
    cases e : rs[i.toNat]? with
    | none => exact trivial
    | some r => exact (ho.ok _ (List.mem_of_getElem? e)).th
  · exact trivial
theorem goA_ok {R : List (Str × List Rw)} {P : List Str} (hO : ∀ p ∈ R, RsOk p.2) : ∀ (c : List D) (t t' : Th) (seen seen' : List Str), Dt.ok t → (∀ x ∈ seen, okS x) → goA R P c t seen = some (t', seen') → Dt.ok t' ∧ ∀ x ∈ seen', okS x
  | [], t, t', seen, seen', h1, h2, h => by cases h; exact ⟨h1, h2⟩
  | s :: r, t, t', seen, seen', h1, h2, h => by
    cases t with
    | later w =>
      unfold goA at h
      split at h
      · cases h
      · split at h
        · refine goA_ok hO r _ _ _ _ (nextT_ok (own_ok (w := w) hO) s) (fun x hx => ?_) h
          rcases List.mem_append.mp hx with hx | hx
          · exact h2 x hx
          · rw [List.mem_singleton.mp hx]; exact h1
        · cases h
    | _ => cases h
theorem grp_inv {g : D} {P : List Str} (h : grp56 g = some P) : g = .tup (P.map .str) ∧ P ≠ [] ∧ (∀ x ∈ P, NameS x) := by
  unfold grp56 at h
  split at h
  · rename_i ds
    split at h
    · rename_i xs e
      split at h
      · rename_i c
        cases h
        exact ⟨by rw [strL_inv e], c.1, c.2.1⟩
      · cases h
    · cases h
  · cases h
@[simp] theorem th56_later {w : Str} : Dt.d (Th.later w) = D.tup [.str "later", .str w] := rfl
@[simp] theorem th56_nm {w : Str} : Dt.d (Th.nm w) = D.str w := rfl
@[simp] theorem th56_non : Dt.d Th.non = D.non := rfl
theorem stepA_inv {rs : List Rw} {P : List Str} {w : Str} {s : D} (h : stepA rs P w s = true) : ∃ a ab o, s = .tup [a, optD o, ab] ∧ isS w a = true ∧ stepC rs P ab (optD o) = true ∧ (∀ i, o = some i → i < rs.length) ∧ nextT rs s = stepT rs o := by
  unfold stepA at h
  split at h
  · rename_i a o ab
    rw [Bool.and_eq_true] at h
    obtain ⟨h1, h2⟩ := h
    cases o with
    | non => exact ⟨a, ab, none, rfl, h1, h2, (fun i h => by cases h), rfl⟩
    | int i =>
      have h3 := h2
      unfold stepC at h3
      rw [Bool.and_eq_true, Bool.and_eq_true] at h3
      have p0 := of_decide_eq_true h3.1.1
      have p1 := of_decide_eq_true h3.1.2
      obtain ⟨j, rfl⟩ : ∃ j : Nat, i = (j : Int) := ⟨i.toNat, by rw [Int.toNat_of_nonneg p0]⟩
      exact ⟨a, ab, some j, rfl, h1, h2, (fun i h => by cases h; omega), rfl⟩
    | _ => cases h2
  · cases h
def HInvA (d : D) (R : List (Str × List Rw)) (P : List Str) (word : Str) (ss : List D) (a m : D) (st : Store) (q : Nat) (ρ : En) (st' : Store) : Prop :=
  st' = st ∧ ∃ t seen x8 x9, goA R P (ss.take q) (.later word) [] = some (t, seen) ∧ ρ = [.val d, .val (.tup [a, .str word, .tup (P.map .str), .lst ss, m]), .val (.str word), .val (.tup (P.map .str)), .val (.lst ss), .val m, .ml (seen.map .str), .val (Dt.d t), x8, x9]
theorem steps56 {d : D} {R : List (Str × List Rw)} {P : List Str} {word : Str} {ss : List D} {a m : D} {st : Store} {x8 x9 : Sl} (hR : dOf (lkD st d) = some (dctD R)) (hO : ∀ p ∈ R, RsOk p.2) (hP : ∀ x ∈ P, NameS x) (hz : P.length ≤ 1000) (hw : okS word) (hs : ∀ s ∈ ss, AnyD s) (hsl : ss.length ≤ 60) (hm : AnyD m) :
    SOk (forD (gN 8) f_reason_holds_1 ss [.val d, .val (.tup [a, .str word, .tup (P.map .str), .lst ss, m]), .val (.str word), .val (.tup (P.map .str)), .val (.lst ss), .val m, .ml [], .val (.tup [.str "later", .str word]), x8, x9] st) (HInvA d R P word ss a m st ss.length) (fun d st' => (d = .bl (chainA R P word ss m)) ∧ st' = st) := by
  have hp' : ∀ x ∈ P, okS x := fun x hx => (hP x hx).ok
  refine SOk_at ss (HInvA d R P word ss a m st) ⟨rfl, .later word, [], _, _, rfl, rfl⟩ ?_ (fun _ _ h => h)
  rintro q s ρ st' hq ⟨rfl, t, seen, x8, x9, hgo, rfl⟩
  have hta : ss.take (q + 1) = ss.take q ++ [s] := by rw [List.take_add_one, hq]; rfl
  have hmem := List.mem_of_getElem? hq
  have hql := (List.getElem?_eq_some_iff.mp hq).1
  have esp : ss = ss.take q ++ s :: ss.drop (q + 1) := by
    rw [← (List.getElem?_eq_some_iff.mp hq).2, ← List.drop_eq_getElem_cons hql, List.take_append_drop]
  have hgo1 : goA R P (ss.take (q + 1)) (.later word) [] = goA R P [s] t seen := by rw [hta, goA_app, hgo]; rfl
  have hfail : goA R P [s] t seen = none → chainA R P word ss m = false := fun h => by
    have : goA R P ss (.later word) [] = none := by
      rw [esp, show ss.take q ++ s :: ss.drop (q + 1) = (ss.take q ++ [s]) ++ ss.drop (q + 1) by simp, goA_app, ← hta, hgo1, h]; rfl
    unfold chainA
    rw [this]
  obtain ⟨okt, oks⟩ := goA_ok hO (ss.take q) _ _ _ _ hw (fun x hx => by cases hx) hgo
  have hsl2 : seen.length < sizeLine := by have := goA_len _ _ _ _ _ hgo; simp at this; rw [sizeLine_eq]; omega
  have is := hs s hmem
  refine ⟨_, rfl, ?_⟩
  unfold f_reason_holds_1
  cases t with
  | non =>
    have := hfail rfl
    simp [-dOf, -lkD, this]
  | nm z =>
    have := hfail rfl
    simp [-dOf, -lkD, this]
  | later w =>
    have okw : okS w := okt
    have pin := inO_strL false okw oks
    simp at pin
    by_cases hin : w ∈ seen
    · have := hfail (by simp [goA, hin])
      simp [-dOf, -lkD, pin, hin, this]
    · have t3 := is_tup_any is 3 st'
      simp at t3
      cases ht : tupN 3 s with
      | false =>
        have : stepA (own R w) P w s = false := by
          unfold stepA
          split
          · cases ht
          · rfl
        have := hfail (by simp [goA, hin, this])
        rw [ht] at t3
        simp [-dOf, -lkD, pin, hin, hR, own_get, t3, this]
      | true =>
        rw [ht] at t3
        obtain ⟨sa, so, sab, rfl⟩ : ∃ a o ab, s = .tup [a, o, ab] := by
          cases s with
          | tup es =>
            unfold tupN at ht
            match es, ht with
            | [a, o, ab], _ => exact ⟨a, o, ab, rfl⟩
            | [], ht => simp at ht
            | [_], ht => simp at ht
            | [_, _], ht => simp at ht
            | _ :: _ :: _ :: _ :: _, ht => simp at ht
          | _ => cases ht
        obtain ⟨ia, io, iab⟩ : AnyD sa ∧ AnyD so ∧ AnyD sab := by
          cases is with
          | tup _ h => exact ⟨h _ (by simp), h _ (by simp), h _ (by simp)⟩
        have ne1 := neO_str ia okw
        cases hsw : isS w sa with
        | false =>
          have : stepA (own R w) P w (.tup [sa, so, sab]) = false := by simp [stepA, hsw]
          have := hfail (by simp [goA, hin, this])
          rw [hsw] at ne1
          simp at ne1
          simp [-dOf, -lkD, pin, hin, hR, own_get, t3, ne1, this]
        | true =>
          rw [hsw] at ne1
          simp at ne1
          have sh := step_holds_any (a := sa) (st := st') (own_ok (w := w) hO) hp' hz io iab
          cases hb : stepC (own R w) P sab so with
          | false =>
            have : stepA (own R w) P w (.tup [sa, so, sab]) = false := by simp [stepA, hb]
            have := hfail (by simp [goA, hin, this])
            rw [hb] at sh
            simp [-dOf, -lkD, pin, hin, hR, own_get, t3, ne1, sh, this]
          | true =>
            have sA : stepA (own R w) P w (.tup [sa, so, sab]) = true := by simp [stepA, hsw, hb]
            obtain ⟨a', ab', o, e, _, _, hlt, hnx⟩ := stepA_inv sA
            cases e
            have sth := step_thing_eq (st := st') hlt
            have hgo2 : goA R P (ss.take (q + 1)) (.later word) [] = some (stepT (own R w) o, seen ++ [w]) := by
              rw [hgo1]; simp [goA, hin, sA, hnx]
            have fin : HInvA d R P word ss a m st' (q + 1) [.val d, .val (.tup [a, .str word, .tup (P.map .str), .lst ss, m]), .val (.str word), .val (.tup (P.map .str)), .val (.lst ss), .val m, .ml (seen.map .str ++ [.str w]), .val (Dt.d (stepT (own R w) o)), .val (.tup [sa, optD o, sab]), .val (rowsD (own R w))] st' :=
              ⟨rfl, stepT (own R w) o, seen ++ [w], _, _, hgo2, by simp; exact ⟨rfl, rfl⟩⟩
            rw [hb] at sh
            simp [-dOf, -lkD, pin, hin, hR, own_get, t3, ne1, sh, hsl2, sth]
            exact fin
theorem reason_holds_any {d x : D} {R : List (Str × List Rw)} {st : Store} (hR : dOf (lkD st d) = some (dctD R)) (hO : ∀ p ∈ R, RsOk p.2) (hx : AnyD x) :
    d_reason_holds [d, x] st = .ok (.bl (reasonA R x)) [] st := by
  refine DOk.eq ?_
  unfold d_reason_holds
  refine DOk_run ?_
  unfold b_reason_holds
  have t5 := is_tup_any hx 5 st
  simp at t5
  cases ht : tupN 5 x with
  | false =>
    have : reasonA R x = false := by
      unfold reasonA
      split
      · cases ht
      · rfl
    rw [ht] at t5
    simp [t5, this]
  | true =>
    rw [ht] at t5
    obtain ⟨a, w, g, ss, m, rfl⟩ : ∃ a w g ss m, x = .tup [a, w, g, ss, m] := by
      cases x with
      | tup es =>
        unfold tupN at ht
        match es, ht with
        | [a, w, g, ss, m], _ => exact ⟨a, w, g, ss, m, rfl⟩
        | [], ht => simp at ht
        | [_], ht => simp at ht
        | [_, _], ht => simp at ht
        | [_, _, _], ht => simp at ht
        | [_, _, _, _], ht => simp at ht
        | _ :: _ :: _ :: _ :: _ :: _ :: _, ht => simp at ht
      | _ => cases ht
    obtain ⟨ia, iw, ig, iss, im⟩ : AnyD a ∧ AnyD w ∧ AnyD g ∧ AnyD ss ∧ AnyD m := by
      cases hx with
      | tup _ h => exact ⟨h _ (by simp), h _ (by simp), h _ (by simp), h _ (by simp), h _ (by simp)⟩
    have ne := neO_str ia (w := "reason") (by unfold okS; decide)
    cases hr : isS "reason" a with
    | false =>
      rw [hr] at ne
      simp at ne
      simp [t5, ne, reasonA, hr]
    | true =>
      rw [hr] at ne
      simp at ne
      have n1 := is_name_any iw st
      cases hn : isNm w with
      | false =>
        have : reasonA R (.tup [a, w, g, ss, m]) = false := by
          show (isS "reason" a && bodyA R w g ss m) = false
          rw [hr]
          unfold bodyA
          split
          · rw [hn]; rfl
          · rfl
        rw [hn] at n1
        simp [t5, ne, cutD, HT.sIx, n1, this]
      | true =>
        rw [hn] at n1
        obtain ⟨word, rfl, hw⟩ : ∃ z, w = .str z ∧ NameS z := by
          cases w with
          | str z => exact ⟨z, rfl, by unfold isNm at hn; simpa using hn⟩
          | _ => cases hn
        have n2 := are_names_any ig st
        cases hg : grp56 g with
        | none =>
          rw [hg] at n2
          simp at n2
          simp [t5, ne, cutD, HT.sIx, n1, n2, reasonA, bodyA, hg]
        | some P =>
          rw [hg] at n2
          simp at n2
          obtain ⟨rfl, hP0, hP⟩ := grp_inv hg
          have hz : P.length ≤ 1000 := by
            cases ig with
            | tup h _ => rw [List.length_map] at h; omega
          cases iss with
          | lst hl ha =>
            rename_i ss
            have er : reasonA R (.tup [a, .str word, .tup (P.map .str), .lst ss, m]) = chainA R P word ss m := by
              show (isS "reason" a && bodyA R (.str word) (.tup (P.map .str)) (.lst ss) m) = _
              unfold bodyA
              rw [hg, hr]
              simp [hn]
            rw [er]
            simp [t5, ne, cutD, HT.sIx, n1, n2]
            refine SOk.mono (steps56 hR hO hP hz hw.ok ha hl im) ?_ (fun _ _ h => h)
            rintro ρ st' ⟨rfl, t, seen, x8, x9, hgo, rfl⟩
            rw [List.take_length] at hgo
            have hre : chainA R P word ss m = endA m (t, seen) := by unfold chainA; rw [hgo]
            obtain ⟨okt, oks⟩ := goA_ok hO ss _ _ _ _ hw.ok (fun x hx => by cases hx) hgo
            have isn := isN_any false im
            simp at isn
            cases t with
            | non =>
              have e := eqO_non im
              have e' : pEqO m .non = some (.bl (isNon m)) := by
                rw [e]
                cases im <;> rfl
              simp [-dOf, -lkD, hre, endA, Dt.d, e']
            | nm z =>
              have e := eqO_str im (w := z) okt
              simp [-dOf, -lkD, hre, endA, Dt.d, e]
            | later w =>
              have okw : okS w := okt
              have pin := inO_strL false okw oks
              simp at pin
              by_cases hin : w ∈ seen
              · simp [-dOf, -lkD, pin, hin, hre, endA, isn]
              · simp [-dOf, -lkD, pin, hin, hre, endA]
          | _ => simp [t5, ne, cutD, HT.sIx, n1, n2, reasonA, bodyA, hg]
def GInvA (d X : D) (R : List (Str × List Rw)) (P : List Str) (word : Str) (ss : List D) (st : Store) (q : Nat) (ρ : En) (st' : Store) : Prop :=
  st' = st ∧ ∃ t seen x4 x5, goA R P (ss.take q) (.later word) [] = some (t, seen) ∧ ρ = [.val d, .val X, .val (Dt.d t), .ml (seen.map .str), x4, x5]
theorem lsteps56 {d : D} {R : List (Str × List Rw)} {P : List Str} {word : Str} {ss : List D} {a m : D} {st : Store} {x4 x5 : Sl} (hR : dOf (lkD st d) = some (dctD R)) (hO : ∀ p ∈ R, RsOk p.2) (hP : ∀ x ∈ P, NameS x) (hz : P.length ≤ 1000) (hw : okS word) (hs : ∀ s ∈ ss, AnyD s) (hsl : ss.length ≤ 60) (hm : AnyD m) :
    SOk (forD (gN 4) f__law_reason_good_1 ss [.val d, .val (.tup [a, .str word, .tup (P.map .str), .lst ss, m]), .val (.tup [.str "later", .str word]), .ml [], x4, x5] st) (GInvA d (.tup [a, .str word, .tup (P.map .str), .lst ss, m]) R P word ss st ss.length) (fun d st' => (d = .bl (chainA R P word ss m)) ∧ st' = st) := by
  have hp' : ∀ x ∈ P, okS x := fun x hx => (hP x hx).ok
  refine SOk_at ss (GInvA d _ R P word ss st) ⟨rfl, .later word, [], _, _, rfl, rfl⟩ ?_ (fun _ _ h => h)
  rintro q s ρ st' hq ⟨rfl, t, seen, x4, x5, hgo, rfl⟩
  have hta : ss.take (q + 1) = ss.take q ++ [s] := by rw [List.take_add_one, hq]; rfl
  have hmem := List.mem_of_getElem? hq
  have hql := (List.getElem?_eq_some_iff.mp hq).1
  have esp : ss = ss.take q ++ s :: ss.drop (q + 1) := by
    rw [← (List.getElem?_eq_some_iff.mp hq).2, ← List.drop_eq_getElem_cons hql, List.take_append_drop]
  have hgo1 : goA R P (ss.take (q + 1)) (.later word) [] = goA R P [s] t seen := by rw [hta, goA_app, hgo]; rfl
  have hfail : goA R P [s] t seen = none → chainA R P word ss m = false := fun h => by
    have : goA R P ss (.later word) [] = none := by
      rw [esp, show ss.take q ++ s :: ss.drop (q + 1) = (ss.take q ++ [s]) ++ ss.drop (q + 1) by simp, goA_app, ← hta, hgo1, h]; rfl
    unfold chainA
    rw [this]
  obtain ⟨okt, oks⟩ := goA_ok hO (ss.take q) _ _ _ _ hw (fun x hx => by cases hx) hgo
  have hsl2 : seen.length < sizeLine := by have := goA_len _ _ _ _ _ hgo; simp at this; rw [sizeLine_eq]; omega
  have is := hs s hmem
  refine ⟨_, rfl, ?_⟩
  unfold f__law_reason_good_1
  cases t with
  | non =>
    have := hfail rfl
    simp [-dOf, -lkD, this]
  | nm z =>
    have := hfail rfl
    simp [-dOf, -lkD, this]
  | later w =>
    have okw : okS w := okt
    have pin := inO_strL false okw oks
    simp at pin
    by_cases hin : w ∈ seen
    · have := hfail (by simp [goA, hin])
      simp [-dOf, -lkD, pin, hin, this]
    · have sg := step_good_any (st := st') (own_ok (w := w) hO) hp' hz okw is
      cases sA : stepA (own R w) P w s with
      | false =>
        have := hfail (by simp [goA, hin, sA])
        rw [sA] at sg
        simp [-dOf, -lkD, pin, hin, hR, own_get, sg, this]
      | true =>
        rw [sA] at sg
        obtain ⟨sa, sab, o, rfl, _, _, hlt, hnx⟩ := stepA_inv sA
        have hgo2 : goA R P (ss.take (q + 1)) (.later word) [] = some (stepT (own R w) o, seen ++ [w]) := by
          rw [hgo1]; simp [goA, hin, sA, hnx]
        have fin : GInvA d (.tup [a, .str word, .tup (P.map .str), .lst ss, m]) R P word ss st' (q + 1) [.val d, .val (.tup [a, .str word, .tup (P.map .str), .lst ss, m]), .val (Dt.d (stepT (own R w) o)), .ml (seen.map .str ++ [.str w]), .val (.tup [sa, optD o, sab]), .val (rowsD (own R w))] st' :=
          ⟨rfl, stepT (own R w) o, seen ++ [w], _, _, hgo2, by simp; exact ⟨rfl, rfl⟩⟩
        cases o with
        | none =>
          rw [show optD none = .non from rfl] at sg fin
          simp [-dOf, -lkD, pin, hin, hR, own_get, sg, hsl2, show optD none = .non from rfl]
          exact fin
        | some i =>
          have hi := hlt i rfl
          have ho1 : (own R w)[i]? = some (own R w)[i] := List.getElem?_eq_getElem hi
          have hth : stepT (own R w) (some i) = (own R w)[i].1 := by simp [stepT, hi]
          rw [show optD (some i) = .int i from rfl] at sg fin
          rw [hth] at fin
          generalize (own R w)[i] = r0 at ho1 fin
          unfold rowsD at sg fin
          simp [-dOf, -lkD, pin, hin, hR, own_get, sg, hsl2, show optD (some i) = .int i from rfl, rowsD, rowD, ho1]
          exact fin
theorem law_reason_good_any {d x : D} {R : List (Str × List Rw)} {st : Store} (hR : dOf (lkD st d) = some (dctD R)) (hO : ∀ p ∈ R, RsOk p.2) (hx : AnyD x) :
    d__law_reason_good [d, x] st = .ok (.bl (reasonA R x)) [] st := by
  refine DOk.eq ?_
  unfold d__law_reason_good
  refine DOk_run ?_
  unfold b__law_reason_good
  cases hx with
  | tup hl ha =>
    rename_i es
    have n3 := neO_nat es.length 5
    by_cases h5 : es.length = 5
    · match es, h5, ha, n3 with
      | [a, w, g, ss, m], hl5, ha, n3 =>
        have ia : AnyD a := ha a (by simp)
        have iw : AnyD w := ha w (by simp)
        have ig : AnyD g := ha g (by simp)
        have iss : AnyD ss := ha ss (by simp)
        have im : AnyD m := ha m (by simp)
        simp at n3
        have ne := neO_str ia (w := "reason") (by unfold okS; decide)
        cases hr : isS "reason" a with
        | false =>
          rw [hr] at ne
          simp at ne
          simp [n3, ne, reasonA, hr]
        | true =>
          rw [hr] at ne
          simp at ne
          have n1 := lis_name_any iw st
          cases hn : isNm w with
          | false =>
            have : reasonA R (.tup [a, w, g, ss, m]) = false := by
              show (isS "reason" a && bodyA R w g ss m) = false
              rw [hr]
              unfold bodyA
              split
              · rw [hn]; rfl
              · rfl
            rw [hn] at n1
            simp [n3, ne, n1, this]
          | true =>
            rw [hn] at n1
            obtain ⟨word, rfl, hw⟩ : ∃ z, w = .str z ∧ NameS z := by
              cases w with
              | str z => exact ⟨z, rfl, by unfold isNm at hn; simpa using hn⟩
              | _ => cases hn
            have n2 := lare_names_any ig st
            cases hg : grp56 g with
            | none =>
              rw [hg] at n2
              simp at n2
              simp [n3, ne, n1, n2, reasonA, bodyA, hg]
            | some P =>
              rw [hg] at n2
              simp at n2
              obtain ⟨rfl, hP0, hP⟩ := grp_inv hg
              have hz : P.length ≤ 1000 := by
                cases ig with
                | tup h _ => rw [List.length_map] at h; omega
              cases iss with
              | @lst ss hs60 has =>
                have er : reasonA R (.tup [a, .str word, .tup (P.map .str), .lst ss, m]) = chainA R P word ss m := by
                  show (isS "reason" a && bodyA R (.str word) (.tup (P.map .str)) (.lst ss) m) = _
                  unfold bodyA
                  rw [hg, hr]
                  simp [hn]
                rw [er]
                by_cases hnil : ss = []
                · subst hnil
                  have : chainA R P word [] m = false := by simp [chainA, goA, endA]
                  simp [n3, ne, n1, n2, this]
                simp [n3, ne, n1, n2, hnil]
                refine SOk.mono (lsteps56 hR hO hP hz hw.ok has hs60 im) ?_ (fun _ _ h => h)
                rintro ρ st' ⟨rfl, t, seen, x8, x9, hgo, rfl⟩
                rw [List.take_length] at hgo
                have hre : chainA R P word ss m = endA m (t, seen) := by unfold chainA; rw [hgo]
                obtain ⟨okt, oks⟩ := goA_ok hO ss _ _ _ _ hw.ok (fun x hx => by cases hx) hgo
                have isn := isN_any false im
                simp at isn
                cases t with
                | non =>
                  have e := eqO_non im
                  have e' : pEqO m .non = some (.bl (isNon m)) := by
                    rw [e]
                    cases im <;> rfl
                  simp [-dOf, -lkD, hre, endA, Dt.d, e']
                | nm z =>
                  have e := eqO_str im (w := z) okt
                  simp [-dOf, -lkD, hre, endA, Dt.d, e]
                | later w =>
                  have okw : okS w := okt
                  have pin := inO_strL false okw oks
                  simp at pin
                  by_cases hin : w ∈ seen
                  · simp [-dOf, -lkD, pin, hin, hre, endA, isn]
                  · simp [-dOf, -lkD, pin, hin, hre, endA]
              | _ => simp [n3, ne, n1, n2, reasonA, bodyA, hg]
    · have : reasonA R (.tup es) = false := by
        unfold reasonA
        split
        · rename_i e
          cases e
          exact absurd rfl h5
        · rfl
      simp [h5] at n3
      simp [n3, this]
  | _ => simp [reasonA, seen]
theorem gt_int (i j : Int) : pGtX (.int i) (.int j) = some (.bl (decide (j < i))) := rfl
theorem absent_mem {he P : List Str} (ha : P.all (fun p => decide (p ∈ he)) = false) : absentP he P ∈ P ∧ absentP he P ∉ he := by
  have hne : (P.filter fun p => decide (p ∉ he)) ≠ [] := fun e => by
    rw [List.filter_eq_nil_iff] at e
    have : P.all (fun p => decide (p ∈ he)) = true := List.all_eq_true.mpr fun p hp => by simpa using e p hp
    rw [this] at ha; cases ha
  obtain ⟨y, ys, hy⟩ := List.exists_cons_of_ne_nil hne
  have hy2 : absentP he P = y := by unfold absentP; rw [hy]; rfl
  have := List.mem_filter.mp (show y ∈ P.filter fun p => decide (p ∉ he) by rw [hy]; exact List.mem_cons_self ..)
  rw [hy2]
  exact ⟨this.1, by simpa using this.2⟩
def RgtS (R : List (Str × List Rw)) (P : List Str) (w : Str) (s : D) : Prop := stepA (own R w) P w s = true ∧ nextT (own R w) s = nxt R P w
inductive WkS (R : List (Str × List Rw)) (P : List Str) (word : Str) : List Str → List D → Th → Prop
  | nil : WkS R P word [] [] (.later word)
  | step {asked : List Str} {ss : List D} {w : Str} {s : D} : WkS R P word asked ss (.later w) → w ∉ asked → RgtS R P w s → WkS R P word (asked ++ [w]) (ss ++ [s]) (nxt R P w)
theorem WkS.wk {R : List (Str × List Rw)} {P : List Str} {word : Str} {asked : List Str} {ss : List D} {t : Th} (h : WkS R P word asked ss t) : Wk R P word asked t := by
  induction h with
  | nil => exact .nil
  | step _ hn _ ih => exact .step ih hn
theorem WkS.of {R : List (Str × List Rw)} {P : List Str} {word : Str} {f : Str → D} (hf : ∀ w, RgtS R P w (f w)) {asked : List Str} {t : Th} (h : Wk R P word asked t) : WkS R P word asked (asked.map f) t := by
  induction h with
  | nil => exact .nil
  | step _ hn ih => rw [List.map_append]; exact .step ih hn (hf _)
theorem WkS.go {R : List (Str × List Rw)} {P : List Str} {word : Str} {asked : List Str} {ss : List D} {t : Th} (h : WkS R P word asked ss t) : goA R P ss (.later word) [] = some (t, asked) := by
  induction h with
  | nil => rfl
  | @step asked ss w s h hn hr ih =>
    rw [goA_app, ih]
    show goA R P [s] (.later w) asked = _
    unfold goA
    rw [if_neg hn, if_pos hr.1, hr.2]
    rfl
theorem isS_self (s : Str) : isS s (.str s) = true := by simp [isS]
theorem good_reason {R : List (Str × List Rw)} {P : List Str} {word : Str} {asked : List Str} {ss : List D} {t : Th} (h : WkS R P word asked ss t) (hd : Wdone asked t) (hw : NameS word) (hg : grp56 (.tup (P.map .str)) = some P) :
    reasonA R (.tup [.str "reason", .str word, .tup (P.map .str), .lst ss, Dt.d (finT t)]) = true := by
  show (isS "reason" (.str "reason") && bodyA R (.str word) (.tup (P.map .str)) (.lst ss) (Dt.d (finT t))) = true
  rw [isS_self, Bool.true_and]
  unfold bodyA
  rw [hg]
  show (isNm (.str word) && chainA R P word ss (Dt.d (finT t))) = true
  have h1 : isNm (.str word) = true := by unfold isNm; simpa using hw
  rw [h1, Bool.true_and]
  unfold chainA
  rw [h.go]
  cases t with
  | non => rfl
  | nm z => exact isS_self z
  | later w =>
    show (decide (w ∈ asked) && isNon .non) = true
    simp [hd w rfl, isNon]
theorem absB_of {rs : List Rw} {P : List Str} {o : Option Nat} {ab : List (Nat × Str)} (h1 : ab.map (·.1) = toMiss rs o) (h2 : ∀ p ∈ ab, p.2 ∈ P ∧ p.2 ∉ heAt rs p.1) : absB rs P o (.lst (ab.map mD)) = true := by
  show (decide ((ab.map mD).length = (toMiss rs o).length) && ((ab.map mD).zip (toMiss rs o)).all fun p => pairOk rs P p.2 p.1) = true
  rw [← h1]
  have l : (ab.map mD).length = (ab.map (·.1)).length := by simp
  rw [decide_eq_true l, Bool.true_and]
  clear h1 l
  induction ab with
  | nil => rfl
  | cons p ab ih =>
    obtain ⟨m, x⟩ := p
    have hx := h2 (m, x) (List.mem_cons_self ..)
    have := ih fun q hq => h2 q (List.mem_cons_of_mem _ hq)
    simp only [List.map_cons, List.zip_cons_cons, List.all_cons, this, Bool.and_true]
    simp [mD, pairOk, inG, hx.1, hx.2]
theorem rgt_of {R : List (Str × List Rw)} {P : List Str} {w : Str} {o : Option Nat} {ab : List (Nat × Str)} (hl : ∀ i, o = some i → i < (own R w).length ∧ ∀ p ∈ P, p ∈ heAt (own R w) i)
    (h1 : ab.map (·.1) = toMiss (own R w) o) (h2 : ∀ p ∈ ab, p.2 ∈ P ∧ p.2 ∉ heAt (own R w) p.1) (hn : stepT (own R w) o = nxt R P w) : RgtS R P w (.tup [.str w, optD o, .lst (ab.map mD)]) := by
  have hb := absB_of h1 h2
  constructor
  · show (isS w (.str w) && stepC (own R w) P (.lst (ab.map mD)) (optD o)) = true
    rw [isS_self, Bool.true_and]
    cases o with
    | none => exact hb
    | some i =>
      obtain ⟨h3, h4⟩ := hl i rfl
      show ((decide ((0 : Int) ≤ (i : Int)) && decide ((i : Int) < ((own R w).length : Int))) && ((P.all fun p => decide (p ∈ heAt (own R w) (i : Int).toNat)) && absB (own R w) P (some (i : Int).toNat) (.lst (ab.map mD)))) = true
      rw [Int.toNat_natCast, hb, decide_eq_true (by omega : (0 : Int) ≤ (i : Int)), decide_eq_true (by omega : (i : Int) < ((own R w).length : Int))]
      simpa using h4
  · cases o with
    | none => exact hn
    | some i =>
      show stepT (own R w) (some (i : Int).toNat) = _
      rw [Int.toNat_natCast]
      exact hn
theorem rgt_step (R : List (Str × List Rw)) (P : List Str) (w : Str) : RgtS R P w (stepD (own R w) P w) := by
  refine rgt_of (fun i hi => ⟨lastH_lt i hi, ?_⟩) ?_ ?_ rfl
  · intro p hp
    rcases lastH_cases P (own R w) with ⟨h1, _⟩ | ⟨a, r, b, e, h1, _, h2⟩
    · rw [h1] at hi; cases hi
    · rw [h2] at hi
      cases hi
      have : heAt (own R w) a.length = r.2 := by simp [heAt, e]
      rw [this]
      have := List.all_eq_true.mp h1 p hp
      simpa using this
  · simp [missD, Function.comp_def]
  · intro p hp
    simp only [missD, List.mem_map] at hp
    obtain ⟨i, hi, rfl⟩ := hp
    have := miss_mem hi
    exact absent_mem (not_heard this.1 this.2)
theorem reason_right_A {R : List (Str × List Rw)} {P : List Str} {word : Str} {asked : List Str} {t : Th} (h : Wk R P word asked t) (hd : Wdone asked t) (hw : NameS word) (hg : grp56 (.tup (P.map .str)) = some P) : reasonA R (reasonD R P word asked t) = true :=
  good_reason (WkS.of (rgt_step R P) h) hd hw hg
theorem grp_srt {g : List Str} (nd : g.Nodup) (h0 : 0 < g.length) (hn : ∀ x ∈ g, NameS x) : grp56 (.tup ((srt g).map .str)) = some (srt g) := by
  have hl : (srt g).length = g.length := (srt_perm g).length_eq
  rw [grp_yes (fun e => by rw [e] at hl; simp at hl; omega) (fun x hx => hn x (srt_mem.mp hx)), if_pos (sst_id (srt_nodup nd) (srt_pw g))]
def hK (rs : List Rw) (g : List Str) (k : Nat) : Bool := g.all fun p => decide (p ∈ heAt rs k)
theorem hK_at {rs : List Rw} {g : List Str} {k : Nat} (h : k < rs.length) : hK rs g k = heard g rs[k] := by
  unfold hK heard heAt
  simp [h]
def hsL (rs : List Rw) (g : List Str) : List Nat := (List.range rs.length).filter (hK rs g)
theorem hsL_mem {rs : List Rw} {g : List Str} {k : Nat} : k ∈ hsL rs g ↔ k < rs.length ∧ hK rs g k = true := by simp [hsL]
theorem hsL_last (rs : List Rw) (g : List Str) : (hsL rs g = [] ∧ lastH g rs = none) ∨ ∃ p c, hsL rs g = p ++ [c] ∧ lastH g rs = some c := by
  rcases lastH_cases g rs with ⟨h1, h2⟩ | ⟨a, r, b, e, h1, h2, h3⟩
  · refine .inl ⟨?_, h1⟩
    unfold hsL
    rw [List.filter_eq_nil_iff]
    intro k hk
    have hk' : k < rs.length := by simpa using hk
    rw [hK_at hk', h2 _ (List.getElem_mem hk')]
    decide
  · refine .inr ⟨(List.range a.length).filter (hK rs g), a.length, ?_, h3⟩
    have hl : rs.length = a.length + (b.length + 1) := by rw [e]; simp
    unfold hsL
    rw [hl, List.range_add, List.filter_append]
    congr 1
    rw [List.range_succ_eq_map, List.map_cons, List.filter_cons]
    have k0 : hK rs g (a.length + 0) = true := by
      rw [hK_at (by omega)]
      have : rs[a.length + 0]'(by omega) = r := by simp [e]
      rw [this]; exact h1
    rw [if_pos k0]
    congr 1
    rw [List.filter_eq_nil_iff]
    intro k hk
    simp only [List.mem_map, List.mem_range] at hk
    obtain ⟨_, ⟨j, hj, rfl⟩, rfl⟩ := hk
    have hj' : a.length + (j + 1) < rs.length := by omega
    show ¬ hK rs g (a.length + (j + 1)) = true
    rw [hK_at hj']
    have : rs[a.length + (j + 1)]'hj' = b[j] := by
      subst e
      rw [List.getElem_append_right (by omega)]
      simp
    rw [this, h2 _ (List.getElem_mem hj)]
    decide
def laterL (rs : List Rw) (g : List Str) (th : Th) (k : Nat) : List Nat := (hsL rs g).filter fun j => decide (k ≤ j) && !decide (thAt rs j = th)
def fitL (rs : List Rw) (g : List Str) (th : Th) : List Nat := (hsL rs g).filter fun k => (laterL rs g th k).isEmpty
theorem fit_mem {rs : List Rw} {g : List Str} {th : Th} {k : Nat} : k ∈ fitL rs g th ↔ k ∈ hsL rs g ∧ ∀ j ∈ hsL rs g, k ≤ j → thAt rs j = th := by
  unfold fitL
  rw [List.mem_filter, List.isEmpty_iff]
  constructor
  · rintro ⟨h1, h2⟩
    refine ⟨h1, fun j hj hk => ?_⟩
    have := List.filter_eq_nil_iff.mp h2 j hj
    simpa [hk] using this
  · rintro ⟨h1, h2⟩
    refine ⟨h1, List.filter_eq_nil_iff.mpr fun j hj => ?_⟩
    simp only [Bool.and_eq_true, decide_eq_true_eq, Bool.not_eq_true', decide_eq_false_iff_not, not_and, Decidable.not_not]
    exact fun hk => h2 j hj hk
structure StpO (rs : List Rw) (g : List Str) (o : Option Nat) : Prop where
  at_ : ∀ i, o = some i → i < rs.length ∧ hK rs g i = true
  th : stepT rs o = stepT rs (lastH g rs)
  skip : ∀ k, firstAt o ≤ k → k < rs.length → thAt rs k ≠ stepT rs (lastH g rs) → hK rs g k = false
theorem stpO_fit {rs : List Rw} {g : List Str} {c i : Nat} (hc : lastH g rs = some c) (hi : i ∈ fitL rs g (thAt rs c)) : StpO rs g (some i) := by
  obtain ⟨h1, h2⟩ := fit_mem.mp hi
  obtain ⟨h3, h4⟩ := hsL_mem.mp h1
  have e : stepT rs (lastH g rs) = thAt rs c := by rw [hc]; rfl
  refine ⟨fun j hj => by cases hj; exact ⟨h3, h4⟩, by rw [e]; exact h2 i h1 (Nat.le_refl _), fun k hk hl hn => ?_⟩
  rw [e] at hn
  cases hh : hK rs g k with
  | false => rfl
  | true =>
    have : i ≤ k := by have : i + 1 ≤ k := hk; omega
    exact absurd (h2 k (hsL_mem.mpr ⟨hl, hh⟩) this) hn
theorem stpO_none {rs : List Rw} {g : List Str} (h : lastH g rs = none) : StpO rs g none := by
  refine ⟨(fun i hi => by cases hi), by rw [h], fun k _ hl _ => ?_⟩
  rcases hsL_last rs g with ⟨e, _⟩ | ⟨p, c, _, e⟩
  · cases hh : hK rs g k with
    | false => rfl
    | true =>
      have := hsL_mem.mpr ⟨hl, hh⟩
      rw [e] at this; cases this
  · rw [h] at e; cases e
theorem stpO_no {rs : List Rw} {g : List Str} {c : Nat} (hc : lastH g rs = some c) (hn : thAt rs c = .non) (hf : fitL rs g (thAt rs c) = hsL rs g) : StpO rs g none := by
  have e : stepT rs (lastH g rs) = thAt rs c := by rw [hc]; rfl
  refine ⟨(fun i hi => by cases hi), by rw [e, hn]; rfl, fun k _ hl h => ?_⟩
  rw [e] at h
  cases hh : hK rs g k with
  | false => rfl
  | true =>
    have m := hsL_mem.mpr ⟨hl, hh⟩
    rw [← hf] at m
    obtain ⟨h1, h2⟩ := fit_mem.mp m
    exact absurd (h2 k h1 (Nat.le_refl _)) h
theorem toMiss_eq (rs : List Rw) (o : Option Nat) (h : firstAt o ≤ rs.length) : toMiss rs o = (List.range rs.length).filter fun k => decide (firstAt o ≤ k) && !decide (thAt rs k = stepT rs o) := by
  have e : List.range rs.length = List.range (firstAt o) ++ (List.range (rs.length - firstAt o)).map (firstAt o + ·) := by
    rw [← List.range_add]; congr 1; omega
  rw [e, List.filter_append]
  have z : (List.range (firstAt o)).filter (fun k => decide (firstAt o ≤ k) && !decide (thAt rs k = stepT rs o)) = [] := by
    rw [List.filter_eq_nil_iff]
    intro k hk
    have : k < firstAt o := by simpa using hk
    simp; omega
  rw [z, List.nil_append]
  unfold toMiss
  refine List.filter_congr fun k hk => ?_
  simp only [List.mem_map, List.mem_range] at hk
  obtain ⟨j, _, rfl⟩ := hk
  simp
theorem miss_emp {rs : List Rw} {g : List Str} {k : Nat} : (g.filter fun x => !decide (x ∈ heAt rs k)).isEmpty = hK rs g k := by
  unfold hK
  rw [Bool.eq_iff_iff, List.isEmpty_iff, List.filter_eq_nil_iff, List.all_eq_true]
  simp
theorem row_at {rs : List Rw} {k : Nat} (h : k < rs.length) : atI (rs.map rowD) (k : Int) = some (.tup [Dt.d (thAt rs k), .tup ((heAt rs k).map .str)]) := by
  rw [DL.atI_nat, List.getElem?_map, List.getElem?_eq_getElem h]
  simp [rowD, thAt, heAt, h]
theorem thAt_ok {rs : List Rw} (ho : RsOk rs) (k : Nat) : Dt.ok (thAt rs k) := by
  unfold thAt
  cases e : rs[k]? with
  | none => exact trivial
  | some r => exact (ho.ok _ (List.mem_of_getElem? e)).th
theorem rngI (n : Nat) : rngItems 0 n = (List.range n).map fun i : Nat => D.int i := by simp [rngItems]
def oEn (l : Nat) (rs : List Rw) (w : Str) (g : List Str) (o : Option Nat) (x7 : Sl) (ab : List (Nat × Str)) (x9 x10 x11 x12 : Sl) : En :=
  [.val (.ref l), .val (rowsD rs), .val (.str w), .val (.lst (g.map .str)), .val (.lst ((hsL rs g).map fun i : Nat => .int i)), .val (optD o), .val (Dt.d (stepT rs (lastH g rs))), x7, .ml (ab.map mD), x9, x10, x11, x12]
def OInv (l : Nat) (rs : List Rw) (w : Str) (g : List Str) (o : Option Nat) (x7 : Sl) (q : Nat) (ρ : En) (st : Store) : Prop :=
  Bag st l ∧ ∃ ab x9 x10 x11 x12, ab.map (·.1) = (List.range q).filter (fun k => decide (firstAt o ≤ k) && !decide (thAt rs k = stepT rs o)) ∧ (∀ p ∈ ab, p.2 ∈ g ∧ p.2 ∉ heAt rs p.1) ∧ ρ = oEn l rs w g o x7 ab x9 x10 x11 x12
theorem ostep_tail {N : En → Store → Prop} {l : Nat} {rs : List Rw} {w : Str} {g : List Str} {o : Option Nat} {x7 x8 x9 x10 x11 x12 : Sl} {st : Store} {Q : D → Store → Prop} (ho : RsOk rs) (hl : rs.length ≤ 100) (hg : ∀ x ∈ g, okS x) (hgz : g.length ≤ 100) (hb : Bag st l) (hs : StpO rs g o)
    (K : ∀ (ab : List (Nat × Str)) (st' : Store), ab.map (·.1) = toMiss rs o → (∀ p ∈ ab, p.2 ∈ g ∧ p.2 ∉ heAt rs p.1) → Bag st' l → Q (.tup [.tup [.str w, optD o, .lst (ab.map mD)], Dt.d (stepT rs o)]) st') :
    SOk (seqD (setOD (lstD aNil) 8)
  (seqD (forE (rng1 (aCons (lift1 pLen (pureE (pvw 1))) aNil)) (gN 9)
    f__law_other_step_2)
  (retD (aCons (aCons (vr 2) (aCons (vr 5) (aCons (frzE 8) aNil))) (aCons (vr 6) aNil)))) [.val (.ref l), .val (rowsD rs), .val (.str w), .val (.lst (g.map .str)), .val (.lst ((hsL rs g).map fun i : Nat => .int i)), .val (optD o), .val (Dt.d (stepT rs (lastH g rs))), x7, x8, x9, x10, x11, x12] st) N Q := by
  have rg : Rg (rs.length : Int) := .of (by omega) (by omega)
  have f1 : firstAt o ≤ rs.length := by
    cases o with
    | none => exact Nat.zero_le _
    | some i => exact (hs.at_ i rfl).1
  unfold rowsD
  simp [rg]
  refine SOk_rng rs.length (OInv l rs w g o x7) ⟨hb, [], x9, x10, x11, x12, rfl, (fun p h => by cases h), rfl⟩ ?_ ?_
  · rintro q ρ st' hq ⟨hb', ab, y9, y10, y11, y12, e1, e2, rfl⟩
    refine ⟨_, rfl, ?_⟩
    unfold f__law_other_step_2 oEn rowsD
    have hth := hs.th
    have ne : pNe (Dt.d (thAt rs q)) (Dt.d (stepT rs (lastH g rs))) = some (.bl (!decide (thAt rs q = stepT rs (lastH g rs)))) := by
      refine pNe_dt (thAt_ok ho q) ?_
      rw [← hth]
      cases o with
      | none => exact trivial
      | some i => exact thAt_ok ho i
    have ra := row_at hq
    have step : ∀ (b : Bool), (List.range (q + 1)).filter (fun k => decide (firstAt o ≤ k) && !decide (thAt rs k = stepT rs o)) = (List.range q).filter (fun k => decide (firstAt o ≤ k) && !decide (thAt rs k = stepT rs o)) ++ (if decide (firstAt o ≤ q) && !decide (thAt rs q = stepT rs o) then [q] else []) := by
      intro _
      rw [List.range_succ, List.filter_append]
      congr 1
      rw [List.filter_cons, List.filter_nil]
    have step := step true
    by_cases hf : firstAt o ≤ q ∧ thAt rs q ≠ stepT rs o
    · have hh := hs.skip q hf.1 hq (by rw [← hth]; exact hf.2)
      have hd : decide (thAt rs q = stepT rs (lastH g rs)) = false := by rw [← hth]; simpa using hf.2
      have mis : ∀ (x11 : Sl), True := fun _ => trivial
      have hne : (g.filter fun x => !decide (x ∈ heAt rs q)) ≠ [] := fun e => by
        have := miss_emp (rs := rs) (g := g) (k := q)
        rw [e, hh] at this; cases this
      have gz : g.length ≤ sizeLine := by rw [sizeLine_eq]; omega
      have mis := miss_emp (rs := rs) (g := g) (k := q)
      have hml : ∀ x ∈ g.filter (fun x => !decide (x ∈ heAt rs q)), x ∈ g ∧ x ∉ heAt rs q := fun x hx => by
        obtain ⟨h1, h2⟩ := List.mem_filter.mp hx
        exact ⟨h1, by simpa using h2⟩
      have hmz : (g.filter fun x => !decide (x ∈ heAt rs q)).length ≤ 100 := Nat.le_trans (List.length_filter_le ..) hgz
      have hm0 : 0 < (g.filter fun x => !decide (x ∈ heAt rs q)).length := List.length_pos_iff.mpr hne
      have abz : ab.length < sizeLine := by
        have h1 := congrArg List.length e1
        have h2 := List.length_filter_le (fun k => decide (firstAt o ≤ k) && !decide (thAt rs k = stepT rs o)) (List.range q)
        rw [List.length_range] at h2
        rw [List.length_map] at h1
        rw [sizeLine_eq]; omega
      cases o with
      | none =>
        simp [optD, ra, ne, hd, gz]
        refine EOk_lcP (fun x : Str => D.str x) (fun x => !decide (x ∈ heAt rs q)) (fun x : Str => D.str x) g [] (fun x hx => ⟨_, rfl, ?_⟩) ?_
        · have pin := pIn_tup (n := true) (hg x hx) (heAt_ok ho (i := q))
          simp at pin
          simp [t__law_other_step_1, ra, pin]
        · generalize (g.filter fun x => !decide (x ∈ heAt rs q)) = ms at hml hmz hm0
          simp
          refine COk.of (take_ok hb' (many := ms.length) hm0 (by omega) fun u st2 hu hb2 _ => ?_)
          obtain ⟨x, ex, mx⟩ := at_get (l := ms) hu
          have r0 : Rs (u : Int) := .of (by omega) (by omega)
          have fin : OInv l rs w g none x7 (q + 1) (oEn l rs w g none x7 (ab ++ [(q, x)]) (.val (.int q)) (.val (.lst (ms.map .str))) .no y12) st2 := by
            refine ⟨hb2, _, _, _, _, _, ?_, ?_, rfl⟩
            · rw [List.map_append, e1, step]
              have hf1 := hf.1
              have hf2 := hf.2
              simp [hf1, hf2]
            · intro p hp
              rcases List.mem_append.mp hp with hp | hp
              · exact e2 p hp
              · rw [List.mem_singleton.mp hp]; exact hml x mx
          have ix : pIx (.lst (ms.map fun x => D.str x)) (.int (u : Int)) = some (.str x) := by
            simp [ex, r0]
          unfold oEn at fin
          simp [optD, rowsD, mD] at fin
          simp [-pIx, ix, abz]
          exact fin
      | some i =>
        have hi : (i : Int) < (q : Int) := by have : i + 1 ≤ q := hf.1; omega
        simp [optD, ra, ne, hd, gz, gt_int, hi]
        refine EOk_lcP (fun x : Str => D.str x) (fun x => !decide (x ∈ heAt rs q)) (fun x : Str => D.str x) g [] (fun x hx => ⟨_, rfl, ?_⟩) ?_
        · have pin := pIn_tup (n := true) (hg x hx) (heAt_ok ho (i := q))
          simp at pin
          simp [t__law_other_step_1, ra, pin]
        · generalize (g.filter fun x => !decide (x ∈ heAt rs q)) = ms at hml hmz hm0
          simp
          refine COk.of (take_ok hb' (many := ms.length) hm0 (by omega) fun u st2 hu hb2 _ => ?_)
          obtain ⟨x, ex, mx⟩ := at_get (l := ms) hu
          have r0 : Rs (u : Int) := .of (by omega) (by omega)
          have fin : OInv l rs w g (some i) x7 (q + 1) (oEn l rs w g (some i) x7 (ab ++ [(q, x)]) (.val (.int q)) (.val (.lst (ms.map .str))) .no y12) st2 := by
            refine ⟨hb2, _, _, _, _, _, ?_, ?_, rfl⟩
            · rw [List.map_append, e1, step]
              have hf1 := hf.1
              have hf2 := hf.2
              simp [hf1, hf2]
            · intro p hp
              rcases List.mem_append.mp hp with hp | hp
              · exact e2 p hp
              · rw [List.mem_singleton.mp hp]; exact hml x mx
          have ix : pIx (.lst (ms.map fun x => D.str x)) (.int (u : Int)) = some (.str x) := by
            simp [ex, r0]
          unfold oEn at fin
          simp [optD, rowsD, mD] at fin
          simp [-pIx, ix, abz]
          exact fin
    · have fin : OInv l rs w g o x7 (q + 1) (oEn l rs w g o x7 ab (.val (.int q)) y10 y11 y12) st' := by
        refine ⟨hb', _, _, _, _, _, ?_, e2, rfl⟩
        rw [e1, step, if_neg, List.append_nil]
        intro h
        simp only [Bool.and_eq_true, decide_eq_true_eq, Bool.not_eq_true', decide_eq_false_iff_not] at h
        exact hf h
      unfold oEn rowsD at fin
      cases o with
      | none =>
        have ht : thAt rs q = stepT rs (lastH g rs) := by
          rw [← hth]
          exact Decidable.byContradiction fun h => hf ⟨Nat.zero_le _, h⟩
        rw [ht] at ne
        simp [optD, ra, ne, ht] at fin ⊢
        exact fin
      | some i =>
        by_cases hi : (i : Int) < (q : Int)
        · have ht : thAt rs q = stepT rs (lastH g rs) := by
            rw [← hth]
            exact Decidable.byContradiction fun h => hf ⟨(by show i + 1 ≤ q; omega), h⟩
          rw [ht] at ne
          simp [optD, ra, ne, ht, gt_int, hi] at fin ⊢
          exact fin
        · simp [optD, ra, gt_int, hi] at fin ⊢
          exact fin
  · rintro ρ st' ⟨hb', ab, y9, y10, y11, y12, e1, e2, rfl⟩
    rw [← toMiss_eq rs o f1] at e1
    have := K ab st' e1 e2 hb'
    have habz : (ab.map mD).length ≤ sizeLine := by
      have h1 := congrArg List.length e1
      have h2 : (toMiss rs o).length ≤ rs.length := by
        unfold toMiss
        refine Nat.le_trans (List.length_filter_le ..) ?_
        simp
      rw [List.length_map] at h1 ⊢
      rw [sizeLine_eq]; omega
    unfold oEn
    rw [← hs.th]
    simp
    exact this
theorem ge_int (i j : Int) : pGeX (.int i) (.int j) = some (.bl (decide (j ≤ i))) := by
  simp [ordB, D.py, PySem.W.alike, PyData.depth, PySem.W.dataLt]
theorem eq_ints (a b : List Nat) : pEq (.lst (a.map fun i : Nat => .int i)) (.lst (b.map fun i : Nat => .int i)) = some (.bl (decide (a = b))) := by
  have h := pEq_dt (α := List Int) (a := a.map fun i : Nat => (i : Int)) (b := b.map fun i : Nat => (i : Int)) (fun x _ => trivial) (fun x _ => trivial)
  have e : ∀ l : List Nat, (Dt.d (l.map fun i : Nat => (i : Int)) : D) = .lst (l.map fun i : Nat => .int i) := fun l => by
    show D.lst ((l.map fun i : Nat => (i : Int)).map Dt.d) = _
    rw [List.map_map]; rfl
  rw [e, e] at h
  rw [h]
  have inj : ∀ (x y : List Nat), x.map (fun i : Nat => (i : Int)) = y.map (fun i : Nat => (i : Int)) ↔ x = y := by
    intro x
    induction x with
    | nil => intro y; cases y <;> simp
    | cons u x ih => intro y; cases y with
      | nil => simp
      | cons v y =>
        rw [List.map_cons, List.map_cons, List.cons.injEq, List.cons.injEq, ih y]
        constructor
        · rintro ⟨h1, h2⟩; exact ⟨by omega, h2⟩
        · rintro ⟨h1, h2⟩; exact ⟨by rw [h1], h2⟩
  rw [decide_eq_decide.mpr (inj a b)]
noncomputable def tailS : DSx := (seqD (setOD (lstD aNil) 8)
  (seqD (forE (rng1 (aCons (lift1 pLen (pureE (pvw 1))) aNil)) (gN 9)
    f__law_other_step_2)
  (retD (aCons (aCons (vr 2) (aCons (vr 5) (aCons (frzE 8) aNil))) (aCons (vr 6) aNil)))))
theorem ostep_ok {l : Nat} {rs : List Rw} {w : Str} {g : List Str} {st : Store} {Q : D → Store → Prop} (ho : RsOk rs) (hl : rs.length ≤ 100) (hg : ∀ x ∈ g, okS x) (hgz : g.length ≤ 100) (hb : Bag st l)
    (K : ∀ (o : Option Nat) (ab : List (Nat × Str)) (st' : Store), StpO rs g o → ab.map (·.1) = toMiss rs o → (∀ p ∈ ab, p.2 ∈ g ∧ p.2 ∉ heAt rs p.1) → Bag st' l → Q (.tup [.tup [.str w, optD o, .lst (ab.map mD)], Dt.d (stepT rs o)]) st') :
    DOk (d__law_other_step [.ref l, rowsD rs, .str w, .lst (g.map .str)] st) Q := by
  unfold d__law_other_step
  refine DOk_run ?_
  unfold b__law_other_step
  rw [show (seqD (setOD (lstD aNil) 8)
  (seqD (forE (rng1 (aCons (lift1 pLen (pureE (pvw 1))) aNil)) (gN 9)
    f__law_other_step_2)
  (retD (aCons (aCons (vr 2) (aCons (vr 5) (aCons (frzE 8) aNil))) (aCons (vr 6) aNil))))) = tailS from rfl]
  have gz : g.length ≤ sizeLine := by rw [sizeLine_eq]; omega
  have rg : Rg (rs.length : Int) := .of (by omega) (by omega)
  have rz : rs.length ≤ sizeLine := by rw [sizeLine_eq]; omega
  have eR : rowsD rs = .lst (rs.map rowD) := rfl
  rw [eR]
  simp [rg, rngI, rz]
  refine EOk_lcP (fun i : Nat => D.int i) (hK rs g) (fun i : Nat => D.int i) (List.range rs.length) [] (fun k hk => ⟨_, rfl, ?_⟩) ?_
  · have hk' : k < rs.length := by simpa using hk
    have ra := row_at hk'
    unfold t__law_other_step_6
    simp [gz]
    refine EOk_lcP (fun x : Str => D.str x) (fun x => !decide (x ∈ heAt rs k)) (fun x : Str => D.str x) g [] (fun x hx => ⟨_, rfl, ?_⟩) ?_
    · have pin := pIn_tup (n := true) (hg x hx) (heAt_ok ho (i := k))
      simp at pin
      unfold t__law_other_step_5
      simp [ra, pin]
    · have mis := miss_emp (rs := rs) (g := g) (k := k)
      simp [mis]
  · rw [List.nil_append, show List.filter (hK rs g) (List.range rs.length) = hsL rs g from rfl]
    rcases hsL_last rs g with ⟨e, eL⟩ | ⟨p, c, e, eL⟩
    · have hE : (hsL rs g).isEmpty = true := by rw [e]; rfl
      simp [hE]
      have T := ostep_tail (N := fun x st => Q D.non st) (w := w) (o := none) (x7 := .no) (x8 := .no) (x9 := .no) (x10 := .no) (x11 := .no) (x12 := .no) ho hl hg hgz hb (stpO_none eL) (fun ab st' h1 h2 h3 => K none ab st' (stpO_none eL) h1 h2 h3)
      rw [eL] at T
      exact T
    · have hE : (hsL rs g).isEmpty = false := by rw [e]; simp
      have hA : atI ((hsL rs g).map fun i : Nat => D.int (i : Int)) (-1) = some (.int (c : Int)) := by
        rw [e, List.map_append]
        exact atI_last _ _
      have hc : c < rs.length := (hsL_mem.mp (by rw [e]; simp : c ∈ hsL rs g)).1
      have rc := row_at hc
      have hz : (hsL rs g).length ≤ sizeLine := by
        have : (hsL rs g).length ≤ (List.range rs.length).length := List.length_filter_le ..
        rw [List.length_range] at this; omega
      have hz1 : (hsL rs g).length ≤ 100 := by
        have : (hsL rs g).length ≤ (List.range rs.length).length := List.length_filter_le ..
        rw [List.length_range] at this; omega
      simp [hE, hA, rc, hz]
      refine EOk_lcP (fun i : Nat => D.int i) (fun k => (laterL rs g (thAt rs c) k).isEmpty) (fun i : Nat => D.int i) (hsL rs g) [] (fun k hk => ⟨_, rfl, ?_⟩) ?_
      · unfold t__law_other_step_4
        simp [hz]
        refine EOk_lcP (fun i : Nat => D.int i) (fun j => decide (k ≤ j) && !decide (thAt rs j = thAt rs c)) (fun i : Nat => D.int i) (hsL rs g) [] (fun j hj => ⟨_, rfl, ?_⟩) ?_
        · have hj' := (hsL_mem.mp hj).1
          have rj := row_at hj'
          have ne : pNe (Dt.d (thAt rs j)) (Dt.d (thAt rs c)) = some (.bl (!decide (thAt rs j = thAt rs c))) := pNe_dt (thAt_ok ho j) (thAt_ok ho c)
          unfold t__law_other_step_3
          by_cases hkj : k ≤ j
          · simp [ge_int, rj, ne, hkj]
          · simp [ge_int, hkj]
        · have : (List.filter (fun j => decide (k ≤ j) && !decide (thAt rs j = thAt rs c)) (hsL rs g)) = laterL rs g (thAt rs c) k := rfl
          rw [this]
          simp
      · rw [List.nil_append, show List.filter (fun k => (laterL rs g (thAt rs c) k).isEmpty) (hsL rs g) = fitL rs g (thAt rs c) from rfl]
        have hF0 : 0 < (fitL rs g (thAt rs c)).length := List.length_pos_iff.mpr (List.ne_nil_of_mem (a := c) (fit_mem.mpr ⟨by rw [e]; simp, fun j hj hcj => by
          have pw : (hsL rs g).Pairwise (· < ·) := List.pairwise_lt_range.filter _
          rw [e] at pw hj
          rcases List.mem_append.mp hj with hj | hj
          · have := (List.pairwise_append.mp pw).2.2 j hj c (List.mem_singleton.mpr rfl)
            omega
          · rw [List.mem_singleton.mp hj]⟩))
        have hF1 : (fitL rs g (thAt rs c)).length ≤ 100 := Nat.le_trans (List.length_filter_le ..) hz1
        simp
        refine COk.of (take_ok hb (many := (fitL rs g (thAt rs c)).length) hF0 (by omega) fun u st2 hu hb2 _ => ?_)
        obtain ⟨i, ei, mi⟩ := at_get (l := fitL rs g (thAt rs c)) hu
        have r0 : Rs (u : Int) := .of (by omega) (by omega)
        have ix : pIx (.lst ((fitL rs g (thAt rs c)).map fun i : Nat => D.int i)) (.int (u : Int)) = some (.int i) := by
          simp [ei, r0]
        have hso := stpO_fit eL mi
        have T := ostep_tail (N := fun x st => Q D.non st) (w := w) (o := some i) (x7 := .val (.lst ((fitL rs g (thAt rs c)).map fun i : Nat => D.int i))) (x8 := .no) (x9 := .no) (x10 := .no) (x11 := .no) (x12 := .no) ho hl hg hgz hb2 hso (fun ab st' h1 h2 h3 => K (some i) ab st' hso h1 h2 h3)
        rw [eL] at T
        simp [-pIx, ix]
        by_cases hn : thAt rs c = .non
        · have eq := eq_ints (fitL rs g (thAt rs c)) (hsL rs g)
          by_cases hf : fitL rs g (thAt rs c) = hsL rs g
          · rw [decide_eq_true hf] at eq
            simp [hn] at eq ⊢
            simp [eq]
            refine COk.of (take_ok hb2 (many := 2) (by decide) (by decide) fun v st3 hv hb3 _ => ?_)
            have ev := eqI (v := v) (j := 0)
            by_cases h0 : v = 0
            · have hso := stpO_no eL hn hf
              have T := ostep_tail (N := fun x st => Q D.non st) (w := w) (o := none) (x7 := .val (.lst ((fitL rs g (thAt rs c)).map fun i : Nat => D.int i))) (x8 := .no) (x9 := .no) (x10 := .no) (x11 := .no) (x12 := .no) ho hl hg hgz hb3 hso (fun ab st' h1 h2 h3 => K none ab st' hso h1 h2 h3)
              rw [eL] at T
              rw [show stepT rs (some c) = Th.non from hn, hn] at T
              simp [ev, h0]
              exact T
            · have T := ostep_tail (N := fun x st => Q D.non st) (w := w) (o := some i) (x7 := .val (.lst ((fitL rs g (thAt rs c)).map fun i : Nat => D.int i))) (x8 := .no) (x9 := .no) (x10 := .no) (x11 := .no) (x12 := .no) ho hl hg hgz hb3 hso (fun ab st' h1 h2 h3 => K (some i) ab st' hso h1 h2 h3)
              rw [eL, show stepT rs (some c) = Th.non from hn, hn] at T
              simp [ev, h0]
              exact T
          · rw [decide_eq_false hf] at eq
            simp [hn] at eq ⊢
            simp [eq]
            rw [show stepT rs (some c) = Th.non from hn, hn] at T
            exact T
        · simp [hn]
          exact T
def lowC (s : Str) : Prop := ∀ c ∈ s.cps.toList, 97 ≤ c ∧ c < 123
def plC (s : Str) : Prop := ∀ c ∈ s.cps.toList, 32 ≤ c ∧ c < 127 ∧ c ≠ 39 ∧ c ≠ 92
theorem lowC.pl {s : Str} (h : lowC s) : plC s := fun c hc => by have := h c hc; omega
theorem plC.ok {s : Str} (h : plC s) : okS s := fun c hc => by have := h c hc; omega
inductive AnyQ : Nat → D → Prop
  | non (k : Nat) : AnyQ k .non
  | int (k : Nat) (i : Nat) : i < 100 → AnyQ k (.int (i : Int))
  | str (k : Nat) {s : Str} : lowC s → s.length ≤ 8 → AnyQ k (.str s)
  | lst {k : Nat} {ds : List D} : ds.length ≤ 8 → (∀ d ∈ ds, AnyQ k d) → AnyQ (k + 1) (.lst ds)
  | tup {k : Nat} {ds : List D} : ds.length ≤ 8 → (∀ d ∈ ds, AnyQ k d) → AnyQ (k + 1) (.tup ds)
inductive AnyP : Nat → D → Prop
  | non (k : Nat) : AnyP k .non
  | bl (k : Nat) (b : Bool) : AnyP k (.bl b)
  | int (k : Nat) {i : Int} : (-1000 ≤ i ∧ i ≤ 1000 ∨ i = 10 ^ 20) → AnyP k (.int i)
  | str (k : Nat) {s : Str} : plC s → s.length ≤ 21 → AnyP k (.str s)
  | lst {k : Nat} {ds : List D} : ds.length ≤ 9 → (∀ d ∈ ds, AnyP k d) → AnyP (k + 1) (.lst ds)
  | tup {k : Nat} {ds : List D} : ds.length ≤ 9 → (∀ d ∈ ds, AnyP k d) → AnyP (k + 1) (.tup ds)
  | dct (k : Nat) : AnyP (k + 1) (.dct [(.inr "a", .int 1)])
theorem AnyP.up {k : Nat} {d : D} (h : AnyP k d) : AnyP (k + 1) d := by
  induction h with
  | non k => exact .non _
  | bl k b => exact .bl _ b
  | int k h => exact .int _ h
  | str k h l => exact .str _ h l
  | lst l _ ih => exact .lst l ih
  | tup l _ ih => exact .tup l ih
  | dct k => exact .dct _
theorem AnyQ.up {k : Nat} {d : D} (h : AnyQ k d) : AnyQ (k + 1) d := by
  induction h with
  | non k => exact .non _
  | int k i h => exact .int _ i h
  | str k h l => exact .str _ h l
  | lst l _ ih => exact .lst l ih
  | tup l _ ih => exact .tup l ih
theorem AnyQ.p {k : Nat} {d : D} (h : AnyQ k d) : AnyP k d := by
  induction h with
  | non k => exact .non _
  | int k i h => exact .int _ (.inl (by omega))
  | str k h l => exact .str _ h.pl (by omega)
  | lst l _ ih => exact .lst (by omega) ih
  | tup l _ ih => exact .tup (by omega) ih
theorem AnyP.any {k : Nat} {d : D} (h : AnyP k d) : AnyD d := by
  induction h with
  | non k => exact .non
  | bl k b => exact .bl b
  | int k h => exact .int _
  | str k h l => exact .str h.ok (by omega)
  | lst l _ ih => exact .lst (by omega) ih
  | tup l _ ih => exact .tup (by omega) ih
  | dct k => exact .dct _
theorem char_pl : ∀ c : Nat, 32 ≤ c → c < 127 → c ≠ 39 → c ≠ 92 → Builtin.Str.reprChar 39 c = [c] := fun c h1 h2 h3 h4 => by
  have : ∀ c : Fin 95, (32 + c.val = 39 ∨ 32 + c.val = 92) ∨ Builtin.Str.reprChar 39 (32 + c.val) = [32 + c.val] := by decide +kernel
  have := this ⟨c - 32, by omega⟩
  rw [show 32 + (c - 32) = c by omega] at this
  rcases this with (e | e) | e
  · exact absurd e h3
  · exact absurd e h4
  · exact e
theorem fold_pl : ∀ (l : List Nat) (acc : Array Nat), (∀ c ∈ l, 32 ≤ c ∧ c < 127 ∧ c ≠ 39 ∧ c ≠ 92) → (l.foldl (fun out c => out ++ (Builtin.Str.reprChar 39 c).toArray) acc).toList = acc.toList ++ l
  | [], acc, _ => by simp
  | c :: l, acc, h => by
    have hc := h c (List.mem_cons_self ..)
    rw [List.foldl_cons, fold_pl l _ (fun x hx => h x (List.mem_cons_of_mem _ hx)), char_pl c hc.1 hc.2.1 hc.2.2.1 hc.2.2.2]
    simp
theorem repr_pl {x : Str} (h : plC x) : (reprText x).length = x.length + 2 := by
  have q : reprQuote x = 39 := by
    unfold reprQuote
    have : x.cps.contains 39 = false := by
      cases e : x.cps.contains 39 with
      | false => rfl
      | true =>
        have := h 39 (by simpa using e)
        omega
    rw [this]
    rfl
  have e : (reprText x).cps.toList = 39 :: (x.cps.toList ++ [39]) := by
    unfold reprText
    rw [q]
    show (Array.push _ 39).toList = _
    rw [Array.toList_push, ← Array.foldl_toList, fold_pl _ _ h]
    simp
  show (reprText x).cps.size = x.cps.size + 2
  rw [← Array.length_toList, e]
  simp
def bnd : Nat → Nat
  | 0 => 25
  | k + 1 => 9 * (bnd k + 2) + 3
theorem bnd_le (k : Nat) : bnd k ≤ bnd (k + 1) := by
  show bnd k ≤ 9 * (bnd k + 2) + 3
  omega
theorem bnd_ge : ∀ k : Nat, 25 ≤ bnd k
  | 0 => Nat.le_refl _
  | k + 1 => Nat.le_trans (bnd_ge k) (bnd_le k)
structure Prt (k : Nat) (p : PyData) : Prop where
  sh : p.showable = true
  dp : p.depth ≤ k
  ln : p.shown.length ≤ bnd k
theorem prts {k : Nat} : ∀ {ds : List D}, (∀ d ∈ ds, ∃ p, d.pyA = some p ∧ Prt k p) → ∃ ps, pyAs ds = some ps ∧ PyData.showableAll ps = true ∧ PyData.depthAll ps ≤ k ∧ ((PyData.shownAll ps).map fun x => x.length).sum ≤ ds.length * bnd k ∧ (PyData.shownAll ps).length = ds.length
  | [], _ => ⟨[], rfl, rfl, Nat.zero_le _, by simp [PyData.shownAll], rfl⟩
  | d :: ds, h => by
    obtain ⟨p, e, hp⟩ := h d (List.mem_cons_self ..)
    obtain ⟨ps, e2, h1, h2, h3, h4⟩ := prts fun x hx => h x (List.mem_cons_of_mem _ hx)
    refine ⟨p :: ps, by rw [pyAs, e, e2], ?_, ?_, ?_, ?_⟩
    · rw [PyData.showableAll, hp.sh, h1]; rfl
    · rw [PyData.depthAll]; exact Nat.max_le.mpr ⟨hp.dp, h2⟩
    · rw [PyData.shownAll, List.map_cons, List.sum_cons, List.length_cons, Nat.succ_mul]
      have := hp.ln
      omega
    · rw [PyData.shownAll, List.length_cons, h4]; rfl
theorem AnyP.prt {k : Nat} {d : D} (h : AnyP k d) : ∃ p, d.pyA = some p ∧ Prt k p := by
  induction h with
  | non k => exact ⟨_, rfl, rfl, Nat.zero_le _, Nat.le_trans (by decide +kernel) (bnd_ge k)⟩
  | bl k b => exact ⟨_, rfl, rfl, Nat.zero_le _, Nat.le_trans (by cases b <;> decide +kernel) (bnd_ge k)⟩
  | @int k i h =>
    refine ⟨_, rfl, ?_, Nat.zero_le _, Nat.le_trans ?_ (bnd_ge k)⟩
    · show decide (i.natAbs.log2 < 1920) = true
      have hi : i.natAbs ≤ 10 ^ 20 := by
        rcases h with h | rfl
        · omega
        · decide
      have l70 : i.natAbs.log2 ≤ 70 := by
        by_cases z : i.natAbs = 0
        · rw [z]; decide
        · have : i.natAbs.log2 < 71 := (Nat.log2_lt z).mpr (Nat.lt_of_le_of_lt hi (by decide))
          omega
      exact decide_eq_true (by omega)
    · rcases h with h | rfl
      · exact Nat.le_trans (PyData.shown_int_le2 (by omega) (by omega)) (by decide)
      · rw [PyData.shown_int]; decide +kernel
  | @str k s h l =>
    refine ⟨_, rfl, rfl, Nat.zero_le _, Nat.le_trans ?_ (bnd_ge k)⟩
    rw [PyData.shown_str, repr_pl h]
    omega
  | @lst k ds l _ ih =>
    obtain ⟨ps, e, h1, h2, h3, h4⟩ := prts ih
    refine ⟨.list ps, by rw [D.pyA, e]; rfl, by rw [PyData.showable]; exact h1, by rw [PyData.depth]; omega, ?_⟩
    rw [PyData.shown]
    refine Nat.le_trans (listText_len_le _) ?_
    rw [h4]
    show _ ≤ 9 * (bnd k + 2) + 3
    have : ds.length * bnd k ≤ 9 * bnd k := Nat.mul_le_mul_right _ l
    omega
  | @tup k ds l _ ih =>
    obtain ⟨ps, e, h1, h2, h3, h4⟩ := prts ih
    refine ⟨.tuple ps, by rw [D.pyA, e]; rfl, by rw [PyData.showable]; exact h1, by rw [PyData.depth]; omega, ?_⟩
    rw [PyData.shown]
    refine Nat.le_trans (tupleText_len_le _) ?_
    rw [h4]
    show _ ≤ 9 * (bnd k + 2) + 3
    have : ds.length * bnd k ≤ 9 * bnd k := Nat.mul_le_mul_right _ l
    omega
  | dct k => exact ⟨.dict [(.str "a", .int 1)], rfl, by decide +kernel, by show _ ≤ k + 1; exact Nat.le_trans (by decide +kernel) (Nat.succ_le_succ (Nat.zero_le k)), Nat.le_trans (by decide +kernel) (bnd_ge (k + 1))⟩
theorem bnd6 : bnd 6 ≤ sizeLine := by rw [sizeLine_eq]; decide
theorem repr_any {d : D} (h : AnyP 6 d) : ∃ z, pReprA d = some (.str z) := by
  obtain ⟨p, e, h1, h2, h3⟩ := h.prt
  refine ⟨p.shown, ?_⟩
  unfold pReprA
  rw [e]
  show (if _ then _ else _) = _
  rw [if_pos ⟨h1, by omega, Nat.le_trans h3 bnd6⟩]
theorem getAt {xs : List D} {u n : Nat} (h : u < n) (hl : xs.length = n) : ∃ d, xs[u]? = some d ∧ d ∈ xs :=
  ⟨xs[u]'(by omega), List.getElem?_eq_getElem (by omega), List.getElem_mem _⟩
noncomputable def retO : DSx := retD (lift2 pIx (vr 2) (callD d__law_take (aCons (vr 0) (aCons (lift1 pLen (pureE (pvw 2))) aNil))))
theorem retO_ok {k l : Nat} {N : En → Store → Prop} {d : D} {st : Store} {Q : D → Store → Prop} {L : List D} (hb : Bag st l) (K : ∀ (x : D) (st' : Store), AnyP k x → Bag st' l → Q x st') (h0 : 0 < L.length) (h1 : L.length ≤ 100) (hL : ∀ x ∈ L, AnyP k x) : SOk (retO [.val (.ref l), .val d, .val (.lst L)] st) N Q := by
  unfold retO
  have z : L.length ≤ sizeLine := by rw [sizeLine_eq]; omega
  simp [z]
  refine COk.of (take_ok hb (many := L.length) h0 (by omega) fun u st2 hu hb2 _ => ?_)
  obtain ⟨x, e, m⟩ := getAt hu rfl
  have r0 : Rs (u : Int) := .of (by omega) (by omega)
  simp [e, r0]
  exact K x st2 (hL x m) hb2
def base17 : List D := [.non, .bl true, .bl false, .int 0, .int 1, .int 2, .int (-1), .int 100000000000000000000, .str "", .str "a", .str "reason", .str "future", .str "later", .str "A", .str "a b", .tup [], .lst []]
theorem base17_p (k : Nat) : ∀ x ∈ base17, AnyP (k + 1) x := by
  intro d hd
  unfold base17 at hd
  simp only [List.mem_cons, List.not_mem_nil, or_false] at hd
  rcases hd with rfl | rfl | rfl | rfl | rfl | rfl | rfl | rfl | rfl | rfl | rfl | rfl | rfl | rfl | rfl | rfl | rfl
  · exact .non _
  · exact .bl _ _
  · exact .bl _ _
  · exact .int _ (.inl (by omega))
  · exact .int _ (.inl (by omega))
  · exact .int _ (.inl (by omega))
  · exact .int _ (.inl (by omega))
  · exact .int _ (.inr (by decide))
  · exact .str _ (by unfold plC; decide) (by decide)
  · exact .str _ (by unfold plC; decide) (by decide)
  · exact .str _ (by unfold plC; decide) (by decide)
  · exact .str _ (by unfold plC; decide) (by decide)
  · exact .str _ (by unfold plC; decide) (by decide)
  · exact .str _ (by unfold plC; decide) (by decide)
  · exact .str _ (by unfold plC; decide) (by decide)
  · exact .tup (Nat.zero_le _) (fun d h => by cases h)
  · exact .lst (Nat.zero_le _) (fun d h => by cases h)
def ex3 (d : D) : List D := [.tup [d], .lst [d], .dct [(.inr "a", .int 1)]]
theorem ex3_p {k : Nat} {d : D} (h : AnyP k d) : ∀ x ∈ ex3 d, AnyP (k + 1) x := by
  intro x hx
  unfold ex3 at hx
  simp only [List.mem_cons, List.not_mem_nil, or_false] at hx
  rcases hx with rfl | rfl | rfl
  · exact .tup (by simp) (fun e he => by rw [List.mem_singleton.mp he]; exact h)
  · exact .lst (by simp) (fun e he => by rw [List.mem_singleton.mp he]; exact h)
  · exact .dct _
theorem app3 {α : Type} {p : α → Prop} {a b c : List α} (ha : ∀ x ∈ a, p x) (hb : ∀ x ∈ b, p x) (hc : ∀ x ∈ c, p x) : ∀ x ∈ a ++ (b ++ c), p x := fun x hx => by
  rcases List.mem_append.mp hx with h | h
  · exact ha x h
  · rcases List.mem_append.mp h with h | h
    · exact hb x h
    · exact hc x h
theorem with_a {k : Nat} {ds : List D} (h : ∀ d ∈ ds, AnyP k d) : ∀ d ∈ ds ++ [.str "a"], AnyP k d := fun d hd => by
  rcases List.mem_append.mp hd with hd | hd
  · exact h d hd
  · rw [List.mem_singleton.mp hd]
    exact .str _ (by unfold plC; decide) (by decide)
theorem str_int (i : Nat) (hi : i < 100) : plC (Str.ofString (i : Int).repr) ∧ (Str.ofString (i : Int).repr).length ≤ 21 := by
  have : ∀ i : Fin 100, ((Str.ofString (((i.val : Nat) : Int).repr)).cps.toList.all fun c => decide (32 ≤ c) && decide (c < 127) && !decide (c = 39) && !decide (c = 92)) = true ∧ (Str.ofString (((i.val : Nat) : Int).repr)).length ≤ 21 := by decide +kernel
  obtain ⟨h1, h2⟩ := this ⟨i, hi⟩
  refine ⟨fun c hc => ?_, h2⟩
  have := List.all_eq_true.mp h1 c hc
  simp only [Bool.and_eq_true, decide_eq_true_eq, Bool.not_eq_true', decide_eq_false_iff_not] at this
  omega
theorem odd_ok {k l : Nat} {d : D} {st : Store} {Q : D → Store → Prop} (hb : Bag st l) (h : AnyQ k d) (K : ∀ (x : D) (st' : Store), AnyP (k + 1) x → Bag st' l → Q x st') : DOk (d__law_odd [.ref l, d] st) Q := by
  unfold d__law_odd
  refine DOk_run ?_
  have p20 : CPow2 10 20 := ⟨by decide, by decide, Nat.lt_of_lt_of_le (by decide : Int.natAbs 10 < 2 ^ 8) (Nat.pow_le_pow_right (by decide) (by decide))⟩
  unfold b__law_odd
  rw [show retD (lift2 pIx (vr 2) (callD d__law_take (aCons (vr 0) (aCons (lift1 pLen (pureE (pvw 2))) aNil)))) = retO from rfl]
  have fin := fun L => retO_ok (N := fun x st => Q D.non st) (d := d) (L := L) hb K
  have b17 := base17_p k
  have b3 := ex3_p h.p
  have em : mergeD ([] : List (Key × D)) [((Sum.inr (Str.ofString "a") : Key), D.int 1)] = ([((Sum.inr (Str.ofString "a") : Key), D.int 1)] : List (Key × D)) := by simp [mergeD, putD]
  have z20 : 20 ≤ sizeLine := by rw [sizeLine_eq]; omega
  have z24 : 24 ≤ sizeLine := by rw [sizeLine_eq]; omega
  have z25 : 25 ≤ sizeLine := by rw [sizeLine_eq]; omega
  cases h with
  | non =>
    simp [p20, em, z20]
    refine fin _ (by simp) (by simp) ?_
    show ∀ x ∈ base17 ++ ex3 .non, _
    intro x hx
    exact (List.mem_append.mp hx).elim (b17 x) (b3 x)
  | int _ i hi =>
    have e1 := eqI (v := i) (j := 1)
    have lg : i.log2 < 1920 := by
      by_cases z : i = 0
      · rw [z]; decide
      · have : i.log2 < 7 := (Nat.log2_lt z).mpr (by omega)
        omega
    simp [p20, em, z20, z25, e1, lg]
    refine fin _ (by simp) (by simp) ?_
    show ∀ x ∈ base17 ++ (ex3 (.int i) ++ [.int ((i : Int) + 1), .int ((i : Int) - 1), .str (Str.ofString (i : Int).repr), .non, .bl (decide ((i : Int) = 1))]), _
    refine app3 b17 b3 fun x hx => ?_
    simp only [List.mem_cons, List.not_mem_nil, or_false] at hx
    rcases hx with rfl | rfl | rfl | rfl | rfl
    · exact .int _ (.inl (by omega))
    · exact .int _ (.inl (by omega))
    · have := str_int i hi
      exact .str _ this.1 this.2
    · exact .non _
    · exact .bl _ _
  | str _ hs hl =>
    rename_i s
    have zz : s.length ≤ sizeLine := by rw [sizeLine_eq]; omega
    have la : (Str.ofString "a").length = 1 := by decide
    have zz1 : s.length + (Str.ofString "a").length ≤ sizeLine := by rw [sizeLine_eq, la]; omega
    have zz2 : s.length ≤ 1000 := by omega
    simp [p20, em, z20, z24, zz, zz1, zz2]
    refine fin _ (by simp) (by simp) ?_
    show ∀ x ∈ base17 ++ (ex3 (.str s) ++ [.str (s ++ Str.ofString "a"), .str (cutS s none (some (-1))), .str (Txt.upper s), .str (revS s)]), _
    refine app3 b17 b3 fun x hx => ?_
    simp only [List.mem_cons, List.not_mem_nil, or_false] at hx
    have pa : plC (Str.ofString "a") := by unfold plC; decide
    have ls : s.cps.toList.length = s.length := rfl
    rcases hx with rfl | rfl | rfl | rfl
    · refine .str _ (fun c hc => ?_) ?_
      · have : (s ++ Str.ofString "a").cps.toList = s.cps.toList ++ (Str.ofString "a").cps.toList := by
          show (s.cps ++ (Str.ofString "a").cps).toList = _
          simp
        rw [this] at hc
        exact (List.mem_append.mp hc).elim (hs.pl c) (pa c)
      · have : (s ++ Str.ofString "a").length = s.length + (Str.ofString "a").length := by
          show (s.cps ++ (Str.ofString "a").cps).size = _
          simp [Str.length]
        omega
    · refine .str _ (fun c hc => ?_) ?_
      · rw [cutS_cps] at hc
        exact hs.pl c (List.mem_of_mem_drop (List.mem_of_mem_take hc))
      · show (cutS s none (some (-1))).cps.size ≤ 21
        rw [← Array.length_toList, cutS_cps]
        have h1 := List.length_take_le' (HT.sIx s.length s.length (some (-1)) - HT.sIx s.length 0 none) (s.cps.toList.drop (HT.sIx s.length 0 none))
        have h2 : (s.cps.toList.drop (HT.sIx s.length 0 none)).length ≤ s.cps.toList.length := by rw [List.length_drop]; omega
        omega
    · have hu : Txt.upper s = ⟨s.cps.map PyProof.Rows.up1⟩ := PyProof.Rows.upper_ascii fun c hc => by have := hs c hc; omega
      rw [hu]
      refine .str _ (fun c hc => ?_) (by show (s.cps.map PyProof.Rows.up1).size ≤ 21; rw [Array.size_map]; show s.length ≤ 21; omega)
      have : c ∈ s.cps.toList.map PyProof.Rows.up1 := by simpa using hc
      obtain ⟨x, hx, rfl⟩ := List.mem_map.mp this
      have := hs x hx
      unfold PyProof.Rows.up1
      rw [if_pos (by omega)]
      omega
    · refine .str _ (fun c hc => hs.pl c ?_) ?_
      · have : c ∈ s.cps.toList.reverse := by simpa [revS] using hc
        exact List.mem_reverse.mp this
      · show (s.cps.toList.reverse.toArray).size ≤ 21
        rw [List.size_toArray, List.length_reverse, ls]
        omega
  | @lst k ds hl ha =>
    have zz : ds.length ≤ sizeLine := by rw [sizeLine_eq]; omega
    have zz1 : ds.length + 1 ≤ sizeLine := by rw [sizeLine_eq]; omega
    simp [p20, em, z20, z24, zz, zz1]
    refine fin _ (by simp) (by simp) ?_
    show ∀ x ∈ base17 ++ (ex3 (.lst ds) ++ [.tup ds, .tup ds, .lst (ds ++ [.str "a"]), .lst ds.reverse]), _
    refine app3 b17 b3 fun x hx => ?_
    simp only [List.mem_cons, List.not_mem_nil, or_false] at hx
    rcases hx with rfl | rfl | rfl | rfl
    · exact .up (.tup (by omega) fun d h => (ha d h).p)
    · exact .up (.tup (by omega) fun d h => (ha d h).p)
    · exact .up (.lst (by simp; omega) (with_a fun d h => (ha d h).p))
    · exact .up (.lst (by simp; omega) fun d h => (ha d (List.mem_reverse.mp h)).p)
  | @tup k ds hl ha =>
    have zz : ds.length ≤ sizeLine := by rw [sizeLine_eq]; omega
    have zz1 : ds.length + 1 ≤ sizeLine := by rw [sizeLine_eq]; omega
    simp [p20, em, z20, z24, zz, zz1, addKT]
    refine fin _ (by simp) (by simp) ?_
    show ∀ x ∈ base17 ++ (ex3 (.tup ds) ++ [.lst ds, .lst ds, .tup (ds ++ [.str "a"]), .tup ds.reverse]), _
    refine app3 b17 b3 fun x hx => ?_
    simp only [List.mem_cons, List.not_mem_nil, or_false] at hx
    rcases hx with rfl | rfl | rfl | rfl
    · exact .up (.lst (by omega) fun d h => (ha d h).p)
    · exact .up (.lst (by omega) fun d h => (ha d h).p)
    · exact .up (.tup (by simp; omega) (with_a fun d h => (ha d h).p))
    · exact .up (.tup (by simp; omega) fun d h => (ha d (List.mem_reverse.mp h)).p)
noncomputable def midS (n : Nat) : DSx := (ifD (lift2 pEq (vr 4) (cst (.int 0)))
    (exprD (mutD 2 kPopAt (aCons (vr 3) aNil)))
    (ifD (lift2 pEq (vr 4) (cst (.int 1)))
    (exprD (mutD 2 kIns (aCons (vr 3) (aCons (ixOD 2 (callD d__law_take (aCons (vr 0) (aCons (lift1 pLen (pureE (pvw 2))) aNil)))) aNil))))
    (ifD (lift2 pEq (vr 4) (cst (.int 2)))
    (exprD (mutD 2 kApp (aCons (mutD 2 kPopAt (aCons (vr 3) aNil)) aNil)))
    (subSetD 2 (pvr 3) (callD (d__law_bent n) (aCons (vr 0) (aCons (pureE (plift2 pIx (pvw 2) (pvr 3))) aNil)))))))
noncomputable def retT : DSx := (seqD (ifD (lift1 (pIsi "tuple") (pureE (pvw 1)))
    (retD (tupleD (pureE (pvw 2))))
    nxD)
  (retD (frzE 2)))
theorem mid_ok {n k l u way : Nat} {d : D} {ds : List D} {st : Store} {N : En → Store → Prop} {V : D → Store → Prop} (hl : ds.length ≤ 8) (ha : ∀ x ∈ ds, AnyQ k x) (hu : u < ds.length) (hb : Bag st l)
    (rec : ∀ {d : D} {st : Store} {Q : D → Store → Prop}, Bag st l → AnyQ k d → (∀ (x : D) (st' : Store), AnyP (k + 1) x → Bag st' l → Q x st') → DOk (d__law_bent n [.ref l, d] st) Q)
    (K : ∀ (ds' : List D) (st' : Store), ds'.length ≤ 9 → (∀ x ∈ ds', AnyP (k + 1) x) → Bag st' l → N [.val (.ref l), .val d, .ml ds', .val (.int (u : Int)), .val (.int (way : Int))] st') :
    SOk (midS n [.val (.ref l), .val d, .ml ds, .val (.int (u : Int)), .val (.int (way : Int))] st) N V := by
  have zz : ds.length ≤ sizeLine := by rw [sizeLine_eq]; omega
  have hp : ∀ x ∈ ds, AnyP (k + 1) x := fun x hx => (ha x hx).p.up
  have e0 := eqI (v := way) (j := 0)
  have e1 := eqI (v := way) (j := 1)
  have e2 := eqI (v := way) (j := 2)
  have r0 : Rs (u : Int) := .of (by omega) (by omega)
  have si : seqIndex? (u : Int) ds.length = some u := by
    unfold seqIndex?
    simp
    omega
  have eu : ds[u]? = some ds[u] := List.getElem?_eq_getElem hu
  have w0 : ((way : Int) = 0) ↔ way = 0 := by omega
  have w1 : ((way : Int) = 1) ↔ way = 1 := by omega
  have w2 : ((way : Int) = 2) ↔ way = 2 := by omega
  have hE : ∀ x ∈ ds.eraseIdx u, AnyP (k + 1) x := fun x hx => hp x (List.mem_of_mem_eraseIdx hx)
  have hEl : (ds.eraseIdx u).length + 1 = ds.length := by rw [List.length_eraseIdx_of_lt hu]; omega
  unfold midS
  by_cases h0 : way = 0
  · subst h0
    simp [e0, r0, si, eu]
    exact K _ st (by omega) hE hb
  · by_cases h1 : way = 1
    · subst h1
      simp [e0, e1, r0, zz]
      refine COk.of (take_ok hb (many := ds.length) (by omega) (by omega) fun v st2 hv hb2 _ => ?_)
      have rv : Rs (v : Int) := .of (by omega) (by omega)
      have ev : ds[v]? = some ds[v] := List.getElem?_eq_getElem hv
      have z1 : ds.length < sizeLine := by rw [sizeLine_eq]; omega
      simp [ev, rv, r0, z1]
      refine K _ st2 (by simp; omega) (fun x hx => ?_) hb2
      rcases List.mem_append.mp hx with hx | hx
      · exact hp x (List.mem_of_mem_take hx)
      · rcases List.mem_cons.mp hx with rfl | hx
        · exact hp _ (List.getElem_mem hv)
        · exact hp x (List.mem_of_mem_drop hx)
    · by_cases h2 : way = 2
      · subst h2
        have z1 : (ds.eraseIdx u).length < sizeLine := by rw [sizeLine_eq]; omega
        simp [e0, e1, e2, r0, si, eu, z1]
        refine K _ st (by simp; omega) (fun x hx => ?_) hb
        rcases List.mem_append.mp hx with hx | hx
        · exact hE x hx
        · rw [List.mem_singleton.mp hx]; exact hp _ (List.getElem_mem hu)
      · simp [e0, e1, e2, w0, w1, w2, h0, h1, h2, r0, eu]
        refine COk.of (rec hb (ha _ (List.getElem_mem hu)) fun x st2 hx hb2 => ?_)
        simp [hu]
        refine K _ st2 (by simp; omega) (fun y hy => ?_) hb2
        rcases List.mem_or_eq_of_mem_set hy with hy | rfl
        · exact hp y hy
        · exact hx
theorem bent_ok : ∀ (n k : Nat) {d : D} {st : Store} {l : Nat} {Q : D → Store → Prop}, k < n → Bag st l → AnyQ k d → (∀ (x : D) (st' : Store), AnyP (k + 1) x → Bag st' l → Q x st') → DOk (d__law_bent n [.ref l, d] st) Q
  | 0, k, _, _, _, _, h, _, _, _ => absurd h (by omega)
  | n + 1, k, d, st, l, Q, hk, hb, hd, K => by
    show DOk (runD 5 (b__law_bent (d__law_bent n)) _ st) Q
    refine DOk_run ?_
    unfold b__law_bent
    rw [show (seqD (ifD (lift1 (pIsi "tuple") (pureE (pvw 1)))
    (retD (tupleD (pureE (pvw 2))))
    nxD)
  (retD (frzE 2))) = retT from rfl, show (ifD (lift2 pEq (vr 4) (cst (.int 0)))
    (exprD (mutD 2 kPopAt (aCons (vr 3) aNil)))
    (ifD (lift2 pEq (vr 4) (cst (.int 1)))
    (exprD (mutD 2 kIns (aCons (vr 3) (aCons (ixOD 2 (callD d__law_take (aCons (vr 0) (aCons (lift1 pLen (pureE (pvw 2))) aNil)))) aNil))))
    (ifD (lift2 pEq (vr 4) (cst (.int 2)))
    (exprD (mutD 2 kApp (aCons (mutD 2 kPopAt (aCons (vr 3) aNil)) aNil)))
    (subSetD 2 (pvr 3) (callD (d__law_bent n) (aCons (vr 0) (aCons (pureE (plift2 pIx (pvw 2) (pvr 3))) aNil))))))) = midS n from rfl]
    have odd : ∀ {st' : Store}, Bag st' l → DOk (d__law_odd [.ref l, d] st') Q := fun hb' => odd_ok hb' hd K
    cases hd with
    | non => simp; exact COk.of (odd hb)
    | int _ i hi => simp; exact COk.of (odd hb)
    | str _ hs hl => simp; exact COk.of (odd hb)
    | @lst k ds hl ha =>
      have zz : ds.length ≤ sizeLine := by rw [sizeLine_eq]; omega
      by_cases h0 : ds = []
      · subst h0
        simp
        exact COk.of (odd hb)
      · have l0 : 0 < ds.length := List.length_pos_iff.mpr h0
        have n0 : ¬ (ds.length : Int) = 0 := by omega
        simp [zz, n0, h0]
        refine COk.of (take_ok hb (many := 5) (by decide) (by decide) fun v st2 hv hb2 _ => ?_)
        have ev := eqI (v := v) (j := 0)
        by_cases hv0 : v = 0
        · simp [ev, hv0]
          exact COk.of (odd hb2)
        · have hv0' : ¬ (v : Int) = 0 := by omega
          simp [ev, hv0, hv0', zz]
          refine COk.of (take_ok hb2 (many := ds.length) l0 (by omega) fun u st3 hu hb3 _ => ?_)
          simp
          refine COk.of (take_ok hb3 (many := 9) (by decide) (by decide) fun way st4 hw hb4 _ => ?_)
          simp
          refine mid_ok hl ha hu hb4 (fun hb hd K => bent_ok n k (by omega) hb hd K) fun ds' st5 hl' ha' hb5 => ?_
          have z5 : ds'.length ≤ sizeLine := by rw [sizeLine_eq]; omega
          unfold retT
          simp [z5]
          exact K _ st5 (.lst hl' ha') hb5
    | @tup k ds hl ha =>
      have zz : ds.length ≤ sizeLine := by rw [sizeLine_eq]; omega
      by_cases h0 : ds = []
      · subst h0
        simp
        exact COk.of (odd hb)
      · have l0 : 0 < ds.length := List.length_pos_iff.mpr h0
        have n0 : ¬ (ds.length : Int) = 0 := by omega
        simp [zz, n0, h0]
        refine COk.of (take_ok hb (many := 5) (by decide) (by decide) fun v st2 hv hb2 _ => ?_)
        have ev := eqI (v := v) (j := 0)
        by_cases hv0 : v = 0
        · simp [ev, hv0]
          exact COk.of (odd hb2)
        · have hv0' : ¬ (v : Int) = 0 := by omega
          simp [ev, hv0, hv0', zz]
          refine COk.of (take_ok hb2 (many := ds.length) l0 (by omega) fun u st3 hu hb3 _ => ?_)
          simp
          refine COk.of (take_ok hb3 (many := 9) (by decide) (by decide) fun way st4 hw hb4 _ => ?_)
          simp
          refine mid_ok hl ha hu hb4 (fun hb hd K => bent_ok n k (by omega) hb hd K) fun ds' st5 hl' ha' hb5 => ?_
          have z5 : ds'.length ≤ sizeLine := by rw [sizeLine_eq]; omega
          unfold retT
          simp [z5]
          exact K _ st5 (.tup hl' ha') hb5
theorem nodup_len {α : Type} [DecidableEq α] : ∀ {l m : List α}, l.Nodup → (∀ x ∈ l, x ∈ m) → l.length ≤ m.length
  | [], _, _, _ => Nat.zero_le _
  | a :: l, m, h, k => by
    obtain ⟨h1, h2⟩ := List.nodup_cons.mp h
    have ha := k a (List.mem_cons_self ..)
    have := nodup_len (l := l) (m := m.erase a) h2 fun x hx => (List.mem_erase_of_ne (fun e => h1 (by rw [← e]; exact hx))).mpr (k x (List.mem_cons_of_mem _ hx))
    rw [List.length_erase_of_mem ha] at this
    have := List.length_pos_of_mem ha
    simp; omega
theorem rwn_ok {ws ths ms : List Str} {r : Rw} (hw : ∀ x ∈ ws, NameS x) (ht : ∀ x ∈ ths, NameS x) (hm : ∀ x ∈ ms, NameS x) (h : RwN ws ths ms r) : RwOk r := by
  refine ⟨?_, fun x hx => (hm x (h.sub x hx)).ok⟩
  rcases h.th with e | ⟨v, hv, e⟩ | ⟨x, hx, e⟩
  · rw [e]; exact trivial
  · rw [e]; exact (hw v hv).ok
  · rw [e]; exact (ht x hx).ok
def ThNm : Th → Prop
  | .non => True
  | .nm x => NameS x
  | .later v => NameS v
structure RsN (R : List (Str × List Rw)) : Prop where
  l8 : ∀ p ∈ R, p.2.length ≤ 8
  th : ∀ p ∈ R, ∀ r ∈ p.2, ThNm r.1
  ok : ∀ p ∈ R, RsOk p.2
  len : R.length ≤ 4
structure Gr (F ws : List Str) (R : List (Str × List Rw)) : Prop where
  fn : F.Nodup
  f0 : 0 < F.length ∧ F.length ≤ 8
  fN : ∀ x ∈ F, NameS x
  w0 : 0 < ws.length ∧ ws.length ≤ 4
  wN : ∀ x ∈ ws, NameS x
  nd : (R.map (·.1)).Nodup
  rn : RsN R
theorem rwn_nm {ws ths ms : List Str} {r : Rw} (hw : ∀ x ∈ ws, NameS x) (ht : ∀ x ∈ ths, NameS x) (h : RwN ws ths ms r) : ThNm r.1 := by
  rcases h.th with e | ⟨v, hv, e⟩ | ⟨x, hx, e⟩
  · rw [e]; exact trivial
  · rw [e]; exact hw v hv
  · rw [e]; exact ht x hx
theorem ground_ok {st : Store} {l : Nat} {Q : D → Store → Prop} (hb : Bag st l) (k : ∀ (F ws : List Str) (R : List (Str × List Rw)) (st' : Store), Gr F ws R → Bag st' l → Q (.tup [.lst (F.map .str), .lst (ws.map .str), .dlk (dctD R)]) st') : DOk (d__law_ground [.ref l] st) Q := by
  unfold d__law_ground
  refine DOk_run ?_
  unfold b__law_ground
  simp
  refine COk.of (take_ok hb (many := 8) (by decide) (by decide) fun m1 st2 hm1 hb2 _ => ?_)
  have e1 : (1 : Int) + m1 = ((1 + m1 : Nat) : Int) := by omega
  simp
  rw [e1]
  refine COk.of (names_ok hb2 (many := 1 + m1) (by omega) fun folk st3 hfl hfn hf hb3 _ => ?_)
  simp
  refine COk.of (take_ok hb3 (many := 4) (by decide) (by decide) fun m2 st4 hm2 hb4 _ => ?_)
  have e2 : (1 : Int) + m2 = ((1 + m2 : Nat) : Int) := by omega
  simp
  rw [e2]
  refine COk.of (names_ok hb4 (many := 1 + m2) (by omega) fun words st5 hwl hwn hw hb5 _ => ?_)
  simp
  refine COk.of (take_ok hb5 (many := 4) (by decide) (by decide) fun m3 st6 hm3 hb6 _ => ?_)
  have e3 : (1 : Int) + m3 = ((1 + m3 : Nat) : Int) := by omega
  simp
  rw [e3]
  refine COk.of (names_ok hb6 (many := 1 + m3) (by omega) fun things st7 htl htn ht hb7 _ => ?_)
  simp
  refine COk.of (rows_ok hb7 (most := 8) (by omega) (by omega) hwn (by omega) (by omega) (by omega) (by omega) hfn (by decide) fun R st8 hs hr hb8 _ => ?_)
  have hl := hs.length_le
  rw [List.length_map] at hl
  have := k folk words R st8 ⟨hfn, by omega, hf, by omega, hw, hs.nodup hwn, (fun p hp => (hr p hp).1), (fun p hp r hr' => rwn_nm hw ht ((hr p hp).2 r hr')), (fun p hp => ⟨by have := (hr p hp).1; omega, fun r hr' => rwn_ok hw ht hf ((hr p hp).2 r hr')⟩), by omega⟩ hb8
  simpa using this
theorem own_rn {R : List (Str × List Rw)} (h : RsN R) (w : Str) : (own R w).length ≤ 8 ∧ ∀ r ∈ own R w, ThNm r.1 := by
  have h8 := h.l8
  have hth := h.th
  clear h
  induction R with
  | nil => exact ⟨Nat.zero_le _, fun r hr => by cases hr⟩
  | cons p R ih =>
    unfold own
    split
    · exact ⟨h8 p (List.mem_cons_self ..), hth p (List.mem_cons_self ..)⟩
    · exact ih (fun q hq => h8 q (List.mem_cons_of_mem _ hq)) (fun q hq => hth q (List.mem_cons_of_mem _ hq))
theorem stepT_nm {rs : List Rw} (h : ∀ r ∈ rs, ThNm r.1) (o : Option Nat) : ThNm (stepT rs o) := by
  cases o with
  | none => exact trivial
  | some i =>
    show ThNm (((rs[i]?).map (·.1)).getD Th.non)
    cases e : rs[i]? with
    | none => exact trivial
    | some r => exact h r (List.mem_of_getElem? e)
theorem nameQ {s : Str} (k : Nat) (h : NameS s) : AnyQ k (.str s) := .str k (fun c hc => LET_mem.mp (h.low c hc)) h.hi
theorem thQ {t : Th} (k : Nat) (h : ThNm (finT t)) : AnyQ k (Dt.d (finT t)) := by
  cases t with
  | non => exact .non _
  | nm s => exact nameQ k h
  | later v => exact .non _
theorem stepQ {w : Str} {o : Option Nat} {ab : List (Nat × Str)} (hw : NameS w) (ho : ∀ i, o = some i → i < 100) (hl : ab.length ≤ 8) (ha : ∀ p ∈ ab, p.1 < 100 ∧ NameS p.2) : AnyQ 3 (.tup [.str w, optD o, .lst (ab.map mD)]) := by
  refine .tup (by simp) fun d hd => ?_
  simp only [List.mem_cons, List.not_mem_nil, or_false] at hd
  rcases hd with rfl | rfl | rfl
  · exact nameQ _ hw
  · cases o with
    | none => exact .non _
    | some i => exact .int _ i (ho i rfl)
  · refine .lst (by simpa using hl) fun d hd => ?_
    obtain ⟨p, hp, rfl⟩ := List.mem_map.mp hd
    obtain ⟨h1, h2⟩ := ha p hp
    refine .tup (by simp) fun d hd => ?_
    simp only [List.mem_cons, List.not_mem_nil, or_false] at hd
    rcases hd with rfl | rfl
    · exact .int _ _ h1
    · exact nameQ _ h2
theorem reasonQ {word : Str} {P : List Str} {ss : List D} {t : Th} (hw : NameS word) (hP : ∀ x ∈ P, NameS x) (hPl : P.length ≤ 8) (hs : ∀ s ∈ ss, AnyQ 3 s) (hl : ss.length ≤ 8) (ht : ThNm (finT t)) :
    AnyQ 5 (.tup [.str "reason", .str word, .tup (P.map .str), .lst ss, Dt.d (finT t)]) := by
  refine .tup (by simp) fun d hd => ?_
  simp only [List.mem_cons, List.not_mem_nil, or_false] at hd
  rcases hd with rfl | rfl | rfl | rfl | rfl
  · exact .str _ (by unfold lowC; decide) (by decide)
  · exact nameQ _ hw
  · refine .tup (by simpa using hPl) fun d hd => ?_
    obtain ⟨x, hx, rfl⟩ := List.mem_map.mp hd
    exact nameQ _ (hP x hx)
  · exact .lst hl hs
  · exact thQ _ ht
theorem Wk.nm {R : List (Str × List Rw)} {P : List Str} {word : Str} {asked : List Str} {t : Th} (hN : RsN R) (hw : NameS word) (h : Wk R P word asked t) : ThNm t ∧ ∀ x ∈ asked, NameS x := by
  induction h with
  | nil => exact ⟨hw, fun x hx => by cases hx⟩
  | step _ _ ih =>
    refine ⟨stepT_nm (own_rn hN _).2 _, fun x hx => ?_⟩
    rcases List.mem_append.mp hx with hx | hx
    · exact ih.2 x hx
    · rw [List.mem_singleton.mp hx]; exact ih.1
theorem Wk.keys {R : List (Str × List Rw)} {P : List Str} {word : Str} {asked : List Str} {t : Th} (h : Wk R P word asked t) : (∀ w, t = .later w → ∀ x ∈ asked, x ∈ R.map (·.1)) ∧ asked.length ≤ R.length + 1 := by
  induction h with
  | nil => exact ⟨fun w _ x hx => (by cases hx), by simp⟩
  | @step asked w hk hn ih =>
    have k1 := ih.1 w rfl
    have l1 := nodup_len hk.nodup k1
    rw [List.length_map] at l1
    refine ⟨fun v hv x hx => ?_, by rw [List.length_append]; simp; exact l1⟩
    rcases List.mem_append.mp hx with hx | hx
    · exact k1 x hx
    · rw [List.mem_singleton.mp hx]
      refine Decidable.byContradiction fun hno => ?_
      have : own R w = [] := own_key hno
      unfold nxt at hv
      rw [this] at hv
      cases hv
theorem finT_nm {t : Th} (h : ThNm t) : ThNm (finT t) := by
  cases t with
  | non => exact trivial
  | nm s => exact h
  | later v => exact trivial
theorem heard_srt (g : List Str) (r : Rw) : heard (srt g) r = heard g r := by
  unfold heard
  rw [Bool.eq_iff_iff, List.all_eq_true, List.all_eq_true]
  exact ⟨fun h x hx => h x (srt_mem.mpr hx), fun h x hx => h x (srt_mem.mp hx)⟩
theorem lastGo_srt (g : List Str) : ∀ (rs : List Rw) (k : Nat) (f : Option Nat), lastGo (srt g) rs k f = lastGo g rs k f
  | [], _, _ => rfl
  | r :: rs, k, f => by
    show lastGo (srt g) rs (k + 1) (if heard (srt g) r then some k else f) = lastGo g rs (k + 1) (if heard g r then some k else f)
    rw [heard_srt, lastGo_srt g rs]
theorem lastH_srt (g : List Str) (rs : List Rw) : lastH (srt g) rs = lastH g rs := lastGo_srt g rs 0 none
theorem rgt_drawn {R : List (Str × List Rw)} {g : List Str} {w : Str} {o : Option Nat} {ab : List (Nat × Str)} (hs : StpO (own R w) g o) (h1 : ab.map (·.1) = toMiss (own R w) o) (h2 : ∀ p ∈ ab, p.2 ∈ g ∧ p.2 ∉ heAt (own R w) p.1) :
    RgtS R (srt g) w (.tup [.str w, optD o, .lst (ab.map mD)]) := by
  refine rgt_of (fun i hi => ⟨(hs.at_ i hi).1, fun p hp => ?_⟩) h1 (fun p hp => ⟨srt_mem.mpr (h2 p hp).1, (h2 p hp).2⟩) ?_
  · have := List.all_eq_true.mp (hs.at_ i hi).2 p (srt_mem.mp hp)
    simpa using this
  · unfold nxt
    rw [lastH_srt]
    exact hs.th
def ORInv (l : Nat) (R : List (Str × List Rw)) (g : List Str) (word : Str) (n : Nat) (ρ : En) (st : Store) : Prop :=
  Bag st l ∧ ∃ asked ss t x7, WkS R (srt g) word asked ss t ∧ (∀ s ∈ ss, AnyQ 3 s) ∧ ss.length = asked.length ∧ n = meas R asked t ∧ ρ = [.val (.ref l), .val (.dlk (dctD R)), .val (.str word), .val (.lst (g.map .str)), .ml ss, .ml (asked.map .str), .val (Dt.d t), x7]
theorem other_ok {l : Nat} {R : List (Str × List Rw)} {g : List Str} {word : Str} {st : Store} {Q : D → Store → Prop} (hb : Bag st l) (hN : RsN R) (hw : NameS word) (hg : ∀ x ∈ g, NameS x) (hgl : g.length ≤ 8)
    (K : ∀ asked ss t st', WkS R (srt g) word asked ss t → Wdone asked t → (∀ s ∈ ss, AnyQ 3 s) → ss.length ≤ 8 → Bag st' l → Q (.tup [.str "reason", .str word, .tup ((srt g).map .str), .lst ss, Dt.d (finT t)]) st') :
    DOk (d__law_other_reason [.ref l, .dlk (dctD R), .str word, .lst (g.map .str)] st) Q := by
  have hp' : ∀ x ∈ g, okS x := fun x hx => (hg x hx).ok
  have hsl : (srt g).length = g.length := (srt_perm g).length_eq
  have zg : g.length ≤ sizeLine := by rw [sizeLine_eq]; omega
  unfold d__law_other_reason
  refine DOk_run ?_
  unfold b__law_other_reason
  simp
  refine SOk_while (ORInv l R g word) ?_ _ _ _ ⟨hb, [], [], .later word, _, .nil, (fun s h => by cases h), rfl, rfl, rfl⟩
  rintro n ρ st' ⟨hb', asked, ss, t, x7, hk, hq, hlen, rfl, rfl⟩
  obtain ⟨kt, ka⟩ := hk.wk.ok hN.ok hw.ok
  obtain ⟨nt, na⟩ := hk.wk.nm hN hw
  have hal := hk.wk.keys.2
  have hR4 := hN.len
  have hz : ss.length < sizeLine := by rw [sizeLine_eq]; omega
  have hz2 : asked.length < sizeLine := by rw [sizeLine_eq]; omega
  have hsz : ss.length ≤ sizeLine := by omega
  unfold w__law_other_reason_1
  cases t with
  | non =>
    have := K asked ss .non st' hk (fun w h => by cases h) hq (by omega) hb'
    simp [sortOk_strs, sort_strs, zg, hsl]
    exact this
  | nm s =>
    have := K asked ss (.nm s) st' hk (fun w h => by cases h) hq (by omega) hb'
    simp [sortOk_strs, sort_strs, zg, hsl]
    exact this
  | later w =>
    by_cases hm : w ∈ asked
    · have := K asked ss (.later w) st' hk (fun w' h => by cases h; exact hm) hq (by omega) hb'
      have pin := pIn_lst (n := true) kt ka
      simp at pin
      simp [sortOk_strs, sort_strs, zg, hsl, pin, hm]
      exact this
    · have pin := pIn_lst (n := true) kt ka
      simp at pin
      simp [pin, hm, hz2]
      unfold f__law_other_reason_2
      have o8 := own_rn hN w
      simp [hz2, own_get]
      refine COk.of (ostep_ok (own_ok hN.ok) (by omega) hp' (by omega) hb' fun o ab st2 hs h1 h2 hb2 => ?_)
      have hr := rgt_drawn hs h1 h2
      have hM : ∀ p ∈ ab, p.1 < (own R w).length := fun p hp => by
        have : p.1 ∈ toMiss (own R w) o := by rw [← h1]; exact List.mem_map.mpr ⟨p, hp, rfl⟩
        exact (miss_mem this).2
      have habl : ab.length ≤ 8 := by
        have e := congrArg List.length h1
        rw [List.length_map] at e
        have := miss_len56 (own R w) o
        omega
      have hsq : AnyQ 3 (.tup [.str w, optD o, .lst (ab.map mD)]) := stepQ nt (fun i hi => by have := (hs.at_ i hi).1; omega) habl fun p hp => ⟨by have := hM p hp; omega, hg _ (h2 p hp).1⟩
      have nx : stepT (own R w) o = nxt R (srt g) w := by unfold nxt; rw [lastH_srt]; exact hs.th
      have fin : ∃ m, m < meas R asked (.later w) ∧ ORInv l R g word m [.val (.ref l), .val (.dlk (dctD R)), .val (.str word), .val (.lst (g.map .str)), .ml (ss ++ [.tup [.str w, optD o, .lst (ab.map mD)]]), .ml ((asked ++ [w]).map .str), .val (Dt.d (nxt R (srt g) w)), .val (.tup [.str w, optD o, .lst (ab.map mD)])] st2 := by
        refine ⟨_, meas_lt hm, hb2, asked ++ [w], _, _, _, .step hk hm hr, fun s hs => ?_, by simp [hlen], rfl, rfl⟩
        rcases List.mem_append.mp hs with hs | hs
        · exact hq s hs
        · rw [List.mem_singleton.mp hs]; exact hsq
      rw [nx]
      rw [List.map_append] at fin
      simp [hz]
      exact fin
theorem keys51 (R : List (Str × List Rw)) : keysL (dctD R) = (R.map (·.1)).map .str := by
  induction R with
  | nil => rfl
  | cons p R ih => simpa [keysL, dctD, kD] using ih
theorem own_self : ∀ {R : List (Str × List Rw)}, (R.map (·.1)).Nodup → ∀ p ∈ R, own R p.1 = p.2
  | p :: R, nd, q, hq => by
    rw [List.map_cons, List.nodup_cons] at nd
    unfold own
    rcases List.mem_cons.mp hq with rfl | h
    · rw [if_pos rfl]
    · rw [if_neg (fun e => nd.1 (by rw [e]; exact List.mem_map.mpr ⟨q, h, rfl⟩))]
      exact own_self nd.2 q h
theorem own_key_get {R : List (Str × List Rw)} {w : Str} (h : w ∈ R.map (·.1)) : getK (dctD R) (.inr w) = some (rowsD (own R w)) := by
  induction R with
  | nil => cases h
  | cons p R ih =>
    by_cases e : p.1 = w
    · simp [dctD, getK, own, e]
    · have : w ∈ R.map (·.1) := by
        rcases List.mem_cons.mp h with h | h
        · exact absurd h.symm e
        · exact h
      have := ih this
      unfold getK dctD at this ⊢
      simpa [own, e] using this
def CpI (st0 : Store) (R : List (Str × List Rw)) (p : List (Str × List Rw)) (ρ : En) (st : Store) : Prop := ∃ a2 : Sl, ρ = [.val (.dlk (dctD R)), .val (.ref st0.length), a2] ∧ st = st0 ++ [.dct (dctD p)]
theorem copy_ok {st : Store} {R : List (Str × List Rw)} {Q : D → Store → Prop} (nd : (R.map (·.1)).Nodup) (hl : R.length ≤ 1000) (hr : ∀ p ∈ R, p.2.length ≤ 1000)
    (k : ∀ c : Cell, Q (.dlk (dctD R)) (st ++ [c])) : DOk (d__law_copy [.dlk (dctD R)] st) Q := by
  unfold d__law_copy
  refine DOk_run ?_
  have E : enter 3 [D.dlk (dctD R)] = [.val (.dlk (dctD R)), .no, .no] := rfl
  rw [E]
  unfold b__law_copy f__law_copy_1
  have hz : (keysL (dctD R)).length ≤ sizeLine := by rw [keys51]; exact Nat.le_of_lt (Nat.lt_of_le_of_lt (show _ ≤ 1000 by simpa using hl) (by decide))
  simp [hz]
  rw [keys51, List.map_map]
  refine SOk_forD (V := Q) (D.str ∘ fun x : Str × List Rw => x.1) (CpI st R) R [] _ _ ⟨.no, rfl, by simp [dctD]⟩ ?_ ?_
  · rintro p w q ρ st1 hpq ⟨a2, rfl, rfl⟩
    refine ⟨_, rfl, ?_⟩
    have hw : w ∈ R := by rw [show R = p ++ w :: q from hpq]; simp
    have hw1 : w.1 ∈ R.map (·.1) := List.mem_map.mpr ⟨w, hw, rfl⟩
    have hn : w.1 ∉ p.map (·.1) := by
      have e : R = p ++ w :: q := hpq
      rw [e, List.map_append, List.nodup_append] at nd
      exact fun z => nd.2.2 w.1 z w.1 (by simp) rfl
    have hg := own_key_get hw1
    rw [own_self nd w hw] at hg
    have zr : w.2.length ≤ sizeLine := Nat.le_of_lt (Nat.lt_of_le_of_lt (hr w hw) (by decide))
    have pe := putD_dctD (rs := w.2) hn
    unfold rowsD at pe hg
    have hp : p.length < R.length := by rw [show R = p ++ w :: q from hpq]; simp
    have hz2 : (dctD p).length < sizeLine := by
      unfold dctD
      rw [List.length_map]
      exact Nat.lt_of_le_of_lt (show p.length ≤ 1000 by omega) (by decide)
    simp [D.key, hg, zr, hz2, pe]
    exact ⟨_, rfl, by simp⟩
  · rintro ρ st1 ⟨a2, rfl, rfl⟩
    have fz := frzKs_dctD R (st ++ [.dct (dctD R)])
    simp [fz]
    exact k _
def rowPy (r : Rw) : PyData := .tuple [Dt.py r.1, .tuple (r.2.map Dt.py)]
theorem row_py (r : Rw) : (rowD r).py = some (rowPy r) := by
  have h1 := Dt.pyd r.1
  have h2 := pyAll_dt r.2
  have e : (r.2.map Dt.d : List D) = r.2.map .str := rfl
  rw [e] at h2
  simp [rowD, rowPy, D.py, pyAll, h1, h2]
theorem rows_py : ∀ rs : List Rw, pyAll (rs.map rowD) = some (rs.map rowPy)
  | [] => by simp [pyAll]
  | r :: rs => by simp only [List.map_cons, pyAll, row_py, rows_py rs]
theorem row_lay {r : Rw} (h : RwOk r) : (rowPy r).canLay0 = true := by
  have h1 := Dt.lay r.1 h.th
  have h2 := layAll_map r.2 h.he
  simp [rowPy, PyData.canLay0, PyData.canLayAll0, h1, h2]
theorem rows_lay : ∀ rs : List Rw, (∀ r ∈ rs, RwOk r) → PyData.canLayAll0 (rs.map rowPy) = true
  | [], _ => by simp [PyData.canLayAll0]
  | r :: rs, h => by simp [PyData.canLayAll0, row_lay (h r (by simp)), rows_lay rs fun q hq => h q (by simp [hq])]
theorem row_dep (r : Rw) : (rowPy r).depth ≤ 3 := by
  have h1 : (Dt.py r.1).depth ≤ Dt.dep Th := Dt.dle r.1
  have h2 := depAll_map r.2
  have e1 : Dt.dep Th ≤ 2 := by decide
  have e2 : Dt.dep Str = 0 := rfl
  rw [e2] at h2
  simp only [rowPy, PyData.depth, PyData.depthAll]
  omega
theorem rows_dep : ∀ rs : List Rw, PyData.depthAll (rs.map rowPy) ≤ 3
  | [] => Nat.zero_le _
  | r :: rs => by
    rw [List.map_cons, PyData.depthAll]
    exact Nat.max_le.mpr ⟨row_dep r, rows_dep rs⟩
theorem rows_same {rs : List Rw} (h : ∀ r ∈ rs, RwOk r) : pEqB (rowsD rs) (rowsD rs) = some true := by
  have hp : (rowsD rs).py = some (.list (rs.map rowPy)) := by simp [rowsD, D.py, rows_py]
  have hl : (PyData.list (rs.map rowPy)).canLay0 = true := by simp only [PyData.canLay0]; exact rows_lay rs h
  have hd : (PyData.list (rs.map rowPy)).depth ≤ 64 := by have := rows_dep rs; simp only [PyData.depth]; omega
  have s : SeqAt.shaped (PyData.list (rs.map rowPy)) = true := by unfold SeqAt.shaped; rw [hl]; simpa using hd
  have e := PySem.SeqAt.eqv_refl (PyData.list (rs.map rowPy)) hl
  simp [pEqB, hp, s, e]
theorem eq_dct {R : List (Str × List Rw)} (nd : (R.map (·.1)).Nodup) (h : ∀ p ∈ R, ∀ r ∈ p.2, RwOk r) : pEqDk (.dlk (dctD R)) (.dlk (dctD R)) = some (.bl true) := by
  have gk : ∀ e ∈ dctD R, getK (dctD R) e.1 = some e.2 ∧ pEqB e.2 e.2 = some true := fun e he => by
    obtain ⟨p, hp, rfl⟩ := List.mem_map.mp he
    have := own_key_get (List.mem_map.mpr ⟨p, hp, rfl⟩)
    rw [own_self nd p hp] at this
    exact ⟨this, rows_same (h p hp)⟩
  have nk : ((dctD R).map (·.1)).Nodup := by
    unfold dctD
    rw [List.map_map]
    have : (((fun x : Key × D => x.1) ∘ fun p : Str × List Rw => ((.inr p.1 : Key), rowsD p.2))) = (fun z : Str => (.inr z : Key)) ∘ fun p : Str × List Rw => p.1 := rfl
    rw [this, ← List.map_map]
    exact nd.map (f := fun z : Str => (.inr z : Key)) fun a b hab e => hab (by cases e; rfl)
  refine Eq.trans (if_pos ⟨nk, fun p hp z hz => by
    have := gk p hp
    rw [this.1] at hz
    cases hz
    rw [this.2]
    rfl⟩) ?_
  have al : ((dctD R).all fun p => (getK (dctD R) p.1).isSome && decide (∀ z, getK (dctD R) p.1 = some z → pEqB p.2 z = some true)) = true := by
    rw [List.all_eq_true]
    intro p hp
    have := gk p hp
    rw [Bool.and_eq_true]
    refine ⟨by rw [this.1]; rfl, decide_eq_true fun z hz => ?_⟩
    rw [this.1] at hz
    cases hz
    exact this.2
  simp only [beq_self_eq_true, Bool.true_and, al]
theorem Bag.app51 {st : Store} {l : Nat} (h : Bag st l) {st' : Store} (e : st'[l]? = st[l]?) : Bag st' l := by
  obtain ⟨c, h1, h2⟩ := h
  exact ⟨c, by rw [e]; exact h1, h2⟩
theorem judged_ok {l : Nat} {R : List (Str × List Rw)} {x : D} {st : Store} {Q : D → Store → Prop} (hb : Bag st l) (nd : (R.map (·.1)).Nodup) (hN : RsN R) (hx : AnyP 6 x) (K : ∀ st', Bag st' l → Q (.bl true) st') : DOk (d__law_judged [.dlk (dctD R), x] st) Q := by
  unfold d__law_judged
  refine DOk_run ?_
  unfold b__law_judged
  obtain ⟨z, ez⟩ := repr_any hx
  have eq := eq_dct nd fun p hp r hr => (hN.ok p hp).ok r hr
  have hR4 := hN.len
  have ev : ∀ st', seen st' (.val x) = some x := fun st' => seen_any hx.any st'
  simp
  refine COk.of (copy_ok nd (by omega) (fun p hp => (hN.ok p hp).sz) fun c => ?_)
  have hb5 : Bag (st ++ [c]) l := hb.app51 (List.getElem?_append_left (by obtain ⟨c, h, _⟩ := hb; exact (List.getElem?_eq_some_iff.mp h).1))
  have rg2 : Rg (2 : Int) := .of (by omega) (by omega)
  simp [ev, ez, rg2]
  refine SOk_rng 2 (fun q ρ st' => st' = st ++ [c] ∧ ∃ x4 x5, ρ = [.val (.dlk (dctD R)), .val x, .val (.dlk (dctD R)), .val (.str z), x4, x5]) ⟨rfl, _, _, rfl⟩ ?_ ?_
  · rintro q ρ st' hq ⟨rfl, x4, x5, rfl⟩
    refine ⟨_, rfl, ?_⟩
    have r1 := reason_holds_any (st := st ++ [c]) (d := .dlk (dctD R)) rfl hN.ok hx.any
    have r2 := law_reason_good_any (st := st ++ [c]) (d := .dlk (dctD R)) rfl hN.ok hx.any
    have ne : pNe (.bl (reasonA R x)) (.bl (reasonA R x)) = some (.bl false) := by
      cases reasonA R x <;> rfl
    unfold f__law_judged_1
    simp [-dOf, -lkD, r1, r2, ne]
  · rintro ρ st' ⟨rfl, x4, x5, rfl⟩
    simp [eq, ev, ez, pEqS]
    exact K _ hb5
def W55 (ns : List Int) (i l : Nat) (F ws : List Str) (R : List (Str × List Rw)) (g : List Str) (w : Str) (y8 y9 : Sl) : En := [.val (.lsk (ns.map .int)), .val (.int i), .val (.ref l), .val (.lst (F.map .str)), .val (.lst (ws.map .str)), .val (.dlk (dctD R)), .val (.lst (g.map .str)), .val (.str w), y8, y9]
def TInv (ns : List Int) (q : Nat) (ρ : En) (st : Store) : Prop := ∃ x1 x2 x3 x4 x5 x6 x7 x8 x9, ρ = [.val (.lsk (ns.map .int)), x1, x2, x3, x4, x5, x6, x7, x8, x9]
theorem one_ok {ns : List Int} {i l : Nat} {F ws : List Str} {R : List (Str × List Rw)} {g : List Str} {w : Str} {X : D} {y9 : Sl} {st : Store} {V : D → Store → Prop} (hb : Bag st l) (nd : (R.map (·.1)).Nodup) (hN : RsN R) (hX : AnyQ 5 X) (hr : reasonA R X = true) :
    SOk (f_law_2 (W55 ns i l F ws R g w (.val X) y9) st) (fun ρ st' => Bag st' l ∧ ∃ z9, ρ = W55 ns i l F ws R g w (.val X) z9) V := by
  have r2 := law_reason_good_any (st := st) (d := .dlk (dctD R)) rfl hN.ok hX.p.any
  rw [hr] at r2
  have rg3 : Rg (3 : Int) := .of (by omega) (by omega)
  unfold f_law_2 W55
  simp [r2]
  refine COk.of (judged_ok hb nd hN hX.p.up fun st1 hb1 => ?_)
  simp [rg3]
  refine SOk_rng 3 (fun q ρ st' => Bag st' l ∧ ∃ z9, ρ = W55 ns i l F ws R g w (.val X) z9) ⟨hb1, _, rfl⟩ ?_ ?_
  · rintro q ρ st' hq ⟨hb2, z9, rfl⟩
    refine ⟨_, rfl, ?_⟩
    unfold f_law_1 W55
    simp
    refine COk.of (bent_ok 8 5 (by omega) hb2 hX fun x st3 hx hb3 => ?_)
    simp
    refine COk.of (judged_ok hb3 nd hN hx fun st4 hb4 => ?_)
    simp
    exact hb4
  · rintro ρ st' ⟨hb2, z9, rfl⟩
    exact ⟨hb2, z9, rfl⟩
theorem k55_turn {ns : List Int} {i : Nat} {st : Store} {x2 x3 x4 x5 x6 x7 x8 x9 : Sl} {V : D → Store → Prop} (hi : i < 100) (hn : ns.length ≤ 63) : SOk (f_law_3 [.val (.lsk (ns.map .int)), .val (.int i), x2, x3, x4, x5, x6, x7, x8, x9] st) (TInv ns (i + 1)) V := by
  unfold f_law_3
  simp
  refine COk.of (bag_ok (by omega) hn fun st1 hb1 _ => ?_)
  generalize st.length = l at *
  simp
  refine COk.of (ground_ok hb1 fun F ws R st2 G hb2 => ?_)
  have F8 := G.f0
  have W8 := G.w0
  simp
  refine COk.of (some_ok hb2 G.f0.1 (by omega) G.fn fun g st4 hgn hg hg0 hgl hb4 _ => ?_)
  have hg' : ∀ x ∈ g, NameS x := fun x hx => G.fN x (hg x hx)
  have zg : g.length ≤ sizeLine := by rw [sizeLine_eq]; omega
  have hs' : ∀ x ∈ srt g, NameS x := fun x hx => hg' x (srt_mem.mp hx)
  have hsl : (srt g).length = g.length := (srt_perm g).length_eq
  simp
  refine COk.of (take_ok hb4 (many := ws.length) (by omega) (by omega) fun u st5 hu hb5 _ => ?_)
  obtain ⟨w, ew, mw⟩ := at_get (l := ws) hu
  have nw := G.wN w mw
  have r0 : Rs (u : Int) := .of (by omega) (by omega)
  have ix : pIx (.lst (ws.map .str)) (.int (u : Int)) = some (.str w) := by
    simp [ew, r0]
  have hG := grp_srt hgn hg0 hg'
  have hR4 := G.rn.len
  simp [-pIx, ix, zg]
  refine COk.of (reason_ok (d := .dlk (dctD R)) rfl G.rn.ok (by omega) (fun x hx => (hg' x hx).ok) (by omega) nw.ok fun asked t hk hd => ?_)
  have q1 : AnyQ 5 (reasonD R (srt g) w asked t) := by
    obtain ⟨nt, na⟩ := hk.nm G.rn nw
    have hal := hk.keys.2
    refine reasonQ nw hs' (by omega) (fun s hs => ?_) (by simp; omega) (finT_nm nt)
    obtain ⟨v, hv, rfl⟩ := List.mem_map.mp hs
    have hM : ∀ m ∈ toMiss (own R v) (lastH (srt g) (own R v)), m < (own R v).length := fun m hm => (miss_mem hm).2
    have o8 := (own_rn G.rn v).1
    refine stepQ (na v hv) (fun i hi => by have := lastH_lt i hi; omega) ?_ fun p hp => ?_
    · have := miss_len56 (own R v) (lastH (srt g) (own R v))
      simp [missD]; omega
    · simp only [missD, List.mem_map] at hp
      obtain ⟨m, hm, rfl⟩ := hp
      have h1 := miss_mem hm
      exact ⟨by show m < 100; omega, hs' _ (absent_mem (not_heard h1.1 h1.2)).1⟩
  have g1 := reason_right_A hk hd nw hG
  simp
  refine COk.of (other_ok hb5 G.rn nw hg' (by omega) fun asked2 ss t2 st6 hk2 hd2 hq2 hl2 hb6 => ?_)
  have q2 := reasonQ (t := t2) nw hs' (by omega) hq2 hl2 (finT_nm (hk2.wk.nm G.rn nw).1)
  have g2 := good_reason hk2 hd2 nw hG
  generalize reasonD R (srt g) w asked t = X1 at q1 g1
  generalize (D.tup [D.str "reason", .str w, .tup ((srt g).map .str), .lst ss, Dt.d (finT t2)]) = X2 at q2 g2
  simp
  refine SOk_at [X1, X2] (fun q ρ st' => Bag st' l ∧ ∃ y8 y9, ρ = W55 ns i l F ws R g w y8 y9) ⟨hb6, x8, x9, rfl⟩ ?_ ?_
  · rintro q X ρ st' hq ⟨hb7, y8, y9, rfl⟩
    have hX : AnyQ 5 X ∧ reasonA R X = true := by
      have := List.mem_of_getElem? hq
      simp only [List.mem_cons, List.not_mem_nil, or_false] at this
      rcases this with rfl | rfl
      · exact ⟨q1, g1⟩
      · exact ⟨q2, g2⟩
    refine ⟨_, rfl, SOk.mono (one_ok (V := V) (y9 := y9) hb7 G.nd G.rn hX.1 hX.2) (fun ρ st h => ?_) (fun _ _ h => h)⟩
    obtain ⟨hb8, z9, e⟩ := h
    exact ⟨hb8, _, z9, e⟩
  · rintro ρ st' ⟨_, y8, y9, rfl⟩
    exact ⟨_, _, _, _, _, _, _, _, _, rfl⟩
theorem hd : ∀ ns : List Int, ns.length ≤ 63 → ∃ st, d_law [.lsk (ns.map .int)] [] = .ok (.bl true) [] st := fun ns hl => by
  have : DOk (d_law [.lsk (ns.map .int)] []) fun d _ => d = .bl true := by
    unfold d_law
    refine DOk_run ?_
    unfold b_law
    obtain ⟨m, hm, em⟩ : ∃ m : Nat, m ≤ 6 ∧ (if (1 : Int) < (if (6 : Int) < (ns.length : Int) then 6 else (ns.length : Int)) then (if (6 : Int) < (ns.length : Int) then 6 else (ns.length : Int)) else 1) = (m : Int) := by
      by_cases h : (6 : Int) < (ns.length : Int)
      · exact ⟨6, by omega, by simp [h]⟩
      · by_cases h1 : (1 : Int) < (ns.length : Int)
        · exact ⟨ns.length, by omega, by rw [if_neg h, if_pos h1]⟩
        · exact ⟨1, by omega, by rw [if_neg h, if_neg h1]; rfl⟩
    have r1 : Rg (m : Int) := .of (by omega) (by omega)
    simp [em, r1]
    refine SOk_rng m (TInv ns) ⟨.no, .no, .no, .no, .no, .no, .no, .no, .no, rfl⟩ ?_ ?_
    · rintro q ρ st' hq ⟨x1, x2, x3, x4, x5, x6, x7, x8, x9, rfl⟩
      exact ⟨_, rfl, k55_turn (by omega) hl⟩
    · rintro ρ st' ⟨x1, x2, x3, x4, x5, x6, x7, x8, x9, rfl⟩
      simp
  obtain ⟨d, st, e, rfl⟩ := this
  exact ⟨st, e⟩
theorem all_mk {l : PySem.W.OpenLaw} {w : World} {K : PySem.W.Frag} {h : Heap} {mg : Str → Option Value} {fa : Addr} (hd : ∀ ns : List Int, ns.length ≤ 63 → ∃ st, d_law [.lsk (ns.map .int)] [] = .ok (.bl true) [] st) (X : K.In h) (G : h.Ns mainGlobals mg) (hfa : mg "law" = some (.ref fa))
    {f0 : Addr} {od0 an0 : Option Addr} {sl0 : Array (Option Value)} {oc0 kV0 dc0 pm0 cd0 ct0 : Value}
    {f1 : Addr} {od1 an1 : Option Addr} {sl1 : Array (Option Value)} {oc1 kV1 dc1 pm1 cd1 ct1 : Value}
    {f2 : Addr} {od2 an2 : Option Addr} {sl2 : Array (Option Value)} {oc2 kV2 dc2 pm2 cd2 ct2 : Value}
    {f3 : Addr} {od3 an3 : Option Addr} {sl3 : Array (Option Value)} {oc3 kV3 dc3 pm3 cd3 ct3 : Value}
    {f4 : Addr} {od4 an4 : Option Addr} {sl4 : Array (Option Value)} {oc4 kV4 dc4 pm4 cd4 ct4 : Value}
    {f5 : Addr} {od5 an5 : Option Addr} {sl5 : Array (Option Value)} {oc5 kV5 dc5 pm5 cd5 ct5 : Value}
    {f6 : Addr} {od6 an6 : Option Addr} {sl6 : Array (Option Value)} {oc6 kV6 dc6 pm6 cd6 ct6 : Value}
    {f7 : Addr} {od7 an7 : Option Addr} {sl7 : Array (Option Value)} {oc7 kV7 dc7 pm7 cd7 ct7 : Value}
    {f8 : Addr} {od8 an8 : Option Addr} {sl8 : Array (Option Value)} {oc8 kV8 dc8 pm8 cd8 ct8 : Value}
    {f9 : Addr} {od9 an9 : Option Addr} {sl9 : Array (Option Value)} {oc9 kV9 dc9 pm9 cd9 ct9 : Value}
    {f10 : Addr} {od10 an10 : Option Addr} {sl10 : Array (Option Value)} {oc10 kV10 dc10 pm10 cd10 ct10 : Value}
    {f11 : Addr} {od11 an11 : Option Addr} {sl11 : Array (Option Value)} {oc11 kV11 dc11 pm11 cd11 ct11 : Value}
    {f12 : Addr} {od12 an12 : Option Addr} {sl12 : Array (Option Value)} {oc12 kV12 dc12 pm12 cd12 ct12 : Value}
    {f13 : Addr} {od13 an13 : Option Addr} {sl13 : Array (Option Value)} {oc13 kV13 dc13 pm13 cd13 ct13 : Value}
    {f14 : Addr} {od14 an14 : Option Addr} {sl14 : Array (Option Value)} {oc14 kV14 dc14 pm14 cd14 ct14 : Value}
    {f15 : Addr} {od15 an15 : Option Addr} {sl15 : Array (Option Value)} {oc15 kV15 dc15 pm15 cd15 ct15 : Value}
    {f16 : Addr} {od16 an16 : Option Addr} {sl16 : Array (Option Value)} {oc16 kV16 dc16 pm16 cd16 ct16 : Value}
    {f17 : Addr} {od17 an17 : Option Addr} {sl17 : Array (Option Value)} {oc17 kV17 dc17 pm17 cd17 ct17 : Value}
    {f18 : Addr} {od18 an18 : Option Addr} {sl18 : Array (Option Value)} {oc18 kV18 dc18 pm18 cd18 ct18 : Value}
    {f19 : Addr} {od19 an19 : Option Addr} {sl19 : Array (Option Value)} {oc19 kV19 dc19 pm19 cd19 ct19 : Value}
    {f20 : Addr} {od20 an20 : Option Addr} {sl20 : Array (Option Value)} {oc20 kV20 dc20 pm20 cd20 ct20 : Value}
    {f21 : Addr} {od21 an21 : Option Addr} {sl21 : Array (Option Value)} {oc21 kV21 dc21 pm21 cd21 ct21 : Value}
    {f22 : Addr} {od22 an22 : Option Addr} {sl22 : Array (Option Value)} {oc22 kV22 dc22 pm22 cd22 ct22 : Value}
    {f23 : Addr} {od23 an23 : Option Addr} {sl23 : Array (Option Value)} {oc23 kV23 dc23 pm23 cd23 ct23 : Value}
    {f24 : Addr} {od24 an24 : Option Addr} {sl24 : Array (Option Value)} {oc24 kV24 dc24 pm24 cd24 ct24 : Value}
    {f25 : Addr} {od25 an25 : Option Addr} {sl25 : Array (Option Value)} {oc25 kV25 dc25 pm25 cd25 ct25 : Value}
    {f26 : Addr} {od26 an26 : Option Addr} {sl26 : Array (Option Value)} {oc26 kV26 dc26 pm26 cd26 ct26 : Value}
    {f27 : Addr} {od27 an27 : Option Addr} {sl27 : Array (Option Value)} {oc27 kV27 dc27 pm27 cd27 ct27 : Value}
    {f28 : Addr} {od28 an28 : Option Addr} {sl28 : Array (Option Value)} {oc28 kV28 dc28 pm28 cd28 ct28 : Value}
    {f29 : Addr} {od29 an29 : Option Addr} {sl29 : Array (Option Value)} {oc29 kV29 dc29 pm29 cd29 ct29 : Value}
    {f30 : Addr} {od30 an30 : Option Addr} {sl30 : Array (Option Value)} {oc30 kV30 dc30 pm30 cd30 ct30 : Value}
    {f31 : Addr} {od31 an31 : Option Addr} {sl31 : Array (Option Value)} {oc31 kV31 dc31 pm31 cd31 ct31 : Value}
    {f32 : Addr} {od32 an32 : Option Addr} {sl32 : Array (Option Value)} {oc32 kV32 dc32 pm32 cd32 ct32 : Value}
    {u_LATER : _}
    {u_LETTERS : _}
    {u_MOST_LETTERS : _}
    (a0 : PySem.W.nsIn K mainGlobals "_law_bag" = some (some (.ref f0)))
    (l0 : K.lookup f0 = some ⟨oc0, od0, .func (PySem.W.fnOf "_law_bag" "_law_bag" (defArgs s__law_bag) (defBody s__law_bag) (defScope s__law_bag) .none kV0 dc0 pm0 an0 cd0 ct0), sl0⟩)
    (c0_ : PySem.W.codeIn K cd0 "_law_bag" = true)
    (k0 : PySem.W.keepIn K (.ref f0) = true)
    (a1 : PySem.W.nsIn K mainGlobals "_law_take" = some (some (.ref f1)))
    (l1 : K.lookup f1 = some ⟨oc1, od1, .func (PySem.W.fnOf "_law_take" "_law_take" (defArgs s__law_take) (defBody s__law_take) (defScope s__law_take) .none kV1 dc1 pm1 an1 cd1 ct1), sl1⟩)
    (c1_ : PySem.W.codeIn K cd1 "_law_take" = true)
    (k1 : PySem.W.keepIn K (.ref f1) = true)
    (a2 : PySem.W.nsIn K mainGlobals "_law_names" = some (some (.ref f2)))
    (l2 : K.lookup f2 = some ⟨oc2, od2, .func (PySem.W.fnOf "_law_names" "_law_names" (defArgs s__law_names) (defBody s__law_names) (defScope s__law_names) .none kV2 dc2 pm2 an2 cd2 ct2), sl2⟩)
    (c2_ : PySem.W.codeIn K cd2 "_law_names" = true)
    (k2 : PySem.W.keepIn K (.ref f2) = true)
    (a3 : PySem.W.nsIn K mainGlobals "_law_thing" = some (some (.ref f3)))
    (l3 : K.lookup f3 = some ⟨oc3, od3, .func (PySem.W.fnOf "_law_thing" "_law_thing" (defArgs s__law_thing) (defBody s__law_thing) (defScope s__law_thing) .none kV3 dc3 pm3 an3 cd3 ct3), sl3⟩)
    (c3_ : PySem.W.codeIn K cd3 "_law_thing" = true)
    (k3 : PySem.W.keepIn K (.ref f3) = true)
    (a4 : PySem.W.nsIn K mainGlobals "_law_hearers" = some (some (.ref f4)))
    (l4 : K.lookup f4 = some ⟨oc4, od4, .func (PySem.W.fnOf "_law_hearers" "_law_hearers" (defArgs s__law_hearers) (defBody s__law_hearers) (defScope s__law_hearers) .none kV4 dc4 pm4 an4 cd4 ct4), sl4⟩)
    (c4_ : PySem.W.codeIn K cd4 "_law_hearers" = true)
    (k4 : PySem.W.keepIn K (.ref f4) = true)
    (a5 : PySem.W.nsIn K mainGlobals "_law_rows" = some (some (.ref f5)))
    (l5 : K.lookup f5 = some ⟨oc5, od5, .func (PySem.W.fnOf "_law_rows" "_law_rows" (defArgs s__law_rows) (defBody s__law_rows) (defScope s__law_rows) .none kV5 dc5 pm5 an5 cd5 ct5), sl5⟩)
    (c5_ : PySem.W.codeIn K cd5 "_law_rows" = true)
    (k5 : PySem.W.keepIn K (.ref f5) = true)
    (a6 : PySem.W.nsIn K mainGlobals "_law_ground" = some (some (.ref f6)))
    (l6 : K.lookup f6 = some ⟨oc6, od6, .func (PySem.W.fnOf "_law_ground" "_law_ground" (defArgs s__law_ground) (defBody s__law_ground) (defScope s__law_ground) .none kV6 dc6 pm6 an6 cd6 ct6), sl6⟩)
    (c6_ : PySem.W.codeIn K cd6 "_law_ground" = true)
    (k6 : PySem.W.keepIn K (.ref f6) = true)
    (a7 : PySem.W.nsIn K mainGlobals "_law_some" = some (some (.ref f7)))
    (l7 : K.lookup f7 = some ⟨oc7, od7, .func (PySem.W.fnOf "_law_some" "_law_some" (defArgs s__law_some) (defBody s__law_some) (defScope s__law_some) .none kV7 dc7 pm7 an7 cd7 ct7), sl7⟩)
    (c7_ : PySem.W.codeIn K cd7 "_law_some" = true)
    (k7 : PySem.W.keepIn K (.ref f7) = true)
    (a8 : PySem.W.nsIn K mainGlobals "last_heard" = some (some (.ref f8)))
    (l8 : K.lookup f8 = some ⟨oc8, od8, .func (PySem.W.fnOf "last_heard" "last_heard" (defArgs s_last_heard) (defBody s_last_heard) (defScope s_last_heard) .none kV8 dc8 pm8 an8 cd8 ct8), sl8⟩)
    (c8_ : PySem.W.codeIn K cd8 "last_heard" = true)
    (k8 : PySem.W.keepIn K (.ref f8) = true)
    (a9 : PySem.W.nsIn K mainGlobals "absent_person" = some (some (.ref f9)))
    (l9 : K.lookup f9 = some ⟨oc9, od9, .func (PySem.W.fnOf "absent_person" "absent_person" (defArgs s_absent_person) (defBody s_absent_person) (defScope s_absent_person) .none kV9 dc9 pm9 an9 cd9 ct9), sl9⟩)
    (c9_ : PySem.W.codeIn K cd9 "absent_person" = true)
    (k9 : PySem.W.keepIn K (.ref f9) = true)
    (a10 : PySem.W.nsIn K mainGlobals "step_thing" = some (some (.ref f10)))
    (l10 : K.lookup f10 = some ⟨oc10, od10, .func (PySem.W.fnOf "step_thing" "step_thing" (defArgs s_step_thing) (defBody s_step_thing) (defScope s_step_thing) .none kV10 dc10 pm10 an10 cd10 ct10), sl10⟩)
    (c10_ : PySem.W.codeIn K cd10 "step_thing" = true)
    (k10 : PySem.W.keepIn K (.ref f10) = true)
    (a11 : PySem.W.nsIn K mainGlobals "rows_to_miss" = some (some (.ref f11)))
    (l11 : K.lookup f11 = some ⟨oc11, od11, .func (PySem.W.fnOf "rows_to_miss" "rows_to_miss" (defArgs s_rows_to_miss) (defBody s_rows_to_miss) (defScope s_rows_to_miss) .none kV11 dc11 pm11 an11 cd11 ct11), sl11⟩)
    (c11_ : PySem.W.codeIn K cd11 "rows_to_miss" = true)
    (k11 : PySem.W.keepIn K (.ref f11) = true)
    (a12 : PySem.W.nsIn K mainGlobals "step_for" = some (some (.ref f12)))
    (l12 : K.lookup f12 = some ⟨oc12, od12, .func (PySem.W.fnOf "step_for" "step_for" (defArgs s_step_for) (defBody s_step_for) (defScope s_step_for) .none kV12 dc12 pm12 an12 cd12 ct12), sl12⟩)
    (c12_ : PySem.W.codeIn K cd12 "step_for" = true)
    (k12 : PySem.W.keepIn K (.ref f12) = true)
    (a13 : PySem.W.nsIn K mainGlobals "reason" = some (some (.ref f13)))
    (l13 : K.lookup f13 = some ⟨oc13, od13, .func (PySem.W.fnOf "reason" "reason" (defArgs s_reason) (defBody s_reason) (defScope s_reason) .none kV13 dc13 pm13 an13 cd13 ct13), sl13⟩)
    (c13_ : PySem.W.codeIn K cd13 "reason" = true)
    (k13 : PySem.W.keepIn K (.ref f13) = true)
    (a14 : PySem.W.nsIn K mainGlobals "_law_other_step" = some (some (.ref f14)))
    (l14 : K.lookup f14 = some ⟨oc14, od14, .func (PySem.W.fnOf "_law_other_step" "_law_other_step" (defArgs s__law_other_step) (defBody s__law_other_step) (defScope s__law_other_step) .none kV14 dc14 pm14 an14 cd14 ct14), sl14⟩)
    (c14_ : PySem.W.codeIn K cd14 "_law_other_step" = true)
    (k14 : PySem.W.keepIn K (.ref f14) = true)
    (a15 : PySem.W.nsIn K mainGlobals "_law_other_reason" = some (some (.ref f15)))
    (l15 : K.lookup f15 = some ⟨oc15, od15, .func (PySem.W.fnOf "_law_other_reason" "_law_other_reason" (defArgs s__law_other_reason) (defBody s__law_other_reason) (defScope s__law_other_reason) .none kV15 dc15 pm15 an15 cd15 ct15), sl15⟩)
    (c15_ : PySem.W.codeIn K cd15 "_law_other_reason" = true)
    (k15 : PySem.W.keepIn K (.ref f15) = true)
    (a16 : PySem.W.nsIn K mainGlobals "_law_is_name" = some (some (.ref f16)))
    (l16 : K.lookup f16 = some ⟨oc16, od16, .func (PySem.W.fnOf "_law_is_name" "_law_is_name" (defArgs s__law_is_name) (defBody s__law_is_name) (defScope s__law_is_name) .none kV16 dc16 pm16 an16 cd16 ct16), sl16⟩)
    (c16_ : PySem.W.codeIn K cd16 "_law_is_name" = true)
    (k16 : PySem.W.keepIn K (.ref f16) = true)
    (a17 : PySem.W.nsIn K mainGlobals "_law_are_names" = some (some (.ref f17)))
    (l17 : K.lookup f17 = some ⟨oc17, od17, .func (PySem.W.fnOf "_law_are_names" "_law_are_names" (defArgs s__law_are_names) (defBody s__law_are_names) (defScope s__law_are_names) .none kV17 dc17 pm17 an17 cd17 ct17), sl17⟩)
    (c17_ : PySem.W.codeIn K cd17 "_law_are_names" = true)
    (k17 : PySem.W.keepIn K (.ref f17) = true)
    (a18 : PySem.W.nsIn K mainGlobals "_law_absent_good" = some (some (.ref f18)))
    (l18 : K.lookup f18 = some ⟨oc18, od18, .func (PySem.W.fnOf "_law_absent_good" "_law_absent_good" (defArgs s__law_absent_good) (defBody s__law_absent_good) (defScope s__law_absent_good) .none kV18 dc18 pm18 an18 cd18 ct18), sl18⟩)
    (c18_ : PySem.W.codeIn K cd18 "_law_absent_good" = true)
    (k18 : PySem.W.keepIn K (.ref f18) = true)
    (a19 : PySem.W.nsIn K mainGlobals "_law_step_good" = some (some (.ref f19)))
    (l19 : K.lookup f19 = some ⟨oc19, od19, .func (PySem.W.fnOf "_law_step_good" "_law_step_good" (defArgs s__law_step_good) (defBody s__law_step_good) (defScope s__law_step_good) .none kV19 dc19 pm19 an19 cd19 ct19), sl19⟩)
    (c19_ : PySem.W.codeIn K cd19 "_law_step_good" = true)
    (k19 : PySem.W.keepIn K (.ref f19) = true)
    (a20 : PySem.W.nsIn K mainGlobals "_law_reason_good" = some (some (.ref f20)))
    (l20 : K.lookup f20 = some ⟨oc20, od20, .func (PySem.W.fnOf "_law_reason_good" "_law_reason_good" (defArgs s__law_reason_good) (defBody s__law_reason_good) (defScope s__law_reason_good) .none kV20 dc20 pm20 an20 cd20 ct20), sl20⟩)
    (c20_ : PySem.W.codeIn K cd20 "_law_reason_good" = true)
    (k20 : PySem.W.keepIn K (.ref f20) = true)
    (a21 : PySem.W.nsIn K mainGlobals "_law_copy" = some (some (.ref f21)))
    (l21 : K.lookup f21 = some ⟨oc21, od21, .func (PySem.W.fnOf "_law_copy" "_law_copy" (defArgs s__law_copy) (defBody s__law_copy) (defScope s__law_copy) .none kV21 dc21 pm21 an21 cd21 ct21), sl21⟩)
    (c21_ : PySem.W.codeIn K cd21 "_law_copy" = true)
    (k21 : PySem.W.keepIn K (.ref f21) = true)
    (a22 : PySem.W.nsIn K mainGlobals "is_tuple_of" = some (some (.ref f22)))
    (l22 : K.lookup f22 = some ⟨oc22, od22, .func (PySem.W.fnOf "is_tuple_of" "is_tuple_of" (defArgs s_is_tuple_of) (defBody s_is_tuple_of) (defScope s_is_tuple_of) .none kV22 dc22 pm22 an22 cd22 ct22), sl22⟩)
    (c22_ : PySem.W.codeIn K cd22 "is_tuple_of" = true)
    (k22 : PySem.W.keepIn K (.ref f22) = true)
    (a23 : PySem.W.nsIn K mainGlobals "is_name" = some (some (.ref f23)))
    (l23 : K.lookup f23 = some ⟨oc23, od23, .func (PySem.W.fnOf "is_name" "is_name" (defArgs s_is_name) (defBody s_is_name) (defScope s_is_name) .none kV23 dc23 pm23 an23 cd23 ct23), sl23⟩)
    (c23_ : PySem.W.codeIn K cd23 "is_name" = true)
    (k23 : PySem.W.keepIn K (.ref f23) = true)
    (a24 : PySem.W.nsIn K mainGlobals "are_names" = some (some (.ref f24)))
    (l24 : K.lookup f24 = some ⟨oc24, od24, .func (PySem.W.fnOf "are_names" "are_names" (defArgs s_are_names) (defBody s_are_names) (defScope s_are_names) .none kV24 dc24 pm24 an24 cd24 ct24), sl24⟩)
    (c24_ : PySem.W.codeIn K cd24 "are_names" = true)
    (k24 : PySem.W.keepIn K (.ref f24) = true)
    (a25 : PySem.W.nsIn K mainGlobals "is_index" = some (some (.ref f25)))
    (l25 : K.lookup f25 = some ⟨oc25, od25, .func (PySem.W.fnOf "is_index" "is_index" (defArgs s_is_index) (defBody s_is_index) (defScope s_is_index) .none kV25 dc25 pm25 an25 cd25 ct25), sl25⟩)
    (c25_ : PySem.W.codeIn K cd25 "is_index" = true)
    (k25 : PySem.W.keepIn K (.ref f25) = true)
    (a26 : PySem.W.nsIn K mainGlobals "absent_hold" = some (some (.ref f26)))
    (l26 : K.lookup f26 = some ⟨oc26, od26, .func (PySem.W.fnOf "absent_hold" "absent_hold" (defArgs s_absent_hold) (defBody s_absent_hold) (defScope s_absent_hold) .none kV26 dc26 pm26 an26 cd26 ct26), sl26⟩)
    (c26_ : PySem.W.codeIn K cd26 "absent_hold" = true)
    (k26 : PySem.W.keepIn K (.ref f26) = true)
    (a27 : PySem.W.nsIn K mainGlobals "step_holds" = some (some (.ref f27)))
    (l27 : K.lookup f27 = some ⟨oc27, od27, .func (PySem.W.fnOf "step_holds" "step_holds" (defArgs s_step_holds) (defBody s_step_holds) (defScope s_step_holds) .none kV27 dc27 pm27 an27 cd27 ct27), sl27⟩)
    (c27_ : PySem.W.codeIn K cd27 "step_holds" = true)
    (k27 : PySem.W.keepIn K (.ref f27) = true)
    (a28 : PySem.W.nsIn K mainGlobals "reason_holds" = some (some (.ref f28)))
    (l28 : K.lookup f28 = some ⟨oc28, od28, .func (PySem.W.fnOf "reason_holds" "reason_holds" (defArgs s_reason_holds) (defBody s_reason_holds) (defScope s_reason_holds) .none kV28 dc28 pm28 an28 cd28 ct28), sl28⟩)
    (c28_ : PySem.W.codeIn K cd28 "reason_holds" = true)
    (k28 : PySem.W.keepIn K (.ref f28) = true)
    (a29 : PySem.W.nsIn K mainGlobals "_law_judged" = some (some (.ref f29)))
    (l29 : K.lookup f29 = some ⟨oc29, od29, .func (PySem.W.fnOf "_law_judged" "_law_judged" (defArgs s__law_judged) (defBody s__law_judged) (defScope s__law_judged) .none kV29 dc29 pm29 an29 cd29 ct29), sl29⟩)
    (c29_ : PySem.W.codeIn K cd29 "_law_judged" = true)
    (k29 : PySem.W.keepIn K (.ref f29) = true)
    (a30 : PySem.W.nsIn K mainGlobals "_law_odd" = some (some (.ref f30)))
    (l30 : K.lookup f30 = some ⟨oc30, od30, .func (PySem.W.fnOf "_law_odd" "_law_odd" (defArgs s__law_odd) (defBody s__law_odd) (defScope s__law_odd) .none kV30 dc30 pm30 an30 cd30 ct30), sl30⟩)
    (c30_ : PySem.W.codeIn K cd30 "_law_odd" = true)
    (k30 : PySem.W.keepIn K (.ref f30) = true)
    (a31 : PySem.W.nsIn K mainGlobals "_law_bent" = some (some (.ref f31)))
    (l31 : K.lookup f31 = some ⟨oc31, od31, .func (PySem.W.fnOf "_law_bent" "_law_bent" (defArgs s__law_bent) (defBody s__law_bent) (defScope s__law_bent) .none kV31 dc31 pm31 an31 cd31 ct31), sl31⟩)
    (c31_ : PySem.W.codeIn K cd31 "_law_bent" = true)
    (k31 : PySem.W.keepIn K (.ref f31) = true)
    (a32 : PySem.W.nsIn K mainGlobals "law" = some (some (.ref f32)))
    (l32 : K.lookup f32 = some ⟨oc32, od32, .func (PySem.W.fnOf "law" "law" (defArgs s_law) (defBody s_law) (defScope s_law) .none kV32 dc32 pm32 an32 cd32 ct32), sl32⟩)
    (c32_ : PySem.W.codeIn K cd32 "law" = true)
    (k32 : PySem.W.keepIn K (.ref f32) = true)
    (z_abs : PySem.W.nsIn K mainGlobals "abs" = some none)
    (z_all : PySem.W.nsIn K mainGlobals "all" = some none)
    (z_bool : PySem.W.nsIn K mainGlobals "bool" = some none)
    (z_enumerate : PySem.W.nsIn K mainGlobals "enumerate" = some none)
    (z_int : PySem.W.nsIn K mainGlobals "int" = some none)
    (z_isinstance : PySem.W.nsIn K mainGlobals "isinstance" = some none)
    (z_len : PySem.W.nsIn K mainGlobals "len" = some none)
    (z_list : PySem.W.nsIn K mainGlobals "list" = some none)
    (z_max : PySem.W.nsIn K mainGlobals "max" = some none)
    (z_min : PySem.W.nsIn K mainGlobals "min" = some none)
    (z_range : PySem.W.nsIn K mainGlobals "range" = some none)
    (z_repr : PySem.W.nsIn K mainGlobals "repr" = some none)
    (z_set : PySem.W.nsIn K mainGlobals "set" = some none)
    (z_sorted : PySem.W.nsIn K mainGlobals "sorted" = some none)
    (z_str : PySem.W.nsIn K mainGlobals "str" = some none)
    (z_tuple : PySem.W.nsIn K mainGlobals "tuple" = some none)
    (y_LATER : PySem.W.nsIn K mainGlobals "LATER" = some (some (.str "later" u_LATER)))
    (y_LETTERS : PySem.W.nsIn K mainGlobals "LETTERS" = some (some (.str "abcdefghijklmnopqrstuvwxyz" u_LETTERS)))
    (y_MOST_LETTERS : PySem.W.nsIn K mainGlobals "MOST_LETTERS" = some (some (.int 8 u_MOST_LETTERS))) :
    ∃ fd : FuncData, (∀ (s : Shared) (v : Value), BindsTo s fd ⟨[v], []⟩ [("_law_script", v)]) ∧ ∀ base : Heap, K.In base → base.Ns mainGlobals mg → FnG l.prog w K mg base (L2N.CX l.prog w) 11 fa fd ["_law_script"] (spLaw K) := by
  have e := hfa.symm.trans (PySem.W.mg_of X G a32)
  cases e
  have T : Fx K mg := ⟨PySem.W.mg_none_of X G z_abs, PySem.W.mg_none_of X G z_all, PySem.W.mg_none_of X G z_bool, PySem.W.mg_none_of X G z_enumerate, PySem.W.mg_none_of X G z_int, PySem.W.mg_none_of X G z_isinstance, PySem.W.mg_none_of X G z_len, PySem.W.mg_none_of X G z_list, PySem.W.mg_none_of X G z_max, PySem.W.mg_none_of X G z_min, PySem.W.mg_none_of X G z_range, PySem.W.mg_none_of X G z_repr, PySem.W.mg_none_of X G z_set, PySem.W.mg_none_of X G z_sorted, PySem.W.mg_none_of X G z_str, PySem.W.mg_none_of X G z_tuple, ⟨_, PySem.W.mg_of X G y_LATER⟩, ⟨_, PySem.W.mg_of X G y_LETTERS⟩, ⟨_, PySem.W.mg_of X G y_MOST_LETTERS⟩⟩
  have F0 := fun_mk (st := s__law_bag) l0 c0_ k0
  have D0 : Dfn K mg "_law_bag" ["_law_script", "_law_at"] s__law_bag := ⟨_, _, F0, PySem.W.mg_of X G a0, (F0.binds (ps := ["_law_script", "_law_at"]) fun _ _ _ _ _ _ us hl => match us, hl with | [_, _], _ => rfl)⟩
  have F1 := fun_mk (st := s__law_take) l1 c1_ k1
  have D1 : Dfn K mg "_law_take" ["_law_bag_here", "_law_many"] s__law_take := ⟨_, _, F1, PySem.W.mg_of X G a1, (F1.binds (ps := ["_law_bag_here", "_law_many"]) fun _ _ _ _ _ _ us hl => match us, hl with | [_, _], _ => rfl)⟩
  have F2 := fun_mk (st := s__law_names) l2 c2_ k2
  have D2 : Dfn K mg "_law_names" ["_law_bag_here", "_law_many"] s__law_names := ⟨_, _, F2, PySem.W.mg_of X G a2, (F2.binds (ps := ["_law_bag_here", "_law_many"]) fun _ _ _ _ _ _ us hl => match us, hl with | [_, _], _ => rfl)⟩
  have F3 := fun_mk (st := s__law_thing) l3 c3_ k3
  have D3 : Dfn K mg "_law_thing" ["_law_bag_here", "_law_words", "_law_things"] s__law_thing := ⟨_, _, F3, PySem.W.mg_of X G a3, (F3.binds (ps := ["_law_bag_here", "_law_words", "_law_things"]) fun _ _ _ _ _ _ us hl => match us, hl with | [_, _, _], _ => rfl)⟩
  have F4 := fun_mk (st := s__law_hearers) l4 c4_ k4
  have D4 : Dfn K mg "_law_hearers" ["_law_bag_here", "_law_members"] s__law_hearers := ⟨_, _, F4, PySem.W.mg_of X G a4, (F4.binds (ps := ["_law_bag_here", "_law_members"]) fun _ _ _ _ _ _ us hl => match us, hl with | [_, _], _ => rfl)⟩
  have F5 := fun_mk (st := s__law_rows) l5 c5_ k5
  have D5 : Dfn K mg "_law_rows" ["_law_bag_here", "_law_words", "_law_things", "_law_members", "_law_most"] s__law_rows := ⟨_, _, F5, PySem.W.mg_of X G a5, (F5.binds (ps := ["_law_bag_here", "_law_words", "_law_things", "_law_members", "_law_most"]) fun _ _ _ _ _ _ us hl => match us, hl with | [_, _, _, _, _], _ => rfl)⟩
  have F6 := fun_mk (st := s__law_ground) l6 c6_ k6
  have D6 : Dfn K mg "_law_ground" ["_law_bag_here"] s__law_ground := ⟨_, _, F6, PySem.W.mg_of X G a6, (F6.binds (ps := ["_law_bag_here"]) fun _ _ _ _ _ _ us hl => match us, hl with | [_], _ => rfl)⟩
  have F7 := fun_mk (st := s__law_some) l7 c7_ k7
  have D7 : Dfn K mg "_law_some" ["_law_bag_here", "_law_things"] s__law_some := ⟨_, _, F7, PySem.W.mg_of X G a7, (F7.binds (ps := ["_law_bag_here", "_law_things"]) fun _ _ _ _ _ _ us hl => match us, hl with | [_, _], _ => rfl)⟩
  have F8 := fun_mk (st := s_last_heard) l8 c8_ k8
  have D8 : Dfn K mg "last_heard" ["rows", "people"] s_last_heard := ⟨_, _, F8, PySem.W.mg_of X G a8, (F8.binds (ps := ["rows", "people"]) fun _ _ _ _ _ _ us hl => match us, hl with | [_, _], _ => rfl)⟩
  have F9 := fun_mk (st := s_absent_person) l9 c9_ k9
  have D9 : Dfn K mg "absent_person" ["hearers", "people"] s_absent_person := ⟨_, _, F9, PySem.W.mg_of X G a9, (F9.binds (ps := ["hearers", "people"]) fun _ _ _ _ _ _ us hl => match us, hl with | [_, _], _ => rfl)⟩
  have F10 := fun_mk (st := s_step_thing) l10 c10_ k10
  have D10 : Dfn K mg "step_thing" ["rows", "at"] s_step_thing := ⟨_, _, F10, PySem.W.mg_of X G a10, (F10.binds (ps := ["rows", "at"]) fun _ _ _ _ _ _ us hl => match us, hl with | [_, _], _ => rfl)⟩
  have F11 := fun_mk (st := s_rows_to_miss) l11 c11_ k11
  have D11 : Dfn K mg "rows_to_miss" ["rows", "at"] s_rows_to_miss := ⟨_, _, F11, PySem.W.mg_of X G a11, (F11.binds (ps := ["rows", "at"]) fun _ _ _ _ _ _ us hl => match us, hl with | [_, _], _ => rfl)⟩
  have F12 := fun_mk (st := s_step_for) l12 c12_ k12
  have D12 : Dfn K mg "step_for" ["rows", "word", "people"] s_step_for := ⟨_, _, F12, PySem.W.mg_of X G a12, (F12.binds (ps := ["rows", "word", "people"]) fun _ _ _ _ _ _ us hl => match us, hl with | [_, _, _], _ => rfl)⟩
  have F13 := fun_mk (st := s_reason) l13 c13_ k13
  have D13 : Dfn K mg "reason" ["rows", "word", "group"] s_reason := ⟨_, _, F13, PySem.W.mg_of X G a13, (F13.binds (ps := ["rows", "word", "group"]) fun _ _ _ _ _ _ us hl => match us, hl with | [_, _, _], _ => rfl)⟩
  have F14 := fun_mk (st := s__law_other_step) l14 c14_ k14
  have D14 : Dfn K mg "_law_other_step" ["_law_bag_here", "_law_own", "_law_word", "_law_group"] s__law_other_step := ⟨_, _, F14, PySem.W.mg_of X G a14, (F14.binds (ps := ["_law_bag_here", "_law_own", "_law_word", "_law_group"]) fun _ _ _ _ _ _ us hl => match us, hl with | [_, _, _, _], _ => rfl)⟩
  have F15 := fun_mk (st := s__law_other_reason) l15 c15_ k15
  have D15 : Dfn K mg "_law_other_reason" ["_law_bag_here", "_law_rows_here", "_law_word", "_law_group"] s__law_other_reason := ⟨_, _, F15, PySem.W.mg_of X G a15, (F15.binds (ps := ["_law_bag_here", "_law_rows_here", "_law_word", "_law_group"]) fun _ _ _ _ _ _ us hl => match us, hl with | [_, _, _, _], _ => rfl)⟩
  have F16 := fun_mk (st := s__law_is_name) l16 c16_ k16
  have D16 : Dfn K mg "_law_is_name" ["_law_thing_here"] s__law_is_name := ⟨_, _, F16, PySem.W.mg_of X G a16, (F16.binds (ps := ["_law_thing_here"]) fun _ _ _ _ _ _ us hl => match us, hl with | [_], _ => rfl)⟩
  have F17 := fun_mk (st := s__law_are_names) l17 c17_ k17
  have D17 : Dfn K mg "_law_are_names" ["_law_thing_here"] s__law_are_names := ⟨_, _, F17, PySem.W.mg_of X G a17, (F17.binds (ps := ["_law_thing_here"]) fun _ _ _ _ _ _ us hl => match us, hl with | [_], _ => rfl)⟩
  have F18 := fun_mk (st := s__law_absent_good) l18 c18_ k18
  have D18 : Dfn K mg "_law_absent_good" ["_law_rows_here", "_law_group", "_law_first", "_law_thing_here", "_law_absent"] s__law_absent_good := ⟨_, _, F18, PySem.W.mg_of X G a18, (F18.binds (ps := ["_law_rows_here", "_law_group", "_law_first", "_law_thing_here", "_law_absent"]) fun _ _ _ _ _ _ us hl => match us, hl with | [_, _, _, _, _], _ => rfl)⟩
  have F19 := fun_mk (st := s__law_step_good) l19 c19_ k19
  have D19 : Dfn K mg "_law_step_good" ["_law_rows_here", "_law_group", "_law_word", "_law_step"] s__law_step_good := ⟨_, _, F19, PySem.W.mg_of X G a19, (F19.binds (ps := ["_law_rows_here", "_law_group", "_law_word", "_law_step"]) fun _ _ _ _ _ _ us hl => match us, hl with | [_, _, _, _], _ => rfl)⟩
  have F20 := fun_mk (st := s__law_reason_good) l20 c20_ k20
  have D20 : Dfn K mg "_law_reason_good" ["_law_rows_here", "_law_thing_here"] s__law_reason_good := ⟨_, _, F20, PySem.W.mg_of X G a20, (F20.binds (ps := ["_law_rows_here", "_law_thing_here"]) fun _ _ _ _ _ _ us hl => match us, hl with | [_, _], _ => rfl)⟩
  have F21 := fun_mk (st := s__law_copy) l21 c21_ k21
  have D21 : Dfn K mg "_law_copy" ["_law_rows_here"] s__law_copy := ⟨_, _, F21, PySem.W.mg_of X G a21, (F21.binds (ps := ["_law_rows_here"]) fun _ _ _ _ _ _ us hl => match us, hl with | [_], _ => rfl)⟩
  have F22 := fun_mk (st := s_is_tuple_of) l22 c22_ k22
  have D22 : Dfn K mg "is_tuple_of" ["thing", "many"] s_is_tuple_of := ⟨_, _, F22, PySem.W.mg_of X G a22, (F22.binds (ps := ["thing", "many"]) fun _ _ _ _ _ _ us hl => match us, hl with | [_, _], _ => rfl)⟩
  have F23 := fun_mk (st := s_is_name) l23 c23_ k23
  have D23 : Dfn K mg "is_name" ["thing"] s_is_name := ⟨_, _, F23, PySem.W.mg_of X G a23, (F23.binds (ps := ["thing"]) fun _ _ _ _ _ _ us hl => match us, hl with | [_], _ => rfl)⟩
  have F24 := fun_mk (st := s_are_names) l24 c24_ k24
  have D24 : Dfn K mg "are_names" ["thing"] s_are_names := ⟨_, _, F24, PySem.W.mg_of X G a24, (F24.binds (ps := ["thing"]) fun _ _ _ _ _ _ us hl => match us, hl with | [_], _ => rfl)⟩
  have F25 := fun_mk (st := s_is_index) l25 c25_ k25
  have D25 : Dfn K mg "is_index" ["thing", "many"] s_is_index := ⟨_, _, F25, PySem.W.mg_of X G a25, (F25.binds (ps := ["thing", "many"]) fun _ _ _ _ _ _ us hl => match us, hl with | [_, _], _ => rfl)⟩
  have F26 := fun_mk (st := s_absent_hold) l26 c26_ k26
  have D26 : Dfn K mg "absent_hold" ["rows", "group", "absent"] s_absent_hold := ⟨_, _, F26, PySem.W.mg_of X G a26, (F26.binds (ps := ["rows", "group", "absent"]) fun _ _ _ _ _ _ us hl => match us, hl with | [_, _, _], _ => rfl)⟩
  have F27 := fun_mk (st := s_step_holds) l27 c27_ k27
  have D27 : Dfn K mg "step_holds" ["rows", "group", "step"] s_step_holds := ⟨_, _, F27, PySem.W.mg_of X G a27, (F27.binds (ps := ["rows", "group", "step"]) fun _ _ _ _ _ _ us hl => match us, hl with | [_, _, _], _ => rfl)⟩
  have F28 := fun_mk (st := s_reason_holds) l28 c28_ k28
  have D28 : Dfn K mg "reason_holds" ["rows", "thing"] s_reason_holds := ⟨_, _, F28, PySem.W.mg_of X G a28, (F28.binds (ps := ["rows", "thing"]) fun _ _ _ _ _ _ us hl => match us, hl with | [_, _], _ => rfl)⟩
  have F29 := fun_mk (st := s__law_judged) l29 c29_ k29
  have D29 : Dfn K mg "_law_judged" ["_law_rows_here", "_law_thing_here"] s__law_judged := ⟨_, _, F29, PySem.W.mg_of X G a29, (F29.binds (ps := ["_law_rows_here", "_law_thing_here"]) fun _ _ _ _ _ _ us hl => match us, hl with | [_, _], _ => rfl)⟩
  have F30 := fun_mk (st := s__law_odd) l30 c30_ k30
  have D30 : Dfn K mg "_law_odd" ["_law_bag_here", "_law_thing_here"] s__law_odd := ⟨_, _, F30, PySem.W.mg_of X G a30, (F30.binds (ps := ["_law_bag_here", "_law_thing_here"]) fun _ _ _ _ _ _ us hl => match us, hl with | [_, _], _ => rfl)⟩
  have F31 := fun_mk (st := s__law_bent) l31 c31_ k31
  have D31 : Dfn K mg "_law_bent" ["_law_bag_here", "_law_thing_here"] s__law_bent := ⟨_, _, F31, PySem.W.mg_of X G a31, (F31.binds (ps := ["_law_bag_here", "_law_thing_here"]) fun _ _ _ _ _ _ us hl => match us, hl with | [_, _], _ => rfl)⟩
  have FL := fun_mk (st := s_law) l32 c32_ k32
  refine ⟨PySem.W.fnOf "law" "law" (defArgs s_law) (defBody s_law) (defScope s_law) .none kV32 dc32 pm32 an32 cd32 ct32, fun s v => .of_eq rfl, fun base _ _ => ?_⟩
  have C__law_bag := ok__law_bag (P := l.prog) (wd := w) (base := base) T D0 
  have C__law_take := ok__law_take (P := l.prog) (wd := w) (base := base) T D1 
  have C__law_names := ok__law_names (P := l.prog) (wd := w) (base := base) T D2 C__law_take
  have C__law_thing := ok__law_thing (P := l.prog) (wd := w) (base := base) T D3 C__law_take
  have C__law_hearers := ok__law_hearers (P := l.prog) (wd := w) (base := base) T D4 C__law_take
  have C__law_rows := ok__law_rows (P := l.prog) (wd := w) (base := base) T D5 C__law_take C__law_hearers C__law_thing
  have C__law_ground := ok__law_ground (P := l.prog) (wd := w) (base := base) T D6 C__law_rows C__law_take C__law_names
  have C__law_some := ok__law_some (P := l.prog) (wd := w) (base := base) T D7 C__law_take
  have C_last_heard := ok_last_heard (P := l.prog) (wd := w) (base := base) T D8 
  have C_absent_person := ok_absent_person (P := l.prog) (wd := w) (base := base) T D9 
  have C_step_thing := ok_step_thing (P := l.prog) (wd := w) (base := base) T D10 
  have C_rows_to_miss := ok_rows_to_miss (P := l.prog) (wd := w) (base := base) T D11 C_step_thing
  have C_step_for := ok_step_for (P := l.prog) (wd := w) (base := base) T D12 C_rows_to_miss C_absent_person C_last_heard
  have C_reason := ok_reason (P := l.prog) (wd := w) (base := base) T D13 C_step_thing C_step_for
  have C__law_other_step := ok__law_other_step (P := l.prog) (wd := w) (base := base) T D14 C__law_take
  have C__law_other_reason := ok__law_other_reason (P := l.prog) (wd := w) (base := base) T D15 C__law_other_step
  have C__law_is_name := ok__law_is_name (P := l.prog) (wd := w) (base := base) T D16 
  have C__law_are_names := ok__law_are_names (P := l.prog) (wd := w) (base := base) T D17 C__law_is_name
  have C__law_absent_good := ok__law_absent_good (P := l.prog) (wd := w) (base := base) T D18 
  have C__law_step_good := ok__law_step_good (P := l.prog) (wd := w) (base := base) T D19 C__law_absent_good
  have C__law_reason_good := ok__law_reason_good (P := l.prog) (wd := w) (base := base) T D20 C__law_step_good C__law_are_names C__law_is_name
  have C__law_copy := ok__law_copy (P := l.prog) (wd := w) (base := base) T D21 
  have C_is_tuple_of := ok_is_tuple_of (P := l.prog) (wd := w) (base := base) T D22 
  have C_is_name := ok_is_name (P := l.prog) (wd := w) (base := base) T D23 
  have C_are_names := ok_are_names (P := l.prog) (wd := w) (base := base) T D24 C_is_name
  have C_is_index := ok_is_index (P := l.prog) (wd := w) (base := base) T D25 
  have C_absent_hold := ok_absent_hold (P := l.prog) (wd := w) (base := base) T D26 C_is_index
  have C_step_holds := ok_step_holds (P := l.prog) (wd := w) (base := base) T D27 C_rows_to_miss C_absent_hold C_is_tuple_of C_is_index
  have C_reason_holds := ok_reason_holds (P := l.prog) (wd := w) (base := base) T D28 C_step_thing C_is_tuple_of C_step_holds C_is_name C_are_names
  have C__law_judged := ok__law_judged (P := l.prog) (wd := w) (base := base) T D29 C__law_reason_good C_reason_holds C__law_copy
  have C__law_odd := ok__law_odd (P := l.prog) (wd := w) (base := base) T D30 C__law_take
  have C__law_bent := ok__law_bent (P := l.prog) (wd := w) (base := base) T D31 C__law_take C__law_odd 8
  exact lawG_of (ok_law (P := l.prog) (wd := w) (base := base) T C__law_other_reason C_reason C__law_bent C__law_judged C__law_reason_good C__law_take C__law_some C__law_ground C__law_bag (PySem.W.mg_of X G a32) FL) hd
end LW
open PySem PySem.W PyProof.Rows
set_option maxRecDepth 100000 in
set_option maxHeartbeats 0 in
theorem PySem.Challenge.cw_allheard_k55_whole_reasons_spoilt_anywhe_holds : PySem.Challenge.rw_allheard_k55_whole_reasons_spoilt_anywhe.Holds := by
  refine LW.headQ.2 ?_
  unfold LW.headQ
  dsimp only
  k_fill
  refine DL.law_walkG (l := PySem.Challenge.rw_allheard_k55_whole_reasons_spoilt_anywhe) (k := 11) (x := "_law_script") rfl rfl ⟨rfl, by decide, by decide⟩ (fun w h Y => PySem.W.kIn_of Y) ?F
  case F =>
    intro w mg fa h KX G hmg
    refine' LW.all_mk LW.hd KX G hmg ?a0 ?l0 ?c0_ ?k0 ?a1 ?l1 ?c1_ ?k1 ?a2 ?l2 ?c2_ ?k2 ?a3 ?l3 ?c3_ ?k3 ?a4 ?l4 ?c4_ ?k4 ?a5 ?l5 ?c5_ ?k5 ?a6 ?l6 ?c6_ ?k6 ?a7 ?l7 ?c7_ ?k7 ?a8 ?l8 ?c8_ ?k8 ?a9 ?l9 ?c9_ ?k9 ?a10 ?l10 ?c10_ ?k10 ?a11 ?l11 ?c11_ ?k11 ?a12 ?l12 ?c12_ ?k12 ?a13 ?l13 ?c13_ ?k13 ?a14 ?l14 ?c14_ ?k14 ?a15 ?l15 ?c15_ ?k15 ?a16 ?l16 ?c16_ ?k16 ?a17 ?l17 ?c17_ ?k17 ?a18 ?l18 ?c18_ ?k18 ?a19 ?l19 ?c19_ ?k19 ?a20 ?l20 ?c20_ ?k20 ?a21 ?l21 ?c21_ ?k21 ?a22 ?l22 ?c22_ ?k22 ?a23 ?l23 ?c23_ ?k23 ?a24 ?l24 ?c24_ ?k24 ?a25 ?l25 ?c25_ ?k25 ?a26 ?l26 ?c26_ ?k26 ?a27 ?l27 ?c27_ ?k27 ?a28 ?l28 ?c28_ ?k28 ?a29 ?l29 ?c29_ ?k29 ?a30 ?l30 ?c30_ ?k30 ?a31 ?l31 ?c31_ ?k31 ?a32 ?l32 ?c32_ ?k32 ?z_abs ?z_all ?z_bool ?z_enumerate ?z_int ?z_isinstance ?z_len ?z_list ?z_max ?z_min ?z_range ?z_repr ?z_set ?z_sorted ?z_str ?z_tuple ?y_LATER ?y_LETTERS ?y_MOST_LETTERS
    (case a0 => k_is)
    (case l0 => k_is)
    (case c0_ => k_is)
    (case k0 => k_is)
    (case a1 => k_is)
    (case l1 => k_is)
    (case c1_ => k_is)
    (case k1 => k_is)
    (case a2 => k_is)
    (case l2 => k_is)
    (case c2_ => k_is)
    (case k2 => k_is)
    (case a3 => k_is)
    (case l3 => k_is)
    (case c3_ => k_is)
    (case k3 => k_is)
    (case a4 => k_is)
    (case l4 => k_is)
    (case c4_ => k_is)
    (case k4 => k_is)
    (case a5 => k_is)
    (case l5 => k_is)
    (case c5_ => k_is)
    (case k5 => k_is)
    (case a6 => k_is)
    (case l6 => k_is)
    (case c6_ => k_is)
    (case k6 => k_is)
    (case a7 => k_is)
    (case l7 => k_is)
    (case c7_ => k_is)
    (case k7 => k_is)
    (case a8 => k_is)
    (case l8 => k_is)
    (case c8_ => k_is)
    (case k8 => k_is)
    (case a9 => k_is)
    (case l9 => k_is)
    (case c9_ => k_is)
    (case k9 => k_is)
    (case a10 => k_is)
    (case l10 => k_is)
    (case c10_ => k_is)
    (case k10 => k_is)
    (case a11 => k_is)
    (case l11 => k_is)
    (case c11_ => k_is)
    (case k11 => k_is)
    (case a12 => k_is)
    (case l12 => k_is)
    (case c12_ => k_is)
    (case k12 => k_is)
    (case a13 => k_is)
    (case l13 => k_is)
    (case c13_ => k_is)
    (case k13 => k_is)
    (case a14 => k_is)
    (case l14 => k_is)
    (case c14_ => k_is)
    (case k14 => k_is)
    (case a15 => k_is)
    (case l15 => k_is)
    (case c15_ => k_is)
    (case k15 => k_is)
    (case a16 => k_is)
    (case l16 => k_is)
    (case c16_ => k_is)
    (case k16 => k_is)
    (case a17 => k_is)
    (case l17 => k_is)
    (case c17_ => k_is)
    (case k17 => k_is)
    (case a18 => k_is)
    (case l18 => k_is)
    (case c18_ => k_is)
    (case k18 => k_is)
    (case a19 => k_is)
    (case l19 => k_is)
    (case c19_ => k_is)
    (case k19 => k_is)
    (case a20 => k_is)
    (case l20 => k_is)
    (case c20_ => k_is)
    (case k20 => k_is)
    (case a21 => k_is)
    (case l21 => k_is)
    (case c21_ => k_is)
    (case k21 => k_is)
    (case a22 => k_is)
    (case l22 => k_is)
    (case c22_ => k_is)
    (case k22 => k_is)
    (case a23 => k_is)
    (case l23 => k_is)
    (case c23_ => k_is)
    (case k23 => k_is)
    (case a24 => k_is)
    (case l24 => k_is)
    (case c24_ => k_is)
    (case k24 => k_is)
    (case a25 => k_is)
    (case l25 => k_is)
    (case c25_ => k_is)
    (case k25 => k_is)
    (case a26 => k_is)
    (case l26 => k_is)
    (case c26_ => k_is)
    (case k26 => k_is)
    (case a27 => k_is)
    (case l27 => k_is)
    (case c27_ => k_is)
    (case k27 => k_is)
    (case a28 => k_is)
    (case l28 => k_is)
    (case c28_ => k_is)
    (case k28 => k_is)
    (case a29 => k_is)
    (case l29 => k_is)
    (case c29_ => k_is)
    (case k29 => k_is)
    (case a30 => k_is)
    (case l30 => k_is)
    (case c30_ => k_is)
    (case k30 => k_is)
    (case a31 => k_is)
    (case l31 => k_is)
    (case c31_ => k_is)
    (case k31 => k_is)
    (case a32 => k_is)
    (case l32 => k_is)
    (case c32_ => k_is)
    (case k32 => k_is)
    (case z_abs => k_is)
    (case z_all => k_is)
    (case z_bool => k_is)
    (case z_enumerate => k_is)
    (case z_int => k_is)
    (case z_isinstance => k_is)
    (case z_len => k_is)
    (case z_list => k_is)
    (case z_max => k_is)
    (case z_min => k_is)
    (case z_range => k_is)
    (case z_repr => k_is)
    (case z_set => k_is)
    (case z_sorted => k_is)
    (case z_str => k_is)
    (case z_tuple => k_is)
    (case y_LATER => k_is)
    (case y_LETTERS => k_is)
    (case y_MOST_LETTERS => k_is)
#print axioms PySem.Challenge.cw_allheard_k55_whole_reasons_spoilt_anywhe_holds

