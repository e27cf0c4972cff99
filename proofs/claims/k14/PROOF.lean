import PyProof.Rows.All
import Wide.All
import OpenK.AllK
import Wide.FinOn
import HandS.ExcCtx
import HandS.ForMost
import HandS.ForExc
import HandS.NestedK
import HandS.TryMany
import HandS.ExcInit
import HandS.ExcField
import HandS.ExcIs
import HandS.Deep
import HandS.IsInst
import HandS.TupLe
import HandS.Walk
import HandS.More
import KE.SortData
import HandS.Style
import HandS.Defaults
import HandS.Zip
import PyProof.NeKinds
import HandS.OwnEq
import PyProof.InstNe
import KE.DataCmp
import HandS.DictComp
import HandS.CallSlots
import PyProof.ReprRoads
import PyProof.ReprBulk
import HandS.EndTab
import HandS.MakeKw
import HandS.SetKeys
import HandS.ListItems
import HandS.Finally
import KE.KEqNest
import KE.KEqDict
import HandS.SetTxt0
import HandS.SetFor
import HandS.Strs
import HandS.TupAny
import HandS.HotCalls
import HandS.ExcInitHot
import HandS.ExcValue
import KE.KExcIs
import HandS.Replace
import KE.KNestM
import KE.HD2
import HandS.SetBool
import KE.KUnpackStar
import HandS.CallLocal
import HandS.Call
import KE.KItemsList
import KE.SortKeyHeap
import HandS.FStr
import KE.KCallOwn
import HandS.WideBits
import HandS.HeadHook3
import KE.DataMinMax
import HandS.TryOnly
import PyProof.EqKinds
import PyProof.NeData
import PyProof.SeqRoads2
import PyProof.MeetsIn
import PyProof.Rows.Range3
import PyProof.Rows.StrLen
import PyProof.Rows.StrCase
import HandS.TupSets
import PySem.Challenge.RW_allheard_k14_repeated_rows_go
set_option Elab.async false
set_option linter.all false
set_option autoImplicit false
set_option maxRecDepth 100000
namespace DL
open PySem PySem.W HeadRun PyProof.Rows
section
variable (r : OpenRow) (q : Program) (M : Nat) (loose : List PySem.Str)
noncomputable def endT (w : World) (os : OsState) : Option SharedT := endF (stepQ (denQ tabQ) r.prog w) M r.prog w os
noncomputable def sawT (s : SharedT) := seenQ q loose (importedModules r.prog.main.body) (fun s => xlAt q [] s && recOk r.toRowW.records s) s.abs
def Part1 {α : Type} (ob : SharedT → α) (v : World → α) : Prop := ∀ (w : World) (os : OsState), (endT r M w os).map (fun s => (looksF r.prog (boot_heap w.params) s.abs, ob s)) = some (true, v w)
def Part2 : Prop := ∀ (w : World) (os : OsState), (endT r M w os).map (fun s => ((sawT r q loose s).1, (sawT r q loose s).2.1, (sawT r q loose s).2.2.2.2.1)) = some (expectedOf q, bltViewBooted, pinGoodD (drecsOf q))
def Part3 : Prop := ∀ (w : World) (os : OsState), (endT r M w os).map (fun s => ((sawT r q loose s).2.2.1, (sawT r q loose s).2.2.2.1)) = some (true, true)
def Part4 : Prop := ∀ (w : World) (os : OsState), (endT r M w os).map (fun s => ((sawT r q loose s).2.2.2.2.2.1, (sawT r q loose s).2.2.2.2.2.2.1, (sawT r q loose s).2.2.2.2.2.2.2.1, (sawT r q loose s).2.2.2.2.2.2.2.2)) =
  some (plainGoodE q (looseW q loose), plainGoodD q loose, wideGood q, clsGoodW q loose)
def HLook {α : Type} (f : SharedT → α) (v : α) : Prop := ∀ (w : World) (os : OsState), (endT r M w os).map f = some v
noncomputable def hSaw3 (lw : List PySem.Str) (s : SharedT) : Bool :=
  Fast.tw10880121769531294198 s.abs.heap lw (R.mapR (fun x => x.name) (Fast.tw3399658132070893891 q)) (R.mapR (fun x => x.fst) (Fast.tw7409074990110511671 q)) (R.mapR (fun x => x.name) (Fast.tw13664370479719496447 q lw)) &&
    Fast.tw14722251495701143533 s.abs.heap (importedModules r.prog.main.body) && s.abs.heap.isNs mainGlobals && s.abs.heap.isNs builtinsNs && Fast.tw10994771534591457954 q s.abs.heap && (xlAt q [] s.abs && recOk r.toRowW.records s.abs) && (if true = true then s.abs.gens.size == 0 else !leftWithCleanup s.abs.gens)
noncomputable def hSaw6 (lw : List PySem.Str) (s : SharedT) : List (Option PlainShape) := Fast.tw2386780881361962483 q lw s.abs
noncomputable def lookAll (lw : List PySem.Str) (s : SharedT) := ((sawT r q loose s).2.1, (sawT r q loose s).2.2.2.2.1, (sawT r q loose s).2.2.2.2.2.2.1, (sawT r q loose s).2.2.2.2.2.2.2.2, hSaw3 r q lw s, hSaw6 q lw s)
variable {r q M loose}
theorem HLook.is {α : Type} {f : SharedT → α} {v : α} (h : HLook r M f v) {w : World} {os : OsState} {s : SharedT} (e : endT r M w os = some s) : f s = v := by
  have := h w os
  rw [e] at this
  exact Option.some.inj this
theorem HLook.get {α : Type} {f : SharedT → α} {v : α} (h : HLook r M f v) (w : World) (os : OsState) : ∃ s, endT r M w os = some s := by
  have := h w os
  cases e : endT r M w os with
  | none => rw [e] at this; cases this
  | some s => exact ⟨s, rfl⟩
noncomputable def hSaw1 (q : Program) (nm : List PySem.Str) (s : SharedT) : Seen := Fast.tw5160383126252970620 nm (Fast.tw5991557255702980513 q) [] { heap := s.abs.heap, drawn := s.abs.drawn, toks := s.abs.toks, os := s.abs.os }
theorem hSaw1_eq {nm : List PySem.Str} (h : R.mapR (fun x => x.name) (Fast.tw3399658132070893891 q) = nm) (s : SharedT) : (sawT r q loose s).1 = hSaw1 q nm s := by
  subst h; rfl
theorem hLook1 {nm : List PySem.Str} (h : R.mapR (fun x => x.name) (Fast.tw3399658132070893891 q) = nm) (k : HLook r M (hSaw1 q nm) (expectedOf q)) : HLook r M (fun s => (sawT r q loose s).1) (expectedOf q) := by
  have e : (fun s => (sawT r q loose s).1) = hSaw1 q nm := funext fun s => hSaw1_eq h s
  rw [e]
  exact k
theorem allR_map {α β : Type} (f : α → β) (p : β → Bool) : ∀ l : List α, R.allR l (fun a => p (f a)) = R.allR (R.mapR f l) p
  | [] => rfl
  | a :: l => by
    have ih := allR_map f p l
    have e1 : R.allR (a :: l) (fun a => p (f a)) = (p (f a) && R.allR l fun a => p (f a)) := by
      show @Bool.rec (fun _ => Bool) false (R.allR l fun a => p (f a)) (p (f a)) = _
      cases p (f a) <;> rfl
    have e2 : R.allR (R.mapR f (a :: l)) p = (p (f a) && R.allR (R.mapR f l) p) := by
      show @Bool.rec (fun _ => Bool) false (R.allR (R.mapR f l) p) (p (f a)) = _
      cases p (f a) <;> rfl
    rw [e1, e2, ih]
noncomputable def hSaw4 (q : Program) (nm : List PySem.Str) (s : SharedT) : Bool :=
  (R.allR nm fun n => Fast.tw5930804224584009831 s.abs.heap n) && Fast.tw5244371056499926238 s.abs.heap && Fast.tw2578726214315757710 q s.abs.heap && (!Fast.tw2458874890965802552 q || Fast.tw9649274521512697073 s.abs.heap)
theorem hLook4 {nm : List PySem.Str} (h : R.mapR (fun x => x.name) (Fast.tw3399658132070893891 q) = nm) (k : HLook r M (hSaw4 q nm) true) : HLook r M (fun s => (sawT r q loose s).2.2.2.1) true := by
  have e : (fun s => (sawT r q loose s).2.2.2.1) = hSaw4 q nm := funext fun s => by
    subst h
    show Fast.tw479339242167458305 q s.abs = _
    unfold Fast.tw479339242167458305 hSaw4
    have z := allR_map (fun x : DefRec => x.name) (fun n => Fast.tw5930804224584009831 s.abs.heap n) (Fast.tw3399658132070893891 q)
    rw [z]
  rw [e]
  exact k
theorem hSaw3_eq {lw : List PySem.Str} (h : Fast.tw821141287760084731 q loose = lw) (s : SharedT) : (sawT r q loose s).2.2.1 = hSaw3 r q lw s := by
  subst h; rfl
theorem hSaw6_eq {lw : List PySem.Str} (h : Fast.tw821141287760084731 q loose = lw) (s : SharedT) : (sawT r q loose s).2.2.2.2.2.1 = hSaw6 q lw s := by
  subst h; rfl
section
variable {lw : List PySem.Str} (hF : Fast.tw821141287760084731 q loose = lw) (hL : looseW q loose = lw)
  (h1 : HLook r M (fun s => (sawT r q loose s).1) (expectedOf q)) (h4 : HLook r M (fun s => (sawT r q loose s).2.2.2.1) true) (h7 : HLook r M (fun s => (sawT r q loose s).2.2.2.2.2.2.2.1) (wideGood q))
  (hD : HLook r M (lookAll r q loose lw) (bltViewBooted, pinGoodD (drecsOf q), plainGoodD q loose, clsGoodW q loose, true, plainGoodE q lw))
include hF hL h1 h4 h7 hD
theorem hPart2 : Part2 r q M loose := fun w os => by
  obtain ⟨s, e⟩ := h1.get w os
  have a1 := h1.is e
  have a2 := hD.is e
  simp only [lookAll, Prod.mk.injEq] at a2
  rw [e]
  exact congrArg some (Prod.ext a1 (Prod.ext a2.1 a2.2.1))
theorem hPart3 : Part3 r q M loose := fun w os => by
  obtain ⟨s, e⟩ := h1.get w os
  have a1 := h4.is e
  have a2 := hD.is e
  simp only [lookAll, Prod.mk.injEq] at a2
  rw [e]
  exact congrArg some (Prod.ext ((hSaw3_eq hF s).trans a2.2.2.2.2.1) a1)
theorem hPart4 : Part4 r q M loose := fun w os => by
  obtain ⟨s, e⟩ := h1.get w os
  have a7 := h7.is e
  have a2 := hD.is e
  simp only [lookAll, Prod.mk.injEq] at a2
  rw [e]
  have a6 : (sawT r q loose s).2.2.2.2.2.1 = plainGoodE q (looseW q loose) := by rw [hL]; exact (hSaw6_eq hF s).trans a2.2.2.2.2.2
  exact congrArg some (Prod.ext a6 (Prod.ext a2.2.2.1 (Prod.ext a7 a2.2.2.2.1)))
end
end
theorem leftT {r : OpenRow} {q : Program} {M : Nat} {loose : List PySem.Str} {H : Hook} {ob : SharedT → H.α} (ho : ∀ s : SharedT, ob s = H.obs s.abs)
    (e : opening r.prog = plainProg r.prog.main.scope.names) (f : ∀ s, fenceModules? r.prog s = some s) (p1 : Part1 r M ob H.val) (p2 : Part2 r q M loose) (p3 : Part3 r q M loose) (p4 : Part4 r q M loose) :
    LeftO r.prog q loose (fun s => xlAt q [] s && recOk r.toRowW.records s) H.obs H.val (M + 600) true :=
  HeadRun.left_one (M := M) e (Nat.ble_eq_true_of_le (by omega)) f (Nat.ble_eq_true_of_le (by omega)) fun w os => by
    rw [endQ_eq]
    have a1 := p1 w os
    have a2 := p2 w os
    have a3 := p3 w os
    have a4 := p4 w os
    unfold endT at a1 a2 a3 a4
    cases z : endF (stepQ (denQ tabQ) r.prog w) M r.prog w os with
    | none => rw [z] at a1; cases a1
    | some s =>
      rw [z] at a1 a2 a3 a4
      have b1 := Option.some.inj a1
      have b2 := Option.some.inj a2
      have b3 := Option.some.inj a3
      have b4 := Option.some.inj a4
      obtain ⟨u1, u2⟩ := Prod.mk.inj b1
      obtain ⟨v1, v2⟩ := Prod.mk.inj b2
      obtain ⟨v3, v4⟩ := Prod.mk.inj v2
      obtain ⟨x1, x2⟩ := Prod.mk.inj b3
      obtain ⟨y1, y2⟩ := Prod.mk.inj b4
      obtain ⟨y3, y4⟩ := Prod.mk.inj y2
      obtain ⟨y5, y6⟩ := Prod.mk.inj y4
      show some (looksF r.prog (boot_heap w.params) s.abs, openSeen q loose (importedModules r.prog.main.body) (fun s => xlAt q [] s && recOk r.toRowW.records s) true s.abs, H.obs s.abs) = some (true, openGood q loose, H.val w)
      rw [u1, ← ho s, u2, seenQ_eq]
      have g : sawT r q loose s = openGood q loose := Prod.ext v1 (Prod.ext v3 (Prod.ext x1 (Prod.ext x2 (Prod.ext v4 (Prod.ext y1 (Prod.ext y3 (Prod.ext y5 y6)))))))
      exact congrArg some (congrArg (Prod.mk true) (congrArg (fun t => (t, H.val w)) g))
theorem headT {r : OpenRow} {q : Program} {H : Hook} {ob : SharedT → H.α} {M : Nat} {loose : List PySem.Str} {d : DefRec} {kwd : List (PySem.Str × PySem.Expr)} (ho : ∀ s : SharedT, ob s = H.obs s.abs)
    (e : opening r.prog = plainProg r.prog.main.scope.names) (f : ∀ s, fenceModules? r.prog s = some s) (p1 : Part1 r M ob H.val) (p2 : Part2 r q M loose) (p3 : Part3 r q M loose) (p4 : Part4 r q M loose)
    (hd : defOf q r.name = some (d, kwd)) (ht : r.prog.theDef r.name = some (d.params, d.body, d.scope)) (hk : kwWritten? d.params.kwonlyargs d.params.kw_defaults = some kwd) (hw : (!r.writes || r.records.isEmpty) = true)
    (ws : r.wellSaid = true) (ok : (chainsOk q && opensWell r.prog && (frees r.toRowW && r.within.isEmpty)) = true) (hb : r.prog.bare) (pr : r.toRowW.promised)
    (go : WalkO q loose (XL q []) H.says r.toRowW d kwd fun f vs => PySem.call f vs) : r.Holds :=
  holds_open (leftT ho e f p1 p2 p3 p4) H.of H.keeps (fun s z => xl_of s (Bool.and_eq_true_iff.mp z).1) XL.keeps hd ht hk (fun s z => recFacts_of (Bool.and_eq_true_iff.mp z).2) hw ws ok hb pr go
def obT (as ts : List Addr) (s : SharedT) : List (Option Obj) × List (Option Obj) := (as.map (getT s), ts.map (getT s))
theorem obT_eq {K : Params → Frag} {as : List Addr} {e : ∀ P, as = (K P).map (·.1)} {ts : List Addr} (s : SharedT) : obT as ts s = (kmHook K as e ts).obs s.abs :=
  Prod.ext (List.map_congr_left fun a _ => getT_eq s a) (List.map_congr_left fun a _ => getT_eq s a)
def obK (as : List Addr) (s : SharedT) : List (Option Obj) := as.map (getT s)
theorem obK_eq {K : Params → Frag} {as : List Addr} {e : ∀ P, as = (K P).map (·.1)} (s : SharedT) : obK as s = (kHook K as e).obs s.abs := List.map_congr_left fun a _ => getT_eq s a
end DL
section
namespace LW
open PySem PySem.W HeadRun PyProof.Rows
abbrev viewQ : Program := view (PySem.W.OpenLaw.row PySem.Challenge.rw_allheard_k14_repeated_rows_go).prog [0,2,3,4,5,6,7,8,9,10,11,13,14,15,16,17,18,19,20,21,22,23,24,25]
def looseQ : List PySem.Str := ["Book"]
def nmA : List PySem.Str := ("_wall" : PySem.Str) :: ("thing_text" : PySem.Str) :: ("is_within" : PySem.Str) :: ("uncovered" : PySem.Str) :: ("runs_of" : PySem.Str) :: ("thinned" : PySem.Str) :: ("reduced" : PySem.Str) :: ("rows_text" : PySem.Str) :: ("_law_bag" : PySem.Str) :: ("_law_take" : PySem.Str) :: ("_law_same" : PySem.Str) :: ("_law_name" : PySem.Str) :: ("_law_names" : PySem.Str) :: ("_law_some" : PySem.Str) :: []
def nmB : List PySem.Str := ("_law_needless" : PySem.Str) :: ("_law_reduced" : PySem.Str) :: ("_law_is_behind" : PySem.Str) :: ("_law_runs" : PySem.Str) :: ("_law_book_right" : PySem.Str) :: ("_law_inside" : PySem.Str) :: ("law" : PySem.Str) :: []
theorem nmF : PySem.W.R.mapR (fun x => x.name) (PySem.W.Fast.tw3399658132070893891 viewQ) = nmA ++ nmB := by kernel_rfl
def lwQ : List PySem.Str := ["Book"]
theorem lwF : PySem.W.Fast.tw821141287760084731 viewQ looseQ = lwQ := by kernel_rfl
theorem lwL : looseW viewQ looseQ = lwQ := by kernel_rfl
theorem look1Q : DL.HLook (PySem.W.OpenLaw.row PySem.Challenge.rw_allheard_k14_repeated_rows_go) 1272 (DL.hSaw1 viewQ (nmA ++ nmB)) (expectedOf viewQ) := by
  unfold DL.HLook; intro w os; kernel_rfl
theorem look4Q : DL.HLook (PySem.W.OpenLaw.row PySem.Challenge.rw_allheard_k14_repeated_rows_go) 1272 (DL.hSaw4 viewQ (nmA ++ nmB)) true := by
  unfold DL.HLook; intro w os; kernel_rfl
theorem look7Q : DL.HLook (PySem.W.OpenLaw.row PySem.Challenge.rw_allheard_k14_repeated_rows_go) 1272 (fun s => (DL.sawT (PySem.W.OpenLaw.row PySem.Challenge.rw_allheard_k14_repeated_rows_go) viewQ looseQ s).2.2.2.2.2.2.2.1) (wideGood viewQ) := by
  unfold DL.HLook; intro w os; kernel_rfl
theorem lookDQ : DL.HLook (PySem.W.OpenLaw.row PySem.Challenge.rw_allheard_k14_repeated_rows_go) 1272 (DL.lookAll (PySem.W.OpenLaw.row PySem.Challenge.rw_allheard_k14_repeated_rows_go) viewQ looseQ lwQ) (bltViewBooted, pinGoodD (drecsOf viewQ), plainGoodD viewQ looseQ, clsGoodW viewQ looseQ, true, plainGoodE viewQ lwQ) := by
  unfold DL.HLook; intro w os; kernel_rfl
theorem part2Q : DL.Part2 (PySem.W.OpenLaw.row PySem.Challenge.rw_allheard_k14_repeated_rows_go) viewQ 1272 looseQ := DL.hPart2 lwF lwL (DL.hLook1 nmF look1Q) (DL.hLook4 nmF look4Q) look7Q lookDQ
theorem part3Q : DL.Part3 (PySem.W.OpenLaw.row PySem.Challenge.rw_allheard_k14_repeated_rows_go) viewQ 1272 looseQ := DL.hPart3 lwF lwL (DL.hLook1 nmF look1Q) (DL.hLook4 nmF look4Q) look7Q lookDQ
theorem part4Q : DL.Part4 (PySem.W.OpenLaw.row PySem.Challenge.rw_allheard_k14_repeated_rows_go) viewQ 1272 looseQ := DL.hPart4 lwF lwL (DL.hLook1 nmF look1Q) (DL.hLook4 nmF look4Q) look7Q lookDQ
end LW
open PySem PySem.W PyProof.Rows
local macro_rules
  | `(tactic| o_head ($_f $K $as $e $ts)) => `(tactic| refine DL.headT (r := (PySem.W.OpenLaw.row PySem.Challenge.rw_allheard_k14_repeated_rows_go)) (q := LW.viewQ) (H := PySem.W.kmHook $K $as $e $ts) (ob := DL.obT $as $ts) (M := 1272) (kwd := []) (d := HeadRun.topDef (PySem.W.OpenLaw.row PySem.Challenge.rw_allheard_k14_repeated_rows_go).prog 25) (loose := LW.looseQ) (fun s => DL.obT_eq s) (by kernel_rfl) (fun s => by kernel_rfl)
    (by intro w os; kernel_rfl) LW.part2Q LW.part3Q LW.part4Q (by kernel_rfl) (by kernel_rfl) (by kernel_rfl) (by kernel_rfl) (by first | assumption | decide +kernel) (by decide +kernel) ⟨rfl, rfl, rfl, rfl, rfl, by decide +kernel⟩ ?_ ?_)
  | `(tactic| o_head ($_f $K $as $e)) => `(tactic| refine DL.headT (r := (PySem.W.OpenLaw.row PySem.Challenge.rw_allheard_k14_repeated_rows_go)) (q := LW.viewQ) (H := PySem.W.kHook $K $as $e) (ob := DL.obK $as) (M := 1272) (kwd := []) (d := HeadRun.topDef (PySem.W.OpenLaw.row PySem.Challenge.rw_allheard_k14_repeated_rows_go).prog 25) (loose := LW.looseQ) (fun s => DL.obK_eq s) (by kernel_rfl) (fun s => by kernel_rfl)
    (by intro w os; kernel_rfl) LW.part2Q LW.part3Q LW.part4Q (by kernel_rfl) (by kernel_rfl) (by kernel_rfl) (by kernel_rfl) (by first | assumption | decide +kernel) (by decide +kernel) ⟨rfl, rfl, rfl, rfl, rfl, by decide +kernel⟩ ?_ ?_)
set_option maxRecDepth 100000 in
set_option maxHeartbeats 0 in
noncomputable def LW.headQ : PSigma fun T : Prop => T → PySem.Challenge.rw_allheard_k14_repeated_rows_go.Holds := by
  apply PSigma.mk
  intro h
  w_on; o_law; k_head
  · w_witness2
  exact h
end
namespace DL
open PySem L2
inductive D where
  | non | bl (b : Bool) | int (i : Int) | str (s : Str)
  | tup (ds : List D) | lst (ds : List D) | dct (kvs : List (Key × D))
  | lsk (ds : List D)
  | dlk (kvs : List (Key × D))
  | ins (c : Str) (fs : List (Str × D))
  | ref (l : Nat)
  | glb (x : Str)
  | typ (n : String)
inductive Cell where
  | lst (ds : List D) | dct (kvs : List (Key × D)) | ins (c : Str) (fs : List (Str × D)) | dead
  | tab (q nm : Str)
abbrev Store := List Cell
inductive Sl where
  | no | val (d : D) | ml (ds : List D) | fn | exv (c : Str) (fs : List (Str × D))
abbrev En := List Sl
structure Ex where
  c : Str
  fs : List (Str × D)
inductive R where
  | ok (d : D) (ρ : En) (st : Store)
  | exc (c : Ex) (ρ : En) (st : Store)
  | bad
inductive Fl where
  | nx (ρ : En) (st : Store)
  | rt (d : D) (ρ : En) (st : Store)
  | bk (ρ : En) (st : Store)
  | ct (ρ : En) (st : Store)
  | exc (c : Ex) (ρ : En) (st : Store)
  | bad
@[simp] def R.bind (r : R) (f : D → En → Store → R) : R := match r with
  | .ok d ρ st => f d ρ st
  | .exc c ρ st => .exc c ρ st
  | .bad => .bad
abbrev DEx := En → Store → R
abbrev DSx := En → Store → Fl
structure Low where
  G : Hp
  ι : List Addr
  fn : Option Addr
  ex : Option (Addr × Str × Option Addr)
def Low.no : Low := ⟨fun _ => none, [], none, none⟩
structure MG where
  f : Str → Option Value
  b : Low
instance : CoeFun MG (fun _ => Str → Option Value) := ⟨MG.f⟩
structure WB where
  x : WX
  b : Low
instance : CoeFun WB (fun _ => WX) := ⟨WB.x⟩
instance : Coe WB WX := ⟨WB.x⟩
abbrev MGx (X : Cx) (b : Low) : MG := ⟨X.mg, b⟩
section
variable (K : PySem.W.Frag) (mg : MG)
mutual
inductive Rep (G : Hp) (ι : List Addr) : V → D → Prop
  | non : Rep G ι .non .non
  | bl (b : Bool) : Rep G ι (.bl b) (.bl b)
  | int (i : Int) : Rep G ι (.int i) (.int i)
  | str (x : Str) : Rep G ι (.str x) (.str x)
  | lst {a : Addr} {vs : List V} {ds : List D} : G a = some (.lst vs) → vs.length ≤ sizeLine → Reps G ι vs ds → Rep G ι (.ref a) (.lst ds)
  | lsk {a : Addr} {vs : List V} {ds : List D} : SqL K G a vs → vs.length ≤ sizeLine → Reps G ι vs ds → Rep G ι (.ref a) (.lsk ds)
  | tup {a : Addr} {vs : List V} {ds : List D} : SqT K G a vs → vs.length ≤ sizeLine → Reps G ι vs ds → Rep G ι (.ref a) (.tup ds)
  | dct {a : Addr} {vs : List (Key × V)} {ds : List (Key × D)} : Rd G a (.dK vs) → RepK G ι vs ds → Rep G ι (.ref a) (.dct ds)
  | dlk {a : Addr} {o : Obj} {vs : List (Key × V)} {ds : List (Key × D)} : G a = some (.frz o (.dK vs)) → RepK G ι vs ds → Rep G ι (.ref a) (.dlk ds)
  | ins {a C dx : Addr} {c : Str} {vs : List (Str × V)} {ds : List (Str × D)} : mg c = some (.ref C) → G a = some (.ins C dx vs) → G dx = some (.own a) → RepF G ι vs ds → Rep G ι (.ref a) (.ins c ds)
  | ref {a : Addr} {l : Nat} : ι[l]? = some a → Rep G ι (.ref a) (.ref l)
  | glb {v : V} {x : Str} {u : Value} : mg x = some u → RelV v u → Rep G ι v (.glb x)
  | typ (n : String) : Rep G ι (.ty n) (.typ n)
inductive Reps (G : Hp) (ι : List Addr) : List V → List D → Prop
  | nil : Reps G ι [] []
  | cons {v : V} {d : D} {vs : List V} {ds : List D} : Rep G ι v d → Reps G ι vs ds → Reps G ι (v :: vs) (d :: ds)
inductive RepK (G : Hp) (ι : List Addr) : List (Key × V) → List (Key × D) → Prop
  | nil : RepK G ι [] []
  | cons {k : Key} {v : V} {d : D} {vs : List (Key × V)} {ds : List (Key × D)} : Rep G ι v d → RepK G ι vs ds → RepK G ι ((k, v) :: vs) ((k, d) :: ds)
inductive RepF (G : Hp) (ι : List Addr) : List (Str × V) → List (Str × D) → Prop
  | nil : RepF G ι [] []
  | cons {k : Str} {v : V} {d : D} {vs : List (Str × V)} {ds : List (Str × D)} : Rep G ι v d → RepF G ι vs ds → RepF G ι ((k, v) :: vs) ((k, d) :: ds)
end
end
theorem Rd.mono {G G' : Hp} {a : Addr} {u : HO} (e : Same G G') (h : Rd G a u) : Rd G' a u := by
  rcases h with h | ⟨o, h⟩
  · exact .inl (e _ _ h)
  · exact .inr ⟨o, e _ _ h⟩
theorem SqT.mono {K : PySem.W.Frag} {G G' : Hp} {a : Addr} {xs : List V} (e : Same G G') (h : SqT K G a xs) : SqT K G' a xs := by
  rcases h with h | h
  · exact .inl (Rd.mono e h)
  · exact .inr h
theorem SqL.mono {K : PySem.W.Frag} {G G' : Hp} {a : Addr} {xs : List V} (e : Same G G') (h : SqL K G a xs) : SqL K G' a xs := by
  rcases h with h | h
  · exact .inl (Rd.mono e h)
  · exact .inr h
def LeI (ι ι' : List Addr) : Prop := ∀ (l : Nat) (a : Addr), ι[l]? = some a → ι'[l]? = some a
theorem LeI.refl (ι : List Addr) : LeI ι ι := fun _ _ h => h
theorem LeI.trans {a b c : List Addr} (x : LeI a b) (y : LeI b c) : LeI a c := fun l q h => y l q (x l q h)
section
variable {K : PySem.W.Frag} {mg : MG} {G G' : Hp} {ι ι' : List Addr}
mutual
theorem Rep.mono (e : Same G G') (i : LeI ι ι') : ∀ {v : V} {d : D}, Rep K mg G ι v d → Rep K mg G' ι' v d
  | _, _, .non => .non
  | _, _, .bl b => .bl b
  | _, _, .int i => .int i
  | _, _, .str x => .str x
  | _, _, .lst h l r => .lst (e _ _ h) l (Reps.mono e i r)
  | _, _, .lsk h l r => .lsk (SqL.mono e h) l (Reps.mono e i r)
  | _, _, .tup h l r => .tup (SqT.mono e h) l (Reps.mono e i r)
  | _, _, .dct h r => .dct (Rd.mono e h) (RepK.mono e i r)
  | _, _, .dlk h r => .dlk (e _ _ h) (RepK.mono e i r)
  | _, _, .ins c h1 h2 r => .ins c (e _ _ h1) (e _ _ h2) (RepF.mono e i r)
  | _, _, .ref h => .ref (i _ _ h)
  | _, _, .glb h r => .glb h r
  | _, _, .typ n => .typ n
theorem Reps.mono (e : Same G G') (i : LeI ι ι') : ∀ {v : List V} {d : List D}, Reps K mg G ι v d → Reps K mg G' ι' v d
  | _, _, .nil => .nil
  | _, _, .cons h r => .cons (Rep.mono e i h) (Reps.mono e i r)
theorem RepK.mono (e : Same G G') (i : LeI ι ι') : ∀ {v : List (Key × V)} {d : List (Key × D)}, RepK K mg G ι v d → RepK K mg G' ι' v d
  | _, _, .nil => .nil
  | _, _, .cons h r => .cons (Rep.mono e i h) (RepK.mono e i r)
theorem RepF.mono (e : Same G G') (i : LeI ι ι') : ∀ {v : List (Str × V)} {d : List (Str × D)}, RepF K mg G ι v d → RepF K mg G' ι' v d
  | _, _, .nil => .nil
  | _, _, .cons h r => .cons (Rep.mono e i h) (RepF.mono e i r)
end
mutual
theorem Rep.reb (b b' : Low) : ∀ {f : Str → Option Value} {v : V} {d : D}, Rep K ⟨f, b⟩ G ι v d → Rep K ⟨f, b'⟩ G ι v d
  | _, _, _, .non => .non
  | _, _, _, .bl b => .bl b
  | _, _, _, .int i => .int i
  | _, _, _, .str x => .str x
  | _, _, _, .lst h l r => .lst h l (Reps.reb b b' r)
  | _, _, _, .lsk h l r => .lsk h l (Reps.reb b b' r)
  | _, _, _, .tup h l r => .tup h l (Reps.reb b b' r)
  | _, _, _, .dct h r => .dct h (RepK.reb b b' r)
  | _, _, _, .dlk h r => .dlk h (RepK.reb b b' r)
  | _, _, _, .ins c h1 h2 r => .ins c h1 h2 (RepF.reb b b' r)
  | _, _, _, .ref h => .ref h
  | _, _, _, .glb h r => .glb h r
  | _, _, _, .typ n => .typ n
theorem Reps.reb (b b' : Low) : ∀ {f : Str → Option Value} {v : List V} {d : List D}, Reps K ⟨f, b⟩ G ι v d → Reps K ⟨f, b'⟩ G ι v d
  | _, _, _, .nil => .nil
  | _, _, _, .cons h r => .cons (Rep.reb b b' h) (Reps.reb b b' r)
theorem RepK.reb (b b' : Low) : ∀ {f : Str → Option Value} {v : List (Key × V)} {d : List (Key × D)}, RepK K ⟨f, b⟩ G ι v d → RepK K ⟨f, b'⟩ G ι v d
  | _, _, _, .nil => .nil
  | _, _, _, .cons h r => .cons (Rep.reb b b' h) (RepK.reb b b' r)
theorem RepF.reb (b b' : Low) : ∀ {f : Str → Option Value} {v : List (Str × V)} {d : List (Str × D)}, RepF K ⟨f, b⟩ G ι v d → RepF K ⟨f, b'⟩ G ι v d
  | _, _, _, .nil => .nil
  | _, _, _, .cons h r => .cons (Rep.reb b b' h) (RepF.reb b b' r)
end
theorem Reps.len : ∀ {v : List V} {d : List D}, Reps K mg G ι v d → v.length = d.length
  | _, _, .nil => rfl
  | _, _, .cons _ r => by simp [Reps.len r]
theorem Reps.get : ∀ {vs : List V} {ds : List D} {i : Nat} {d : D}, Reps K mg G ι vs ds → ds[i]? = some d → ∃ v, vs[i]? = some v ∧ Rep K mg G ι v d
  | _, _, _, _, .nil, h => by simp at h
  | _, _, 0, _, .cons r _, h => by simp at h; subst h; exact ⟨_, rfl, r⟩
  | _, _, i + 1, d, .cons _ t, h => by
    obtain ⟨v, h1, h2⟩ := Reps.get (i := i) (d := d) t (by simpa using h)
    exact ⟨v, by simpa using h1, h2⟩
theorem Reps.getV : ∀ {vs : List V} {ds : List D} {i : Nat} {v : V}, Reps K mg G ι vs ds → vs[i]? = some v → ∃ d, ds[i]? = some d ∧ Rep K mg G ι v d
  | _, _, _, _, .nil, h => by simp at h
  | _, _, 0, _, .cons r _, h => by simp at h; subst h; exact ⟨_, rfl, r⟩
  | _, _, i + 1, d, .cons _ t, h => by
    obtain ⟨v, h1, h2⟩ := Reps.getV (i := i) (v := d) t (by simpa using h)
    exact ⟨v, by simpa using h1, h2⟩
theorem Reps.append : ∀ {vs ws : List V} {ds es : List D}, Reps K mg G ι vs ds → Reps K mg G ι ws es → Reps K mg G ι (vs ++ ws) (ds ++ es)
  | _, _, _, _, .nil, s => s
  | _, _, _, _, .cons r t, s => .cons r (Reps.append t s)
theorem Reps.take : ∀ {vs : List V} {ds : List D} (n : Nat), Reps K mg G ι vs ds → Reps K mg G ι (vs.take n) (ds.take n)
  | _, _, 0, _ => .nil
  | _, _, _ + 1, .nil => .nil
  | _, _, n + 1, .cons r t => .cons r (Reps.take n t)
theorem Reps.drop : ∀ {vs : List V} {ds : List D} (n : Nat), Reps K mg G ι vs ds → Reps K mg G ι (vs.drop n) (ds.drop n)
  | _, _, 0, r => r
  | _, _, _ + 1, .nil => .nil
  | _, _, n + 1, .cons _ t => Reps.drop n t
theorem Reps.set {v : V} {d : D} (r : Rep K mg G ι v d) : ∀ {vs : List V} {ds : List D} (n : Nat), Reps K mg G ι vs ds → Reps K mg G ι (vs.set n v) (ds.set n d)
  | _, _, _, .nil => .nil
  | _, _, 0, .cons _ t => .cons r t
  | _, _, n + 1, .cons q t => .cons q (Reps.set r n t)
theorem Reps.reverse : ∀ {vs : List V} {ds : List D}, Reps K mg G ι vs ds → Reps K mg G ι vs.reverse ds.reverse
  | _, _, .nil => .nil
  | _, _, .cons r t => by simpa using Reps.append (Reps.reverse t) (.cons r .nil)
theorem Reps.eraseIdx : ∀ {vs : List V} {ds : List D} (n : Nat), Reps K mg G ι vs ds → Reps K mg G ι (vs.eraseIdx n) (ds.eraseIdx n)
  | _, _, _, .nil => .nil
  | _, _, 0, .cons _ t => t
  | _, _, n + 1, .cons q t => .cons q (Reps.eraseIdx n t)
theorem Reps.mem : ∀ {vs : List V} {ds : List D} {v : V}, Reps K mg G ι vs ds → v ∈ vs → ∃ d ∈ ds, Rep K mg G ι v d
  | _, _, _, .nil, h => by simp at h
  | _, _, v, .cons r t, h => by
    rcases List.mem_cons.mp h with rfl | h
    · exact ⟨_, by simp, r⟩
    · obtain ⟨d, h1, h2⟩ := Reps.mem t h
      exact ⟨d, by simp [h1], h2⟩
end
structure Ws where
  ρ : En
  σ : L2.St
  G : Hp
  ι : List Addr
  H : Hp
  st : Store
def TabOf (K : PySem.W.Frag) (mg : Str → Option Value) (q : Str) (P : Addr) : Prop := ∀ (f c : Addr) (fd : FuncData) (oc : Value) (od : Option Addr) (osl : Array (Option Value)), mg q = some (.ref f) → K.lookup f = some ⟨oc, od, .func fd, osl⟩ → fd.code = .ref c → PySem.W.codeHdIn K c P = true
def TabG (G H : Hp) (P : Addr) (nm : Str) : Prop := ∃ ps : Array Value, H P = some (.tbl ps) ∧ TriplesOk ps.toList ∧ ∀ (pos : Pos) (cv : Value), codeAmong pos ps.toList = some cv → ∃ c, cv = .ref c ∧ G c = some (LamX.CodeO c nm)
def CellAt (K : PySem.W.Frag) (mg : MG) (w : Ws) (a : Addr) : Cell → Prop
  | .dead => True
  | .tab q nm => w.G a = none ∧ TabOf K mg q a ∧ TabG w.G w.H a nm
  | .lst ds => w.G a = none ∧ ∃ vs, w.H a = some (.lst vs) ∧ vs.length ≤ sizeLine ∧ Reps K mg w.G w.ι vs ds
  | .dct ds => w.G a = none ∧ ∃ vs, w.H a = some (.dK vs) ∧ RepK K mg w.G w.ι vs ds
  | .ins c ds => w.G a = none ∧ ∃ C dx vs, mg c = some (.ref C) ∧ w.H a = some (.ins C dx vs) ∧ w.H dx = some (.own a) ∧ w.G dx = some (.own a) ∧ RepF K mg w.G w.ι vs ds
def SlotAt (K : PySem.W.Frag) (mg : MG) (w : Ws) (x : Option (Option V)) : Sl → Prop
  | .no => True
  | .val d => ∃ v, x = some (some v) ∧ Rep K mg w.G w.ι v d
  | .ml ds => ∃ a vs, x = some (some (.ref a)) ∧ w.G a = none ∧ w.H a = some (.lst vs) ∧ vs.length ≤ sizeLine ∧ Reps K mg w.G w.ι vs ds
  | .fn => ∃ a, x = some (some (.ref a)) ∧ mg.b.fn = some a
  | .exv c fs => ∃ a od vs, x = some (some (.ref a)) ∧ mg.b.ex = some (a, c, od) ∧ (∀ d, od = some d → w.G d = some (.xd vs)) ∧ (od = none → vs = []) ∧ RepF K mg w.G w.ι vs fs
def OwnS (w : Ws) (i : Nat) (a : Addr) : Prop := ∃ ds, w.ρ[i]? = some (.ml ds) ∧ w.σ[i]? = some (some (V.ref a))
def Liv (w : Ws) (l : Nat) (a : Addr) : Prop := ∃ c, w.st[l]? = some c ∧ c ≠ .dead ∧ w.ι[l]? = some a
def Mt (w : Ws) (a : Addr) : Prop := (∃ l, Liv w l a) ∨ ∃ i, OwnS w i a
structure Sts (K : PySem.W.Frag) (mg : MG) (w : Ws) : Prop where
  lowG : Same mg.b.G w.G
  lowI : LeI mg.b.ι w.ι
  sub : Same w.G w.H
  ln : w.ρ.length = w.σ.length
  len : w.st.length = w.ι.length
  cel : ∀ (l : Nat) c a, w.st[l]? = some c → w.ι[l]? = some a → CellAt K mg w a c
  inj : ∀ l l' a, Liv w l a → Liv w l' a → l = l'
  slo : ∀ (i : Nat) s, w.ρ[i]? = some s → SlotAt K mg w w.σ[i]? s
  sep : ∀ i l a, OwnS w i a → Liv w l a → False
  dis : ∀ i j a, OwnS w i a → OwnS w j a → i = j
theorem Sts.mtG {K : PySem.W.Frag} {mg : MG} {w : Ws} (s : Sts K mg w) {a : Addr} (h : Mt w a) : w.G a = none := by
  rcases h with ⟨l, c, h1, h2, h3⟩ | ⟨i, ds, h1, h2⟩
  · have := s.cel l c a h1 h3
    cases c with
    | dead => exact absurd rfl h2
    | lst ds => exact this.1
    | dct ds => exact this.1
    | ins c ds => exact this.1
    | tab q nm => exact this.1
  · obtain ⟨b, vs, e, g, _⟩ := s.slo i _ h1
    rw [h2] at e
    cases e
    exact g
theorem Sts.mtH {K : PySem.W.Frag} {mg : MG} {w : Ws} (s : Sts K mg w) {a : Addr} (h : Mt w a) : ∃ o, w.H a = some o := by
  rcases h with ⟨l, c, h1, h2, h3⟩ | ⟨i, ds, h1, h2⟩
  · have := s.cel l c a h1 h3
    cases c with
    | dead => exact absurd rfl h2
    | lst ds => obtain ⟨_, vs, e, _⟩ := this; exact ⟨_, e⟩
    | dct ds => obtain ⟨_, vs, e, _⟩ := this; exact ⟨_, e⟩
    | ins c ds => obtain ⟨_, C, dx, vs, _, e, _⟩ := this; exact ⟨_, e⟩
    | tab q nm => obtain ⟨_, _, ps, e, _⟩ := this; exact ⟨_, e⟩
  · obtain ⟨b, vs, e, g, e2, _⟩ := s.slo i _ h1
    rw [h2] at e
    cases e
    exact ⟨_, e2⟩
structure Aft (K : PySem.W.Frag) (mg : MG) (w w' : Ws) : Prop where
  s : Sts K mg w'
  g : Same w.G w'.G
  i : LeI w.ι w'.ι
  kp : ∀ a o, w.H a = some o → ¬ Mt w a → w'.H a = some o
  nw : ∀ a, Mt w' a → Mt w a ∨ w.H a = none
  gn : ∀ a, w'.G a ≠ none → w.G a ≠ none ∨ Mt w a ∨ w.H a = none
  al : ∀ a, w'.H a = none → w.H a = none
section
variable {K : PySem.W.Frag} {mg : MG} {w w' w'' : Ws}
theorem Aft.refl (s : Sts K mg w) : Aft K mg w w := ⟨s, Same.refl _, LeI.refl _, fun _ _ h _ => h, fun _ h => .inl h, fun _ h => .inl h, fun _ h => h⟩
theorem Aft.trans (x : Aft K mg w w') (y : Aft K mg w' w'') : Aft K mg w w'' where
  s := y.s
  g := x.g.trans y.g
  i := x.i.trans y.i
  kp := fun a o h n => y.kp a o (x.kp a o h n) fun q => by
    rcases x.nw a q with q | q
    · exact n q
    · rw [h] at q; cases q
  nw := fun a h => by
    rcases y.nw a h with h | h
    · exact x.nw a h
    · by_cases n : Mt w a
      · exact .inl n
      · refine .inr ?_
        cases e : w.H a with
        | none => rfl
        | some o => rw [x.kp a o e n] at h; cases h
  gn := fun a h => by
    rcases y.gn a h with h | h | h
    · exact x.gn a h
    · rcases x.nw a h with h | h
      · exact .inr (.inl h)
      · exact .inr (.inr h)
    · by_cases n : Mt w a
      · exact .inr (.inl n)
      · refine .inr (.inr ?_)
        cases e : w.H a with
        | none => rfl
        | some o => rw [x.kp a o e n] at h; cases h
  al := fun a h => x.al a (y.al a h)
end
def ExcAt (K : PySem.W.Frag) (mg : MG) (w : Ws) (c : Ex) (cls : Value) (dx : Option Addr) : Prop :=
  (mg c.c = some cls ∨ (mg c.c = none ∧ bootBuiltins c.c = some cls)) ∧
    match c.fs with
    | [] => dx = none
    | fs => ∃ d vs, dx = some d ∧ w.G d = some (.xd vs) ∧ RepF K mg w.G w.ι vs fs
def OkR (K : PySem.W.Frag) (mg : MG) (W : WB) (w : Ws) (Q : VK) : R → Prop
  | .ok d ρ st => ∀ (w' : Ws) (v : V), w'.ρ = ρ → w'.st = st → w'.σ = w.σ → Aft K mg w w' → Rep K mg w'.G w'.ι v d → Q v w'.H
  | .exc c ρ st => ∀ (w' : Ws) (cls : Value) (dx : Option Addr), w'.ρ = ρ → w'.st = st → w'.σ = w.σ → Aft K mg w w' → ExcAt K mg w' c cls dx → W cls dx w'.σ w'.H
  | .bad => False
def Loose (w : Ws) (a : Addr) : Prop := w.G a = none ∧ ¬ Mt w a
def OkO (K : PySem.W.Frag) (mg : MG) (W : WB) (w : Ws) (Q : VK) : R → Prop
  | .ok (.lst ds) ρ st => ∀ (w' : Ws) (a : Addr) (vs : List V), w'.ρ = ρ → w'.st = st → w'.σ = w.σ → Aft K mg w w' → w.H a = none → Loose w' a → w'.H a = some (.lst vs) → vs.length ≤ sizeLine → Reps K mg w'.G w'.ι vs ds → Q (.ref a) w'.H
  | .ok _ _ _ => False
  | .exc c ρ st => ∀ (w' : Ws) (cls : Value) (dx : Option Addr), w'.ρ = ρ → w'.st = st → w'.σ = w.σ → Aft K mg w w' → ExcAt K mg w' c cls dx → W cls dx w'.σ w'.H
  | .bad => False
def OkF (K : PySem.W.Frag) (mg : MG) (W : WB) (w : Ws) (E : Ends) : Fl → Prop
  | .nx ρ st => ∀ w' : Ws, w'.ρ = ρ → w'.st = st → Aft K mg w w' → E.nx w'.σ w'.H
  | .rt d ρ st => ∀ (w' : Ws) (v : V), w'.ρ = ρ → w'.st = st → Aft K mg w w' → Rep K mg w'.G w'.ι v d → E.rt v w'.H
  | .bk ρ st => ∀ w' : Ws, w'.ρ = ρ → w'.st = st → Aft K mg w w' → E.bk w'.σ w'.H
  | .ct ρ st => ∀ w' : Ws, w'.ρ = ρ → w'.st = st → Aft K mg w w' → E.ct w'.σ w'.H
  | .exc c ρ st => ∀ (w' : Ws) (cls : Value) (dx : Option Addr), w'.ρ = ρ → w'.st = st → Aft K mg w w' → ExcAt K mg w' c cls dx → W cls dx w'.σ w'.H
  | .bad => False
section
variable {K : PySem.W.Frag} {mg : MG} {W : WB} {w w1 : Ws}
theorem OkR.aft {Q : VK} {r : R} (h : OkR K mg W w Q r) (a : Aft K mg w w1) (e : w1.σ = w.σ) : OkR K mg W w1 Q r := by
  cases r with
  | ok d ρ st => exact fun w' v h1 h2 h3 h4 h5 => h w' v h1 h2 (h3.trans e) (a.trans h4) h5
  | exc c ρ st => exact fun w' cls dx h1 h2 h3 h4 h5 => h w' cls dx h1 h2 (h3.trans e) (a.trans h4) h5
  | bad => exact h
theorem OkF.aft {E : Ends} {r : Fl} (h : OkF K mg W w E r) (a : Aft K mg w w1) : OkF K mg W w1 E r := by
  cases r with
  | nx ρ st => exact fun w' h1 h2 h4 => h w' h1 h2 (a.trans h4)
  | rt d ρ st => exact fun w' v h1 h2 h4 h5 => h w' v h1 h2 (a.trans h4) h5
  | bk ρ st => exact fun w' h1 h2 h4 => h w' h1 h2 (a.trans h4)
  | ct ρ st => exact fun w' h1 h2 h4 => h w' h1 h2 (a.trans h4)
  | exc c ρ st => exact fun w' cls dx h1 h2 h4 h5 => h w' cls dx h1 h2 (a.trans h4) h5
  | bad => exact h
end
def RefE (K : PySem.W.Frag) (mg : MG) (W : WB) (t : TE) (f : DEx) : Prop :=
  ∀ (w : Ws) (Q : VK), Sts K mg w → OkR K mg W w Q (f w.ρ w.st) → t w.σ w.H Q
def RefO (K : PySem.W.Frag) (mg : MG) (W : WB) (t : TE) (f : DEx) : Prop :=
  ∀ (w : Ws) (Q : VK), Sts K mg w → OkO K mg W w Q (f w.ρ w.st) → t w.σ w.H Q
def RefS (K : PySem.W.Frag) (mg : MG) (W : WB) (t : TS) (f : DSx) : Prop :=
  ∀ (w : Ws) (E : Ends), Sts K mg w → OkF K mg W w E (f w.ρ w.st) → t E w.σ w.H
def DE (X : Cx) (W : WB) (e : Expr) (f : DEx) : Prop := ∃ t, PE X e t ∧ RefE X.K (MGx X W.b) W t f
def IsL (f : DEx) : Prop := ∀ ρ st d ρ' st', f ρ st = .ok d ρ' st' → ∃ ds, d = .lst ds
def DO (X : Cx) (W : WB) (e : Expr) (f : DEx) : Prop := (∃ t, PE X e t ∧ RefO X.K (MGx X W.b) W t f) ∧ IsL f
def DS (X : Cx) (W : WB) (s : Stmt) (f : DSx) : Prop := ∃ t, PS X s t ∧ RefS X.K (MGx X W.b) W t f
def DSs (X : Cx) (W : WB) (s : List Stmt) (f : DSx) : Prop := ∃ t, PSs X s t ∧ RefS X.K (MGx X W.b) W t f
def OkT (K : PySem.W.Frag) (mg : MG) (W : WB) (w : Ws) (Q : Bool → Hp → Prop) : R → Prop
  | .ok (.bl b) ρ st => ∀ (w' : Ws), w'.ρ = ρ → w'.st = st → w'.σ = w.σ → Aft K mg w w' → Q b w'.H
  | .ok _ _ _ => False
  | .exc c ρ st => ∀ (w' : Ws) (cls : Value) (dx : Option Addr), w'.ρ = ρ → w'.st = st → w'.σ = w.σ → Aft K mg w w' → ExcAt K mg w' c cls dx → W cls dx w'.σ w'.H
  | .bad => False
def RefT (K : PySem.W.Frag) (mg : MG) (W : WB) (t : TT) (f : DEx) : Prop :=
  ∀ (w : Ws) (Q : Bool → Hp → Prop), Sts K mg w → OkT K mg W w Q (f w.ρ w.st) → t w.σ w.H Q
def DT (X : Cx) (W : WB) (e : Expr) (f : DEx) : Prop := ∃ t, PT X e t ∧ RefT X.K (MGx X W.b) W t f
def OkA (K : PySem.W.Frag) (mg : MG) (W : WB) (w : Ws) (Q : List V → Hp → Prop) : R → Prop
  | .ok (.tup ds) ρ st => ∀ (w' : Ws) (vs : List V), w'.ρ = ρ → w'.st = st → w'.σ = w.σ → Aft K mg w w' → Reps K mg w'.G w'.ι vs ds → Q vs w'.H
  | .ok _ _ _ => False
  | .exc c ρ st => ∀ (w' : Ws) (cls : Value) (dx : Option Addr), w'.ρ = ρ → w'.st = st → w'.σ = w.σ → Aft K mg w w' → ExcAt K mg w' c cls dx → W cls dx w'.σ w'.H
  | .bad => False
def RefA (K : PySem.W.Frag) (mg : MG) (W : WB) (t : TA) (f : DEx) : Prop :=
  ∀ (w : Ws) (Q : List V → Hp → Prop), Sts K mg w → OkA K mg W w Q (f w.ρ w.st) → t w.σ w.H Q
def DA (X : Cx) (W : WB) (es : List Expr) (f : DEx) : Prop := ∃ t, PA X es t ∧ RefA X.K (MGx X W.b) W t f
section
variable {K : PySem.W.Frag} {mg : MG} {W : WB} {w w1 : Ws}
theorem OkT.aft {Q : Bool → Hp → Prop} {r : R} (h : OkT K mg W w Q r) (a : Aft K mg w w1) (e : w1.σ = w.σ) : OkT K mg W w1 Q r := by
  cases r with
  | ok d ρ st =>
    cases d with
    | bl b => exact fun w' h1 h2 h3 h4 => h w' h1 h2 (h3.trans e) (a.trans h4)
    | _ => exact h
  | exc c ρ st => exact fun w' cls dx h1 h2 h3 h4 h5 => h w' cls dx h1 h2 (h3.trans e) (a.trans h4) h5
  | bad => exact h
theorem OkA.aft {Q : List V → Hp → Prop} {r : R} (h : OkA K mg W w Q r) (a : Aft K mg w w1) (e : w1.σ = w.σ) : OkA K mg W w1 Q r := by
  cases r with
  | ok d ρ st =>
    cases d with
    | tup ds => exact fun w' v h1 h2 h3 h4 h5 => h w' v h1 h2 (h3.trans e) (a.trans h4) h5
    | _ => exact h
  | exc c ρ st => exact fun w' cls dx h1 h2 h3 h4 h5 => h w' cls dx h1 h2 (h3.trans e) (a.trans h4) h5
  | bad => exact h
end
end DL
namespace DL
open PySem L2
section
variable {K : PySem.W.Frag} {mg : MG} {w : Ws}
theorem same_upd {H : Hp} {p : Addr} {o : HO} (h : H p = none) : Same H (upd H p o) := fun b u e => by
  rw [upd_ne (ne_of_none e h)]; exact e
theorem CellAt.keep {w w' : Ws} {a : Addr} {c : Cell} (h : CellAt K mg w a c) (g : Same w.G w'.G) (i : LeI w.ι w'.ι) (ha : c ≠ .dead → w'.G a = none ∧ ∀ o, w.H a = some o → w'.H a = some o)
    (hd : Same w'.G w'.H) : CellAt K mg w' a c := by
  cases c with
  | dead => trivial
  | lst ds => obtain ⟨_, vs, e, l, r⟩ := h; have := ha (by simp); exact ⟨this.1, vs, this.2 _ e, l, r.mono g i⟩
  | dct ds => obtain ⟨_, vs, e, r⟩ := h; have := ha (by simp); exact ⟨this.1, vs, this.2 _ e, r.mono g i⟩
  | ins c ds =>
    obtain ⟨_, C, dx, vs, m, e, o, o', r⟩ := h
    have := ha (by simp)
    exact ⟨this.1, C, dx, vs, m, this.2 _ e, hd _ _ (g _ _ o'), g _ _ o', r.mono g i⟩
  | tab q nm =>
    obtain ⟨_, t, ps, e, h1, h2⟩ := h
    have := ha (by simp)
    exact ⟨this.1, t, ps, this.2 _ e, h1, fun pos cv hc => let ⟨c, e1, e2⟩ := h2 pos cv hc; ⟨c, e1, g _ _ e2⟩⟩
theorem SlotAt.keep {w w' : Ws} {x : Option (Option V)} {s : Sl} (h : SlotAt K mg w x s) (g : Same w.G w'.G) (i : LeI w.ι w'.ι) (ha : ∀ a, (∃ ds, s = .ml ds) → x = some (some (.ref a)) → w'.G a = none ∧ ∀ o, w.H a = some o → w'.H a = some o) : SlotAt K mg w' x s := by
  cases s with
  | no => trivial
  | val d => obtain ⟨v, e, r⟩ := h; exact ⟨v, e, r.mono g i⟩
  | ml ds => obtain ⟨a, vs, e, _, e2, l, r⟩ := h; have := ha a ⟨ds, rfl⟩ e; exact ⟨a, vs, e, this.1, this.2 _ e2, l, r.mono g i⟩
  | fn => exact h
  | exv c fs => obtain ⟨a, od, vs, e, e1, e2, e3, r⟩ := h; exact ⟨a, od, vs, e, e1, fun d q => g _ _ (e2 d q), e3, r.mono g i⟩
theorem Liv.mt {l : Nat} {a : Addr} (h : Liv w l a) : Mt w a := .inl ⟨l, h⟩
theorem OwnS.mt {i : Nat} {a : Addr} (h : OwnS w i a) : Mt w a := .inr ⟨i, h⟩
theorem Sts.heap {G' H' : Hp} (s : Sts K mg w) (g : Same w.G G') (sub : Same G' H') (m : ∀ a, Mt w a → G' a = none ∧ ∀ o, w.H a = some o → H' a = some o) : Sts K mg { w with G := G', H := H' } where
  lowG := s.lowG.trans g
  lowI := s.lowI
  sub := sub
  ln := s.ln
  len := s.len
  cel := fun l c a h1 h2 => (s.cel l c a h1 h2).keep (w' := { w with G := G', H := H' }) g (LeI.refl _) (fun n => m a (.inl ⟨l, c, h1, n, h2⟩)) sub
  inj := s.inj
  slo := fun i x h => (s.slo i x h).keep (w' := { w with G := G', H := H' }) g (LeI.refl _) fun a ⟨ds, e⟩ h2 => m a (.inr ⟨i, ds, by rw [h, e], h2⟩)
  sep := s.sep
  dis := s.dis
theorem Sts.alloc (s : Sts K mg w) {p : Addr} {o : HO} (hp : w.H p = none) : Sts K mg { w with G := upd w.G p o, H := upd w.H p o } := by
  have gp : w.G p = none := s.sub.free hp
  refine s.heap (same_upd gp) (fun b u e => ?_) fun a m => ?_
  · by_cases h : b = p
    · subst h; rw [upd_same] at e ⊢; exact e
    · rw [upd_ne h] at e ⊢; exact s.sub _ _ e
  · obtain ⟨u, hu⟩ := s.mtH m
    have np : a ≠ p := ne_of_none hu hp
    rw [upd_ne np]
    exact ⟨s.mtG m, fun o e => by rw [upd_ne np]; exact e⟩
theorem Aft.alloc (s : Sts K mg w) {p : Addr} {o : HO} (hp : w.H p = none) : Aft K mg w { w with G := upd w.G p o, H := upd w.H p o } where
  s := s.alloc hp
  g := same_upd (s.sub.free hp)
  i := LeI.refl _
  kp := fun a u h _ => by show upd w.H p o a = some u; rw [upd_ne (ne_of_none h hp)]; exact h
  nw := fun a h => .inl h
  gn := fun a h => by
    by_cases e : a = p
    · subst e; exact .inr (.inr hp)
    · refine .inl ?_
      have h' : upd w.G p o a ≠ none := h
      rwa [upd_ne e] at h'
  al := fun a h => by
    by_cases e : a = p
    · rw [e]; exact hp
    · have h' : upd w.H p o a = none := h
      rwa [upd_ne e] at h'
theorem Aft.loose (s : Sts K mg w) {p : Addr} {o : HO} (hp : w.H p = none) : Aft K mg w { w with H := upd w.H p o } where
  s := s.heap (G' := w.G) (H' := upd w.H p o) (Same.refl _) (fun b u e => by rw [upd_ne (ne_of_none (s.sub _ _ e) hp)]; exact s.sub _ _ e) fun a m => ⟨s.mtG m, fun u e => by rw [upd_ne (ne_of_none e hp)]; exact e⟩
  g := Same.refl _
  i := LeI.refl _
  kp := fun a u h _ => by show upd w.H p o a = some u; rw [upd_ne (ne_of_none h hp)]; exact h
  nw := fun a h => .inl h
  gn := fun a h => .inl h
  al := fun a h => by
    by_cases e : a = p
    · rw [e]; exact hp
    · have h' : upd w.H p o a = none := h
      rwa [upd_ne e] at h'
theorem Sts.looseAt (s : Sts K mg w) {p : Addr} {o : HO} (hp : w.H p = none) : Loose { w with H := upd w.H p o } p :=
  ⟨s.sub.free hp, fun m => by
    obtain ⟨u, hu⟩ := s.mtH (w := w) (a := p) m
    rw [hp] at hu; cases hu⟩
theorem Aft.freeze {w0 : Ws} (A : Aft K mg w0 w) {a : Addr} {o : HO} (hf : w0.H a = none) (hl : Loose w a) (ha : w.H a = some o) : Aft K mg w0 { w with G := upd w.G a o } where
  s := A.s.heap (G' := upd w.G a o) (H' := w.H) (same_upd hl.1) (fun b u e => by
      by_cases h : b = a
      · subst h; rw [upd_same] at e; rw [ha]; exact e
      · rw [upd_ne h] at e; exact A.s.sub _ _ e) fun b m => ⟨by rw [upd_ne (fun e : b = a => hl.2 (e ▸ m))]; exact A.s.mtG m, fun u e => e⟩
  g := A.g.trans (same_upd hl.1)
  i := A.i
  kp := A.kp
  nw := A.nw
  gn := fun b h => by
    by_cases e : b = a
    · subst e; exact .inr (.inr hf)
    · refine A.gn b ?_
      have h' : upd w.G a o b ≠ none := h
      rwa [upd_ne e] at h'
  al := A.al
theorem getElem?_set_ite {α : Type} {l : List α} {i j : Nat} {x y : α} (h : (l.set i x)[j]? = some y) : (j = i ∧ y = x ∧ i < l.length) ∨ (j ≠ i ∧ l[j]? = some y) := by
  by_cases e : i = j
  · subst e
    by_cases q : i < l.length
    · rw [List.getElem?_set_self q] at h; exact .inl ⟨rfl, (Option.some.inj h).symm, q⟩
    · rw [List.getElem?_eq_none (by simp; omega)] at h; cases h
  · rw [List.getElem?_set_ne e] at h; exact .inr ⟨fun q => e q.symm, h⟩
theorem OwnS.of_set {i j : Nat} {s : Sl} {x : Option V} {a : Addr} (hs : ∀ ds, s ≠ .ml ds) (h : OwnS { w with ρ := w.ρ.set i s, σ := w.σ.set i x } j a) : OwnS w j a := by
  obtain ⟨ds, h1, h2⟩ := h
  rcases getElem?_set_ite h1 with ⟨_, e, _⟩ | ⟨ne, e⟩
  · exact absurd e.symm (hs ds)
  · rcases getElem?_set_ite h2 with ⟨e', _⟩ | ⟨_, e2⟩
    · exact absurd e' ne
    · exact ⟨ds, e, e2⟩
theorem Aft.setVal (s : Sts K mg w) {i : Nat} {v : V} {d : D} (r : Rep K mg w.G w.ι v d) : Aft K mg w { w with ρ := w.ρ.set i (.val d), σ := w.σ.set i (some v) } := by
  have ow : ∀ j a, OwnS { w with ρ := w.ρ.set i (.val d), σ := w.σ.set i (some v) } j a → OwnS w j a := fun j a h => h.of_set (fun ds e => by cases e)
  refine ⟨⟨s.lowG, s.lowI, s.sub, by simpa using s.ln, s.len, s.cel, s.inj, fun j x h => ?_, fun j l a h1 h2 => s.sep j l a (ow j a h1) h2, fun j k a h1 h2 => s.dis j k a (ow j a h1) (ow k a h2)⟩, Same.refl _, LeI.refl _, fun _ _ h _ => h, fun a h => .inl ?_, fun _ h => .inl h, fun _ h => h⟩
  · rcases getElem?_set_ite h with ⟨e, e2, hl⟩ | ⟨ne, e⟩
    · subst e; subst e2
      exact ⟨v, List.getElem?_set_self (by rw [← s.ln]; exact hl), r⟩
    · have := s.slo j x e
      show SlotAt K mg { w with ρ := w.ρ.set i (.val d), σ := w.σ.set i (some v) } (w.σ.set i (some v))[j]? x
      rw [List.getElem?_set_ne (Ne.symm ne)]
      exact this
  · rcases h with h | ⟨j, h⟩
    · exact .inl h
    · exact .inr ⟨j, ow j a h⟩
theorem Aft.setNo (s : Sts K mg w) {i : Nat} {x : Option V} : Aft K mg w { w with ρ := w.ρ.set i .no, σ := w.σ.set i x } := by
  have ow : ∀ j a, OwnS { w with ρ := w.ρ.set i .no, σ := w.σ.set i x } j a → OwnS w j a := fun j a h => h.of_set (fun ds e => by cases e)
  refine ⟨⟨s.lowG, s.lowI, s.sub, by simpa using s.ln, s.len, s.cel, s.inj, fun j x' h => ?_, fun j l a h1 h2 => s.sep j l a (ow j a h1) h2, fun j k a h1 h2 => s.dis j k a (ow j a h1) (ow k a h2)⟩, Same.refl _, LeI.refl _, fun _ _ h _ => h, fun a h => .inl ?_, fun _ h => .inl h, fun _ h => h⟩
  · rcases getElem?_set_ite h with ⟨e, e2, hl⟩ | ⟨ne, e⟩
    · subst e; subst e2; trivial
    · have := s.slo j x' e
      show SlotAt K mg { w with ρ := w.ρ.set i .no, σ := w.σ.set i x } (w.σ.set i x)[j]? x'
      rw [List.getElem?_set_ne (Ne.symm ne)]
      exact this
  · rcases h with h | ⟨j, h⟩
    · exact .inl h
    · exact .inr ⟨j, ow j a h⟩
theorem Aft.setMl {w0 : Ws} (A : Aft K mg w0 w) {i : Nat} {a : Addr} {vs : List V} {ds : List D} (hf : w0.H a = none) (hl : Loose w a) (ha : w.H a = some (.lst vs)) (hz : vs.length ≤ sizeLine) (r : Reps K mg w.G w.ι vs ds) :
    Aft K mg w0 { w with ρ := w.ρ.set i (.ml ds), σ := w.σ.set i (some (.ref a)) } := by
  have s := A.s
  have ow : ∀ j b, OwnS { w with ρ := w.ρ.set i (.ml ds), σ := w.σ.set i (some (.ref a)) } j b → (j = i ∧ b = a) ∨ (j ≠ i ∧ OwnS w j b) := fun j b h => by
    obtain ⟨es, h1, h2⟩ := h
    rcases getElem?_set_ite h1 with ⟨e, _, _⟩ | ⟨ne, e⟩
    · rcases getElem?_set_ite h2 with ⟨_, e2, _⟩ | ⟨ne, _⟩
      · cases e2; exact .inl ⟨e, rfl⟩
      · exact absurd e ne
    · rcases getElem?_set_ite h2 with ⟨e', _⟩ | ⟨_, e2⟩
      · exact absurd e' ne
      · exact .inr ⟨ne, es, e, e2⟩
  refine ⟨⟨s.lowG, s.lowI, s.sub, by simpa using s.ln, s.len, s.cel, s.inj, fun j x h => ?_, fun j l b h1 h2 => ?_, fun j k b h1 h2 => ?_⟩, A.g, A.i, A.kp, fun b h => ?_, A.gn, A.al⟩
  · rcases getElem?_set_ite h with ⟨e, e2, hl'⟩ | ⟨ne, e⟩
    · subst e; subst e2
      exact ⟨a, vs, List.getElem?_set_self (by rw [← s.ln]; exact hl'), hl.1, ha, hz, r⟩
    · have := s.slo j x e
      show SlotAt K mg { w with ρ := w.ρ.set i (.ml ds), σ := w.σ.set i (some (.ref a)) } (w.σ.set i (some (.ref a)))[j]? x
      rw [List.getElem?_set_ne (Ne.symm ne)]
      exact this
  · rcases ow j b h1 with ⟨_, e⟩ | ⟨_, h1⟩
    · subst e; exact hl.2 (.inl ⟨l, h2⟩)
    · exact s.sep j l b h1 h2
  · rcases ow j b h1 with ⟨e1, e⟩ | ⟨_, q1⟩ <;> rcases ow k b h2 with ⟨e2, e'⟩ | ⟨_, q2⟩
    · rw [e1, e2]
    · subst e; exact (hl.2 (.inr ⟨k, q2⟩)).elim
    · subst e'; exact (hl.2 (.inr ⟨j, q1⟩)).elim
    · exact s.dis j k b q1 q2
  · rcases h with h | ⟨j, h⟩
    · exact A.nw b (.inl h)
    · rcases ow j b h with ⟨_, e⟩ | ⟨_, h⟩
      · subst e; exact .inr hf
      · exact A.nw b (.inr ⟨j, h⟩)
theorem Aft.mutMl (s : Sts K mg w) {i : Nat} {a : Addr} {ds0 ds : List D} {vs : List V} (h0 : w.ρ[i]? = some (.ml ds0)) (h1 : w.σ[i]? = some (some (.ref a))) (hz : vs.length ≤ sizeLine) (r : Reps K mg w.G w.ι vs ds) :
    Aft K mg w { w with ρ := w.ρ.set i (.ml ds), H := upd w.H a (.lst vs) } := by
  have own : OwnS w i a := ⟨ds0, h0, h1⟩
  have ga : w.G a = none := s.mtG own.mt
  have hi : i < w.ρ.length := by
    rcases List.getElem?_eq_some_iff.mp h0 with ⟨h, _⟩; exact h
  have ow : ∀ j b, OwnS { w with ρ := w.ρ.set i (.ml ds), H := upd w.H a (.lst vs) } j b → OwnS w j b := fun j b h => by
    obtain ⟨es, h1', h2⟩ := h
    rcases getElem?_set_ite h1' with ⟨e, _, _⟩ | ⟨ne, e⟩
    · exact ⟨ds0, by rw [e]; exact h0, h2⟩
    · exact ⟨es, e, h2⟩
  have lv : ∀ l b, Liv w l b → b ≠ a := fun l b h e => s.sep i l a own (e ▸ h)
  refine ⟨⟨s.lowG, s.lowI, fun b u e => ?_, by simpa using s.ln, s.len, fun l c b h1 h2 => ?_, s.inj, fun j x h => ?_, fun j l b h1 h2 => s.sep j l b (ow j b h1) h2, fun j k b h1 h2 => s.dis j k b (ow j b h1) (ow k b h2)⟩, Same.refl _, LeI.refl _, fun b u h n => ?_, fun b h => .inl ?_, fun _ h => .inl h, fun b h => ?_⟩
  · show upd w.H a (.lst vs) b = some u
    have e' : w.G b = some u := e
    rw [upd_ne (fun q => by rw [q, ga] at e'; cases e')]
    exact s.sub _ _ e'
  · exact (s.cel l c b h1 h2).keep (w' := { w with ρ := w.ρ.set i (.ml ds), H := upd w.H a (.lst vs) }) (Same.refl _) (LeI.refl _) (fun n => ⟨s.mtG (.inl ⟨l, c, h1, n, h2⟩), fun o e => by
      show upd w.H a (.lst vs) b = some o
      rw [upd_ne (lv l b ⟨c, h1, n, h2⟩)]; exact e⟩) (fun b u e => by
      show upd w.H a (.lst vs) b = some u
      have e' : w.G b = some u := e
      rw [upd_ne (fun q => by rw [q, ga] at e'; cases e')]
      exact s.sub _ _ e')
  · rcases getElem?_set_ite h with ⟨e, e2, hl'⟩ | ⟨ne, e⟩
    · subst e; subst e2
      exact ⟨a, vs, h1, ga, upd_same, hz, r⟩
    · refine (s.slo j x e).keep (w' := { w with ρ := w.ρ.set i (.ml ds), H := upd w.H a (.lst vs) }) (Same.refl _) (LeI.refl _) fun b ⟨es, e3⟩ h2 => ?_
      have o2 : OwnS w j b := ⟨es, by rw [e, e3], h2⟩
      refine ⟨s.mtG o2.mt, fun o e4 => ?_⟩
      show upd w.H a (.lst vs) b = some o
      rw [upd_ne (fun q : b = a => ne (s.dis j i b o2 (q ▸ own)))]
      exact e4
  · show upd w.H a (.lst vs) b = some u
    rw [upd_ne (fun q : b = a => n (q ▸ own.mt))]
    exact h
  · rcases h with h | ⟨j, h⟩
    · exact .inl h
    · exact .inr ⟨j, ow j b h⟩
  · have h' : upd w.H a (.lst vs) b = none := h
    by_cases e : b = a
    · rw [e, upd_same] at h'; cases h'
    · rwa [upd_ne e] at h'
theorem getElem?_append_one {α : Type} {l : List α} {x y : α} {i : Nat} (h : (l ++ [x])[i]? = some y) : l[i]? = some y ∨ (i = l.length ∧ y = x) := by
  by_cases q : i < l.length
  · rw [List.getElem?_append_left q] at h; exact .inl h
  · rw [List.getElem?_append_right (by omega)] at h
    by_cases e : i = l.length
    · subst e; simp at h; exact .inr ⟨rfl, h.symm⟩
    · rw [List.getElem?_eq_none (by simp; omega)] at h; cases h
theorem leI_append (ι : List Addr) (a : Addr) : LeI ι (ι ++ [a]) := fun l b h => by
  rw [List.getElem?_append_left (List.getElem?_eq_some_iff.mp h).1]; exact h
theorem Aft.newCell {w0 : Ws} (A : Aft K mg w0 w) {a : Addr} {vs : List V} {ds : List D} (hf : w0.H a = none) (hl : Loose w a) (ha : w.H a = some (.lst vs)) (hz : vs.length ≤ sizeLine) (r : Reps K mg w.G w.ι vs ds) :
    Aft K mg w0 { w with ι := w.ι ++ [a], st := w.st ++ [.lst ds] } := by
  have s := A.s
  have le := leI_append w.ι a
  have lv : ∀ l b, Liv { w with ι := w.ι ++ [a], st := w.st ++ [.lst ds] } l b → (l = w.st.length ∧ b = a) ∨ Liv w l b := fun l b h => by
    obtain ⟨c, h1, h2, h3⟩ := h
    rcases getElem?_append_one h1 with h1 | ⟨h1, _⟩
    · rcases getElem?_append_one h3 with h3 | ⟨h3, _⟩
      · exact .inr ⟨c, h1, h2, h3⟩
      · have := (List.getElem?_eq_some_iff.mp h1).1
        rw [s.len] at this; omega
    · rcases getElem?_append_one h3 with h3 | ⟨_, h3⟩
      · have := (List.getElem?_eq_some_iff.mp h3).1
        rw [← s.len] at this; omega
      · exact .inl ⟨h1, h3⟩
  refine ⟨⟨s.lowG, s.lowI.trans le, s.sub, s.ln, by simp [s.len], fun l c b h1 h2 => ?_, fun l l' b h1 h2 => ?_, fun i x h => ?_, fun i l b h1 h2 => ?_, s.dis⟩, A.g, A.i.trans le, A.kp, fun b h => ?_, A.gn, A.al⟩
  · rcases getElem?_append_one h1 with h1 | ⟨h1, e⟩
    · rcases getElem?_append_one h2 with h2 | ⟨h2, _⟩
      · exact (s.cel l c b h1 h2).keep (w' := { w with ι := w.ι ++ [a], st := w.st ++ [.lst ds] }) (Same.refl _) le (fun n => ⟨s.mtG (.inl ⟨l, c, h1, n, h2⟩), fun _ e => e⟩) s.sub
      · have := (List.getElem?_eq_some_iff.mp h1).1
        rw [s.len] at this; omega
    · rcases getElem?_append_one h2 with h2 | ⟨_, h2⟩
      · have := (List.getElem?_eq_some_iff.mp h2).1
        rw [← s.len] at this; omega
      · subst e; subst h2
        exact ⟨hl.1, vs, ha, hz, r.mono (Same.refl _) le⟩
  · rcases lv l b h1 with ⟨e1, e⟩ | q1 <;> rcases lv l' b h2 with ⟨e2, e'⟩ | q2
    · rw [e1, e2]
    · subst e; exact (hl.2 (.inl ⟨l', q2⟩)).elim
    · subst e'; exact (hl.2 (.inl ⟨l, q1⟩)).elim
    · exact s.inj l l' b q1 q2
  · exact (s.slo i x h).keep (w' := { w with ι := w.ι ++ [a], st := w.st ++ [.lst ds] }) (Same.refl _) le fun b ⟨es, e⟩ h2 => ⟨s.mtG (.inr ⟨i, es, by rw [h, e], h2⟩), fun _ e => e⟩
  · rcases lv l b h2 with ⟨_, e⟩ | q2
    · subst e; exact hl.2 (.inr ⟨i, h1⟩)
    · exact s.sep i l b h1 q2
  · rcases h with ⟨l, h⟩ | h
    · rcases lv l b h with ⟨_, e⟩ | q
      · subst e; exact .inr hf
      · exact A.nw b (.inl ⟨l, q⟩)
    · exact A.nw b (.inr h)
theorem Aft.mutCell (s : Sts K mg w) {l : Nat} {a : Addr} {c0 c : Cell} {o : HO} (h0 : w.st[l]? = some c0) (hd : c0 ≠ .dead) (h1 : w.ι[l]? = some a) (hc : c ≠ .dead)
    (r : CellAt K mg { w with H := upd w.H a o, st := w.st.set l c } a c) : Aft K mg w { w with H := upd w.H a o, st := w.st.set l c } := by
  have own : Liv w l a := ⟨c0, h0, hd, h1⟩
  have ga : w.G a = none := s.mtG own.mt
  have sub' : Same w.G (upd w.H a o) := fun b u e => by
    rw [upd_ne (fun q => by rw [q, ga] at e; cases e)]
    exact s.sub _ _ e
  have lv : ∀ k b, Liv { w with H := upd w.H a o, st := w.st.set l c } k b → Liv w k b := fun k b h => by
    obtain ⟨c', q1, q2, q3⟩ := h
    rcases getElem?_set_ite q1 with ⟨e, _, _⟩ | ⟨_, e⟩
    · subst e; exact ⟨c0, h0, hd, q3⟩
    · exact ⟨c', e, q2, q3⟩
  refine ⟨⟨s.lowG, s.lowI, sub', s.ln, by simpa using s.len, fun k c' b q1 q2 => ?_, fun k k' b q1 q2 => s.inj k k' b (lv k b q1) (lv k' b q2), fun i x h => ?_, fun i k b q1 q2 => s.sep i k b q1 (lv k b q2), s.dis⟩, Same.refl _, LeI.refl _, fun b u h n => ?_, fun b h => .inl ?_, fun _ h => .inl h, fun b h => ?_⟩
  · rcases getElem?_set_ite q1 with ⟨e, e2, _⟩ | ⟨ne, e⟩
    · subst e; subst e2
      have : b = a := Option.some.inj (q2.symm.trans h1)
      subst this; exact r
    · refine (s.cel k c' b e q2).keep (w' := { w with H := upd w.H a o, st := w.st.set l c }) (Same.refl _) (LeI.refl _) (fun n => ⟨s.mtG (.inl ⟨k, c', e, n, q2⟩), fun u e4 => ?_⟩) sub'
      show upd w.H a o b = some u
      rw [upd_ne (fun q : b = a => ne (s.inj k l b ⟨c', e, n, q2⟩ (q ▸ own)))]
      exact e4
  · refine (s.slo i x h).keep (w' := { w with H := upd w.H a o, st := w.st.set l c }) (Same.refl _) (LeI.refl _) fun b ⟨es, e3⟩ h2 => ?_
    have o2 : OwnS w i b := ⟨es, by rw [h, e3], h2⟩
    refine ⟨s.mtG o2.mt, fun u e4 => ?_⟩
    show upd w.H a o b = some u
    rw [upd_ne (fun q : b = a => s.sep i l b o2 (q ▸ own))]
    exact e4
  · show upd w.H a o b = some u
    rw [upd_ne (fun q : b = a => n (q ▸ own.mt))]
    exact h
  · rcases h with ⟨k, h⟩ | h
    · exact .inl ⟨k, lv k b h⟩
    · exact .inr h
  · have h' : upd w.H a o b = none := h
    by_cases e : b = a
    · rw [e, upd_same] at h'; cases h'
    · rwa [upd_ne e] at h'
def Ws.strip (w : Ws) : Ws := { w with ρ := [], σ := [] }
theorem mt_strip {a : Addr} (h : Mt w.strip a) : ∃ l, Liv w l a := by
  rcases h with ⟨l, h⟩ | ⟨i, ds, h, _⟩
  · exact ⟨l, h⟩
  · simp [Ws.strip] at h
theorem Sts.strip (s : Sts K mg w) : Sts K mg w.strip where
  lowG := s.lowG
  lowI := s.lowI
  sub := s.sub
  ln := rfl
  len := s.len
  cel := s.cel
  inj := s.inj
  slo := fun i x h => by simp [Ws.strip] at h
  sep := fun i l a h _ => by obtain ⟨ds, h, _⟩ := h; simp [Ws.strip] at h
  dis := fun i j a h _ => by obtain ⟨ds, h, _⟩ := h; simp [Ws.strip] at h
theorem Aft.back {w' : Ws} (s : Sts K mg w) (A : Aft K mg w.strip w') : Aft K mg w { w' with ρ := w.ρ, σ := w.σ } := by
  have nm : ∀ i a, OwnS w i a → ¬ Mt w.strip a := fun i a h m => by
    obtain ⟨l, hl⟩ := mt_strip m
    exact s.sep i l a h hl
  have nm' : ∀ i a, OwnS w i a → ¬ Mt w' a := fun i a h m => by
    rcases A.nw a m with m | m
    · exact nm i a h m
    · obtain ⟨o, ho⟩ := s.mtH h.mt
      have m' : w.H a = none := m
      rw [m'] at ho; cases ho
  have ng : ∀ i a, OwnS w i a → w'.G a = none := fun i a h => by
    cases e : w'.G a with
    | none => rfl
    | some u =>
      rcases A.gn a (by rw [e]; simp) with q | q | q
      · exact absurd (s.mtG h.mt) q
      · exact absurd q (nm i a h)
      · obtain ⟨o, ho⟩ := s.mtH h.mt
        have m' : w.H a = none := q
        rw [m'] at ho; cases ho
  refine ⟨⟨A.s.lowG, A.s.lowI, A.s.sub, s.ln, A.s.len, A.s.cel, A.s.inj, fun i x h => ?_, fun i l a h1 h2 => nm' i a h1 (.inl ⟨l, h2⟩), s.dis⟩, A.g, A.i, fun a o h n => A.kp a o h fun m => n ?_, fun a h => ?_, fun a h => ?_, A.al⟩
  · exact (s.slo i x h).keep (w' := { w' with ρ := w.ρ, σ := w.σ }) A.g A.i fun a ⟨ds, e⟩ h2 => by
      have o2 : OwnS w i a := ⟨ds, by rw [h, e], h2⟩
      exact ⟨ng i a o2, fun o ho => A.kp a o ho (nm i a o2)⟩
  · obtain ⟨l, hl⟩ := mt_strip m; exact .inl ⟨l, hl⟩
  · rcases h with ⟨l, h⟩ | h
    · rcases A.nw a (.inl ⟨l, h⟩) with q | q
      · obtain ⟨l, hl⟩ := mt_strip q; exact .inl (.inl ⟨l, hl⟩)
      · exact .inr q
    · exact .inl (.inr h)
  · rcases A.gn a h with q | q | q
    · exact .inl q
    · obtain ⟨l, hl⟩ := mt_strip q; exact .inr (.inl (.inl ⟨l, hl⟩))
    · exact .inr (.inr q)
theorem Aft.out {w' : Ws} (s : Sts K mg w.strip) {ρ : En} {σ : L2.St} (hρ : ∀ (i : Nat) ds, ρ[i]? ≠ some (Sl.ml ds)) (A : Aft K mg { w with ρ := ρ, σ := σ } w') : Aft K mg w.strip w'.strip := by
  have m0 : ∀ a, Mt { w with ρ := ρ, σ := σ } a → Mt w.strip a := fun a h => by
    rcases h with h | ⟨i, ds, h, _⟩
    · exact .inl h
    · exact absurd h (hρ i ds)
  refine ⟨A.s.strip, A.g, A.i, fun a o h n => A.kp a o h fun m => n (m0 a m), fun a h => ?_, fun a h => ?_, A.al⟩
  · obtain ⟨l, hl⟩ := mt_strip h
    rcases A.nw a (.inl ⟨l, hl⟩) with q | q
    · exact .inl (m0 a q)
    · exact .inr q
  · rcases A.gn a h with q | q | q
    · exact .inl q
    · exact .inr (.inl (m0 a q))
    · exact .inr (.inr q)
end
section
variable {K : PySem.W.Frag} {f : Str → Option Value} {b b' : Low} {w : Ws}
theorem CellAt.reb (b b' : Low) {a : Addr} {c : Cell} (h : CellAt K ⟨f, b⟩ w a c) : CellAt K ⟨f, b'⟩ w a c := by
  cases c with
  | dead => trivial
  | lst ds => obtain ⟨h1, vs, e, l, r⟩ := h; exact ⟨h1, vs, e, l, r.reb b b'⟩
  | dct ds => obtain ⟨h1, vs, e, r⟩ := h; exact ⟨h1, vs, e, r.reb b b'⟩
  | ins c ds => obtain ⟨h1, C, dx, vs, m, e, o, o', r⟩ := h; exact ⟨h1, C, dx, vs, m, e, o, o', r.reb b b'⟩
  | tab q nm => exact h
theorem Sts.reb (s : Sts K ⟨f, b⟩ w) (hρ : w.ρ = []) (hG : Same b'.G w.G) (hI : LeI b'.ι w.ι) : Sts K ⟨f, b'⟩ w where
  lowG := hG
  lowI := hI
  sub := s.sub
  ln := s.ln
  len := s.len
  cel := fun l c a h1 h2 => (s.cel l c a h1 h2).reb b b'
  inj := s.inj
  slo := fun i x h => by rw [hρ] at h; simp at h
  sep := s.sep
  dis := s.dis
theorem Aft.reb {w' : Ws} (s : Sts K ⟨f, b'⟩ w) (A : Aft K ⟨f, b⟩ w w') (hρ : w'.ρ = []) : Aft K ⟨f, b'⟩ w w' :=
  ⟨A.s.reb hρ (s.lowG.trans A.g) (s.lowI.trans A.i), A.g, A.i, A.kp, A.nw, A.gn, A.al⟩
theorem Sts.noB (s : Sts K ⟨f, b⟩ w) (hρ : w.ρ = []) : Sts K ⟨f, Low.no⟩ w := s.reb hρ (fun _ _ z => by cases z) (fun _ _ z => by cases z)
end
end DL
namespace DL
open PySem L2
section
variable {K : PySem.W.Frag} {mg : MG} {W : WB} {G : Hp} {ι : List Addr}
theorem Rep.int_inv {v : V} {i : Int} (h : Rep K mg G ι v (.int i)) : v = .int i := by cases h; rfl
theorem Rep.str_inv {v : V} {i : Str} (h : Rep K mg G ι v (.str i)) : v = .str i := by cases h; rfl
theorem Rep.bl_inv {v : V} {i : Bool} (h : Rep K mg G ι v (.bl i)) : v = .bl i := by cases h; rfl
theorem Rep.non_inv {v : V} (h : Rep K mg G ι v .non) : v = .non := by cases h; rfl
end
def RepV (K : PySem.W.Frag) (mg : MG) (w : Ws) (v : V) (d : D) : Prop :=
  Rep K mg w.G w.ι v d ∨ (∃ a vs ds, v = .ref a ∧ d = .lst ds ∧ w.H a = some (.lst vs) ∧ vs.length ≤ sizeLine ∧ Reps K mg w.G w.ι vs ds) ∨
    ∃ a vs ds, v = .ref a ∧ d = .dct ds ∧ w.H a = some (.dK vs) ∧ RepK K mg w.G w.ι vs ds
def OkV (K : PySem.W.Frag) (mg : MG) (W : WB) (w : Ws) (Q : VK) : R → Prop
  | .ok d ρ st => ∀ (w' : Ws) (v : V), w'.ρ = ρ → w'.st = st → w'.σ = w.σ → Aft K mg w w' → RepV K mg w' v d → Q v w'.H
  | .exc c ρ st => ∀ (w' : Ws) (cls : Value) (dx : Option Addr), w'.ρ = ρ → w'.st = st → w'.σ = w.σ → Aft K mg w w' → ExcAt K mg w' c cls dx → W cls dx w'.σ w'.H
  | .bad => False
def RefV (K : PySem.W.Frag) (mg : MG) (W : WB) (t : TE) (f : DEx) : Prop :=
  ∀ (w : Ws) (Q : VK), Sts K mg w → OkV K mg W w Q (f w.ρ w.st) → t w.σ w.H Q
def DV (X : Cx) (W : WB) (e : Expr) (f : DEx) : Prop := ∃ t, PE X e t ∧ RefV X.K (MGx X W.b) W t f
abbrev DPx := En → Store → Option D
@[simp] def pureE (p : DPx) (ρ : En) (st : Store) : R := match p ρ st with
  | some d => .ok d ρ st
  | none => .bad
def RefP (K : PySem.W.Frag) (mg : MG) (t : TE) (p : DPx) : Prop :=
  ∀ (w : Ws) (Q : VK) (d : D), Sts K mg w → p w.ρ w.st = some d → (∀ v, Rep K mg w.G w.ι v d → Q v w.H) → t w.σ w.H Q
def RefPv (K : PySem.W.Frag) (mg : MG) (t : TE) (p : DPx) : Prop :=
  ∀ (w : Ws) (Q : VK) (d : D), Sts K mg w → p w.ρ w.st = some d → (∀ v, RepV K mg w v d → Q v w.H) → t w.σ w.H Q
def DP (X : Cx) (e : Expr) (p : DPx) : Prop := ∃ t, PE X e t ∧ ∀ b, RefP X.K (MGx X b) t p
def DPv (X : Cx) (e : Expr) (p : DPx) : Prop := ∃ t, PE X e t ∧ ∀ b, RefPv X.K (MGx X b) t p
section
variable {K : PySem.W.Frag} {mg : MG} {W : WB} {X : Cx} {ee : Expr} {f : DEx} {p : DPx}
theorem RefE.v {t : TE} (h : RefE K mg W t f) : RefV K mg W t f := fun w Q s q => h w Q s (by
  cases r : f w.ρ w.st with
  | ok d ρ st => rw [r] at q; exact fun w' v h1 h2 h3 h4 h5 => q w' v h1 h2 h3 h4 (.inl h5)
  | exc c ρ st => rw [r] at q; exact q
  | bad => rw [r] at q; exact q)
theorem DE.v (h : DE X W ee f) : DV X W ee f := let ⟨t, p, r⟩ := h; ⟨t, p, r.v⟩
theorem DP.e (h : DP X ee p) : DE X W ee (pureE p) := by
  obtain ⟨t, pt, r⟩ := h
  refine ⟨t, pt, fun w Q s q => ?_⟩
  unfold pureE at q
  split at q
  · rename_i d hd
    exact r _ w Q d s hd fun v rv => q w v rfl rfl rfl (Aft.refl s) rv
  · exact q.elim
theorem DPv.v (h : DPv X ee p) : DV X W ee (pureE p) := by
  obtain ⟨t, pt, r⟩ := h
  refine ⟨t, pt, fun w Q s q => ?_⟩
  unfold pureE at q
  split at q
  · rename_i d hd
    exact r _ w Q d s hd fun v rv => q w v rfl rfl rfl (Aft.refl s) rv
  · exact q.elim
theorem DP.pv (h : DP X ee p) : DPv X ee p := let ⟨t, pt, r⟩ := h; ⟨t, pt, fun b w Q d s hd k => r b w Q d s hd fun v rv => k v (.inl rv)⟩
theorem RepV.h {w : Ws} {v : V} {d : D} (s : Sts K mg w) (h : RepV K mg w v d) : Rep K mg w.H w.ι v d := by
  rcases h with h | ⟨a, vs, ds, rfl, rfl, h1, h2, h3⟩ | ⟨a, vs, ds, rfl, rfl, h1, h3⟩
  · exact h.mono s.sub (LeI.refl _)
  · exact .lst h1 h2 (h3.mono s.sub (LeI.refl _))
  · exact .dct (.inl h1) (h3.mono s.sub (LeI.refl _))
theorem RepV.int_inv {w : Ws} {v : V} {i : Int} (h : RepV K mg w v (.int i)) : v = .int i := by
  rcases h with h | ⟨a, vs, ds, _, e, _⟩ | ⟨a, vs, ds, _, e, _⟩
  · cases h; rfl
  · cases e
  · cases e
theorem RepV.str_inv {w : Ws} {v : V} {i : Str} (h : RepV K mg w v (.str i)) : v = .str i := by
  rcases h with h | ⟨a, vs, ds, _, e, _⟩ | ⟨a, vs, ds, _, e, _⟩
  · cases h; rfl
  · cases e
  · cases e
theorem RepV.bl_inv {w : Ws} {v : V} {i : Bool} (h : RepV K mg w v (.bl i)) : v = .bl i := by
  rcases h with h | ⟨a, vs, ds, _, e, _⟩ | ⟨a, vs, ds, _, e, _⟩
  · cases h; rfl
  · cases e
  · cases e
theorem RepV.lst_inv {w : Ws} {v : V} {ds : List D} (s : Sts K mg w) (h : RepV K mg w v (.lst ds)) : ∃ a vs, v = .ref a ∧ w.H a = some (.lst vs) ∧ vs.length ≤ sizeLine ∧ Reps K mg w.G w.ι vs ds := by
  rcases h with h | ⟨a, vs, ds, rfl, e, h1, h2, h3⟩ | ⟨a, vs, ds, _, e, _⟩
  · cases h with
    | lst h l r => exact ⟨_, _, rfl, s.sub _ _ h, l, r⟩
  · cases e; exact ⟨a, vs, rfl, h1, h2, h3⟩
  · cases e
theorem RepV.lsk_inv {w : Ws} {v : V} {ds : List D} (s : Sts K mg w) (h : RepV K mg w v (.lsk ds)) : ∃ a vs, v = .ref a ∧ SqL K w.H a vs ∧ vs.length ≤ sizeLine ∧ Reps K mg w.G w.ι vs ds := by
  rcases h with h | ⟨a, vs, ds, rfl, e, h1, h2, h3⟩ | ⟨a, vs, ds, _, e, _⟩
  · cases h with
    | lsk h l r => exact ⟨_, _, rfl, SqL.mono s.sub h, l, r⟩
  · cases e
  · cases e
theorem RepV.tup_inv {w : Ws} {v : V} {ds : List D} (s : Sts K mg w) (h : RepV K mg w v (.tup ds)) : ∃ a vs, v = .ref a ∧ SqT K w.H a vs ∧ vs.length ≤ sizeLine ∧ Reps K mg w.G w.ι vs ds := by
  rcases h with h | ⟨a, vs, ds, rfl, e, h1, h2, h3⟩ | ⟨a, vs, ds, _, e, _⟩
  · cases h with
    | tup h l r => exact ⟨_, _, rfl, SqT.mono s.sub h, l, r⟩
  · cases e
  · cases e
end
section
variable {K : PySem.W.Frag} {mg : MG} {W : WB} {G : Hp} {ι : List Addr}
theorem RefE.bind {t : TE} {f : DEx} (h : RefE K mg W t f) {w : Ws} {Q1 : VK} {r : D → En → Store → R} (s : Sts K mg w) {P : R → Prop}
    (hP : P ((f w.ρ w.st).bind r))
    (hx : ∀ c ρ st, P (.exc c ρ st) → ∀ (w' : Ws) (cls : Value) (dx : Option Addr), w'.ρ = ρ → w'.st = st → w'.σ = w.σ → Aft K mg w w' → ExcAt K mg w' c cls dx → W cls dx w'.σ w'.H)
    (hb : P .bad → False)
    (k : ∀ (w1 : Ws) (v : V) (d : D), w1.σ = w.σ → Aft K mg w w1 → Rep K mg w1.G w1.ι v d → P (r d w1.ρ w1.st) → Q1 v w1.H) : t w.σ w.H Q1 := by
  refine h w Q1 s ?_
  cases e : f w.ρ w.st with
  | ok d ρ st =>
    rw [e] at hP
    intro w' v h1 h2 h3 h4 h5
    subst h1; subst h2
    exact k w' v d h3 h4 h5 hP
  | exc c ρ st =>
    rw [e] at hP
    exact hx c ρ st hP
  | bad => rw [e] at hP; exact (hb hP).elim
theorem RefE.bindR {t : TE} {f : DEx} (h : RefE K mg W t f) {w : Ws} {Q Q1 : VK} {r : D → En → Store → R} (s : Sts K mg w) (hP : OkR K mg W w Q ((f w.ρ w.st).bind r))
    (k : ∀ (w1 : Ws) (v : V) (d : D), Sts K mg w1 → w1.σ = w.σ → Aft K mg w w1 → Rep K mg w1.G w1.ι v d → OkR K mg W w1 Q (r d w1.ρ w1.st) → Q1 v w1.H) : t w.σ w.H Q1 :=
  h.bind (P := OkR K mg W w Q) s hP (fun _ _ _ q => q) (fun q => q) fun w1 v d e a rp q => k w1 v d a.s e a rp (q.aft a e)
theorem OkV.aft {Q : VK} {w w1 : Ws} {r : R} (h : OkV K mg W w Q r) (a : Aft K mg w w1) (e : w1.σ = w.σ) : OkV K mg W w1 Q r := by
  cases r with
  | ok d ρ st => exact fun w' v h1 h2 h3 h4 h5 => h w' v h1 h2 (h3.trans e) (a.trans h4) h5
  | exc c ρ st => exact fun w' cls dx h1 h2 h3 h4 h5 => h w' cls dx h1 h2 (h3.trans e) (a.trans h4) h5
  | bad => exact h
theorem RefV.bind {t : TE} {f : DEx} (h : RefV K mg W t f) {w : Ws} {Q1 : VK} {r : D → En → Store → R} (s : Sts K mg w) {P : R → Prop}
    (hP : P ((f w.ρ w.st).bind r))
    (hx : ∀ c ρ st, P (.exc c ρ st) → ∀ (w' : Ws) (cls : Value) (dx : Option Addr), w'.ρ = ρ → w'.st = st → w'.σ = w.σ → Aft K mg w w' → ExcAt K mg w' c cls dx → W cls dx w'.σ w'.H)
    (hb : P .bad → False)
    (k : ∀ (w1 : Ws) (v : V) (d : D), w1.σ = w.σ → Aft K mg w w1 → RepV K mg w1 v d → P (r d w1.ρ w1.st) → Q1 v w1.H) : t w.σ w.H Q1 := by
  refine h w Q1 s ?_
  cases e : f w.ρ w.st with
  | ok d ρ st =>
    rw [e] at hP
    intro w' v h1 h2 h3 h4 h5
    subst h1; subst h2
    exact k w' v d h3 h4 h5 hP
  | exc c ρ st =>
    rw [e] at hP
    exact hx c ρ st hP
  | bad => rw [e] at hP; exact (hb hP).elim
theorem RefV.bindR {t : TE} {f : DEx} (h : RefV K mg W t f) {w : Ws} {Q Q1 : VK} {r : D → En → Store → R} (s : Sts K mg w) (hP : OkR K mg W w Q ((f w.ρ w.st).bind r))
    (k : ∀ (w1 : Ws) (v : V) (d : D), Sts K mg w1 → w1.σ = w.σ → Aft K mg w w1 → RepV K mg w1 v d → OkR K mg W w1 Q (r d w1.ρ w1.st) → Q1 v w1.H) : t w.σ w.H Q1 :=
  h.bind (P := OkR K mg W w Q) s hP (fun _ _ _ q => q) (fun q => q) fun w1 v d e a rp q => k w1 v d a.s e a rp (q.aft a e)
def seen (st : Store) : Sl → Option D
  | .no => none
  | .ml ds => some (.lst ds)
  | .val (.ref l) => match st[l]? with
    | some (.lst ds) => some (.lst ds)
    | some (.dct ds) => some (.dct ds)
    | _ => none
  | .val d => some d
  | .fn => none
  | .exv _ _ => none
section
variable (st : Store)
@[simp] theorem seen_no : seen st .no = none := rfl
@[simp] theorem seen_ml (ds : List D) : seen st (.ml ds) = some (.lst ds) := rfl
@[simp] theorem seen_non : seen st (.val .non) = some .non := rfl
@[simp] theorem seen_bl (b : Bool) : seen st (.val (.bl b)) = some (.bl b) := rfl
@[simp] theorem seen_int (b : Int) : seen st (.val (.int b)) = some (.int b) := rfl
@[simp] theorem seen_str (b : Str) : seen st (.val (.str b)) = some (.str b) := rfl
@[simp] theorem seen_tup (b : List D) : seen st (.val (.tup b)) = some (.tup b) := rfl
@[simp] theorem seen_lst (b : List D) : seen st (.val (.lst b)) = some (.lst b) := rfl
@[simp] theorem seen_lsk (b : List D) : seen st (.val (.lsk b)) = some (.lsk b) := rfl
@[simp] theorem seen_dlk (b : List (Key × D)) : seen st (.val (.dlk b)) = some (.dlk b) := rfl
@[simp] theorem seen_dct (b : List (Key × D)) : seen st (.val (.dct b)) = some (.dct b) := rfl
@[simp] theorem seen_ins (c : Str) (b : List (Str × D)) : seen st (.val (.ins c b)) = some (.ins c b) := rfl
@[simp] theorem seen_ref (l : Nat) : seen st (.val (.ref l)) = match st[l]? with
    | some (.lst ds) => some (.lst ds)
    | some (.dct ds) => some (.dct ds)
    | _ => none := rfl
end
@[simp] def pvr (i : Nat) (ρ : En) (st : Store) : Option D := match ρ[i]? with
  | some (.val d) => some d
  | _ => none
@[simp] def pvw (i : Nat) (ρ : En) (st : Store) : Option D := match ρ[i]? with
  | some s => seen st s
  | _ => none
@[simp] def pcst (d : D) (ρ : En) (st : Store) : Option D := some d
theorem refP_var (i : Nat) : RefP K mg (tVar i) (pvr i) := fun w Q d s h k => by
  unfold pvr at h
  split at h
  · rename_i d' e
    cases h
    obtain ⟨v, e2, r⟩ := s.slo i _ e
    exact ⟨v, e2, k v r⟩
  · cases h
theorem refPv_var (i : Nat) : RefPv K mg (tVar i) (pvw i) := fun w Q d s h k => by
  unfold pvw at h
  split at h
  · rename_i sl e
    have sl' := s.slo i _ e
    unfold seen at h
    split at h
    · cases h
    · cases h
      obtain ⟨a, vs, e1, e2, e3, e4, e5⟩ := sl'
      exact ⟨_, e1, k _ (.inr (.inl ⟨a, vs, _, rfl, rfl, e3, e4, e5⟩))⟩
    · rename_i l
      obtain ⟨v, e2, r⟩ := sl'
      cases r with
      | ref hl =>
        rename_i a
        split at h
        · rename_i ds hs
          cases h
          obtain ⟨_, vs, e3, e4, e5⟩ := s.cel l _ a hs hl
          exact ⟨_, e2, k _ (.inr (.inl ⟨a, vs, _, rfl, rfl, e3, e4, e5⟩))⟩
        · rename_i ds hs
          cases h
          obtain ⟨_, vs, e3, e5⟩ := s.cel l _ a hs hl
          exact ⟨_, e2, k _ (.inr (.inr ⟨a, vs, _, rfl, rfl, e3, e5⟩))⟩
        · cases h
    · cases h
      obtain ⟨v, e2, r⟩ := sl'
      exact ⟨v, e2, k v (.inl r)⟩
    · cases h
    · cases h
  · cases h
theorem refP_cst {v : V} {d : D} (r : ∀ G ι, Rep K mg G ι v d) : RefP K mg (tC v) (pcst d) := fun w Q e s h k => by
  cases h; exact k v (r _ _)
@[simp] def vr (i : Nat) (ρ : En) (st : Store) : R := match ρ[i]? with
  | some (.val d) => .ok d ρ st
  | _ => .bad
@[simp] def cst (d : D) (ρ : En) (st : Store) : R := .ok d ρ st
theorem ref_var (i : Nat) : RefE K mg W (tVar i) (vr i) := fun w Q s h => by
  unfold vr at h
  split at h
  · rename_i d e
    obtain ⟨v, e2, r⟩ := s.slo i _ e
    exact ⟨v, e2, h w v rfl rfl rfl (Aft.refl s) r⟩
  · exact h.elim
theorem ref_cst {v : V} {d : D} (r : ∀ G ι, Rep K mg G ι v d) : RefE K mg W (tC v) (cst d) := fun w Q s h =>
  h w v rfl rfl rfl (Aft.refl s) (r _ _)
end
section
variable {X : Cx} {W : WB} {a b c : Expr} {f g : DEx} {pos : Pos}
theorem de_vr (i : Nat) {x : Str} (hN : X.N[i]? = some x := by rfl) (hv : Vis X.env.scope x := by first | exact Or.inl rfl | exact Or.inr (Or.inl rfl) | exact Or.inr (Or.inr rfl)) (hd : (x == ("__debug__" : Str)) = false := by decide)
    (hcd : (x == ("__classdict__" : Str)) = false := by decide) : DE X W (.Name x pos) (vr i) := ⟨_, pv i hN hv hd hcd, ref_var i⟩
theorem dp_vr (i : Nat) {x : Str} (hN : X.N[i]? = some x := by rfl) (hv : Vis X.env.scope x := by first | exact Or.inl rfl | exact Or.inr (Or.inl rfl) | exact Or.inr (Or.inr rfl)) (hd : (x == ("__debug__" : Str)) = false := by decide)
    (hcd : (x == ("__classdict__" : Str)) = false := by decide) : DP X (.Name x pos) (pvr i) := ⟨_, pv i hN hv hd hcd, fun _ => refP_var i⟩
theorem dp_vw (i : Nat) {x : Str} (hN : X.N[i]? = some x := by rfl) (hv : Vis X.env.scope x := by first | exact Or.inl rfl | exact Or.inr (Or.inl rfl) | exact Or.inr (Or.inr rfl)) (hd : (x == ("__debug__" : Str)) = false := by decide)
    (hcd : (x == ("__classdict__" : Str)) = false := by decide) : DPv X (.Name x pos) (pvw i) := ⟨_, pv i hN hv hd hcd, fun _ => refPv_var i⟩
theorem dp_int {i : Int} {j : Nat} : DP X (.Constant (.int i) j pos) (pcst (.int i)) := ⟨_, pe_int, fun _ => refP_cst fun _ _ => .int i⟩
theorem de_int {i : Int} {j : Nat} : DE X W (.Constant (.int i) j pos) (cst (.int i)) := ⟨_, pe_int, ref_cst fun _ _ => .int i⟩
theorem de_bl {i : Bool} {j : Nat} : DE X W (.Constant (.bool i) j pos) (cst (.bl i)) := ⟨_, pe_bl, ref_cst fun _ _ => .bl i⟩
theorem de_non {j : Nat} : DE X W (.Constant .none j pos) (cst .non) := ⟨_, pe_non, ref_cst fun _ _ => .non⟩
theorem de_str {i : Str} {j : Nat} : DE X W (.Constant (.str i) j pos) (cst (.str i)) := ⟨_, pe_str, ref_cst fun _ _ => .str i⟩
end
@[simp] def lift2 (p : D → D → Option D) (f g : DEx) (ρ : En) (st : Store) : R := (f ρ st).bind fun d ρ st => (g ρ st).bind fun e ρ st => match p d e with
  | some z => .ok z ρ st
  | none => .bad
@[simp] def lift1 (p : D → Option D) (f : DEx) (ρ : En) (st : Store) : R := (f ρ st).bind fun d ρ st => match p d with
  | some z => .ok z ρ st
  | none => .bad
def Ans2 (K : PySem.W.Frag) (mg : MG) (r : R2) (p : D → D → Option D) : Prop :=
  ∀ (w : Ws) (x y : V) (d e z : D) (Q : VK), Sts K mg w → RepV K mg w x d → RepV K mg w y e → p d e = some z → (∀ v, (∀ G ι, Rep K mg G ι v z) → Q v w.H) → r x y w.H Q
def Ans1 (K : PySem.W.Frag) (mg : MG) (r : V → Hp → VK → Prop) (p : D → Option D) : Prop :=
  ∀ (w : Ws) (x : V) (d z : D) (Q : VK), Sts K mg w → RepV K mg w x d → p d = some z → (∀ v, (∀ G ι, Rep K mg G ι v z) → Q v w.H) → r x w.H Q
section
variable {K : PySem.W.Frag} {mg : MG} {W : WB}
theorem ref_op {r : R2} {p : D → D → Option D} {ta tb : TE} {f g : DEx} (hr : Ans2 K mg r p) (ha : RefE K mg W ta f) (hb : RefV K mg W tb g) : RefE K mg W (tOp r ta tb) (lift2 p f g) := fun w Q s h => by
  refine ha.bindR (Q := Q) s h fun w1 x d s1 e1 a1 r1 h1 => ?_
  show tb w.σ w1.H _
  rw [← e1]
  refine hb.bindR (Q := Q) s1 h1 fun w2 y e s2 e2 a2 r2 h2 => ?_
  cases q : p d e with
  | none => simp only [q] at h2; exact h2.elim
  | some z =>
    simp only [q] at h2
    exact hr w2 x y d e z Q s2 (.inl (r1.mono a2.g a2.i)) r2 q fun v rv => h2 w2 v rfl rfl rfl (Aft.refl s2) (rv _ _)
theorem ref_un {r : V → Hp → VK → Prop} {p : D → Option D} {ta : TE} {f : DEx} (hr : Ans1 K mg r p) (ha : RefV K mg W ta f) : RefE K mg W (tUn r ta) (lift1 p f) := fun w Q s h => by
  refine ha.bindR (Q := Q) s h fun w1 x d s1 e1 a1 r1 h1 => ?_
  cases q : p d with
  | none => simp only [q] at h1; exact h1.elim
  | some z =>
    simp only [q] at h1
    exact hr w1 x d z Q s1 r1 q fun v rv => h1 w1 v rfl rfl rfl (Aft.refl s1) (rv _ _)
theorem Ans2.or {r r' : R2} {p : D → D → Option D} (h : ∀ d e z, p d e = some z → ∃ (q : D → D → Option D), q d e = some z ∧ (Ans2 K mg r q ∨ Ans2 K mg r' q)) : Ans2 K mg (fun x y H Q => r x y H Q ∨ r' x y H Q) p := fun w x y d e z Q s rx ry q k => by
  obtain ⟨q', h1, h2⟩ := h d e z q
  rcases h2 with h2 | h2
  · exact .inl (h2 w x y d e z Q s rx ry h1 k)
  · exact .inr (h2 w x y d e z Q s rx ry h1 k)
end
theorem opR_or {X : Cx} {f : Value → Value → Sem Value} {r r' : R2} (h : OpR X f r) (h' : OpR X f r') : OpR X f (fun x y H Q => r x y H Q ∨ r' x y H Q) := fun pins s σ H x y v u Q I rx ry q => by
  rcases q with q | q
  · exact h pins s σ H x y v u Q I rx ry q
  · exact h' pins s σ H x y v u Q I rx ry q
@[simp] def iop (C : Int → Int → Prop) [∀ i j, Decidable (C i j)] (h : Int → Int → Int) : D → D → Option D
  | .int i, .int j => if C i j then some (.int (h i j)) else none
  | _, _ => none
@[simp] def iop0 (h : Int → Int → Int) : D → D → Option D
  | .int i, .int j => some (.int (h i j))
  | _, _ => none
section
variable {K : PySem.W.Frag} {mg : MG}
theorem iop_inv {C : Int → Int → Prop} [∀ i j, Decidable (C i j)] {h : Int → Int → Int} {d e z : D} (q : iop C h d e = some z) : ∃ i j, d = .int i ∧ e = .int j ∧ C i j ∧ z = .int (h i j) := by
  unfold iop at q
  split at q
  · split at q
    · cases q; exact ⟨_, _, rfl, rfl, by assumption, rfl⟩
    · cases q
  · cases q
theorem iop0_inv {h : Int → Int → Int} {d e z : D} (q : iop0 h d e = some z) : ∃ i j, d = .int i ∧ e = .int j ∧ z = .int (h i j) := by
  unfold iop0 at q
  split at q
  · cases q; exact ⟨_, _, rfl, rfl, rfl⟩
  · cases q
theorem ans_iop {C : Int → Int → Prop} [∀ i j, Decidable (C i j)] {h : Int → Int → Int} : Ans2 K mg (rI C fun i j => .int (h i j)) (iop C h) := fun w x y d e z Q s rx ry q k => by
  obtain ⟨i, j, rfl, rfl, hc, rfl⟩ := iop_inv q
  exact ⟨i, j, rx.int_inv, ry.int_inv, hc, k _ (fun _ _ => .int _)⟩
theorem ans_iop0 {h : Int → Int → Int} : Ans2 K mg (rI0 fun i j => .int (h i j)) (iop0 h) := fun w x y d e z Q s rx ry q k => by
  obtain ⟨i, j, rfl, rfl, rfl⟩ := iop0_inv q
  exact ⟨i, j, rx.int_inv, ry.int_inv, k _ (fun _ _ => .int _)⟩
end
instance (i j : Int) : Decidable (CMul i j) := by unfold CMul; infer_instance
instance (i j : Int) : Decidable (CDiv i j) := by unfold CDiv; infer_instance
instance (i j : Int) : Decidable (CPow i j) := by unfold CPow; infer_instance
@[simp] def pNeg : D → Option D
  | .int i => some (.int (-i))
  | _ => none
@[simp] def pSub := iop0 (· - ·)
@[simp] def pDiv := iop CDiv (· / ·)
@[simp] def pMod := iop (fun _ j => 0 < j) (· % ·)
def sAdd : D → D → Option D
  | .str x, .str y => if x.length + y.length ≤ sizeLine then some (.str (x ++ y)) else none
  | _, _ => none
section
variable {X : Cx} {W : WB} {a b c : Expr} {f g : DEx} {pos : Pos}
theorem ans_sadd {K : PySem.W.Frag} {mg : MG} : Ans2 K mg (fun x y H Q => ∃ i j, x = .str i ∧ y = .str j ∧ i.length + j.length ≤ sizeLine ∧ Q (.str (i ++ j)) H) sAdd := fun w x y d e z Q s rx ry q k => by
  unfold sAdd at q
  split at q
  · split at q
    · cases q; exact ⟨_, _, rx.str_inv, ry.str_inv, by assumption, k _ (fun _ _ => .str _)⟩
    · cases q
  · cases q
theorem de_bin {op : Operator} {r : R2} {p : D → D → Option D} (ho : OpR X (binaryOp op) r) (hr : Ans2 X.K (MGx X W.b) r p) (ha : DE X W a f) (hb : DV X W b g) : DE X W (.BinOp a op b pos) (lift2 p f g) := by
  obtain ⟨ta, pa, ra⟩ := ha
  obtain ⟨tb, pb, rb⟩ := hb
  exact ⟨_, pe_op ho pa pb, ref_op hr ra rb⟩
theorem de_sub (ha : DE X W a f) (hb : DE X W b g) : DE X W (.BinOp a .Sub b pos) (lift2 pSub f g) := de_bin op_sub ans_iop0 ha hb.v
theorem de_div (ha : DE X W a f) (hb : DE X W b g) : DE X W (.BinOp a .FloorDiv b pos) (lift2 pDiv f g) := de_bin op_fdiv ans_iop ha hb.v
theorem de_mod (ha : DE X W a f) (hb : DE X W b g) : DE X W (.BinOp a .Mod b pos) (lift2 pMod f g) := de_bin op_mod ans_iop ha hb.v
theorem de_neg (ha : DE X W a f) : DE X W (.UnaryOp .USub a pos) (lift1 pNeg f) := by
  obtain ⟨ta, pa, ra⟩ := ha
  refine ⟨_, pe_un un_neg pa, ref_un (fun w x d z Q s rx q k => ?_) ra.v⟩
  unfold pNeg at q
  split at q
  · cases q; exact ⟨_, rx.int_inv, k _ (fun _ _ => .int _)⟩
  · cases q
theorem de_cmp {op : CmpOp} {r : R2} {p : D → D → Option D} (ho : OpR X (compareOp op) r) (hr : Ans2 X.K (MGx X W.b) r p) (hm : behindInMarks op b = false) (ha : DE X W a f) (hb : DV X W b g) : DE X W (.Compare a [op] [b] pos) (lift2 p f g) := by
  obtain ⟨ta, pa, ra⟩ := ha
  obtain ⟨tb, pb, rb⟩ := hb
  exact ⟨_, pe_cmpR ho pa pb hm, ref_op hr ra rb⟩
end
@[simp] def plift2 (p : D → D → Option D) (f g : DPx) (ρ : En) (st : Store) : Option D := match f ρ st, g ρ st with
  | some d, some e => p d e
  | _, _ => none
@[simp] def plift1 (p : D → Option D) (f : DPx) (ρ : En) (st : Store) : Option D := match f ρ st with
  | some d => p d
  | _ => none
section
variable {K : PySem.W.Frag} {mg : MG}
theorem refP_op {r : R2} {p : D → D → Option D} {ta tb : TE} {f g : DPx} (hr : Ans2 K mg r p) (ha : RefPv K mg ta f) (hb : RefPv K mg tb g) : RefP K mg (tOp r ta tb) (plift2 p f g) := fun w Q z s h k => by
  unfold plift2 at h
  split at h
  · rename_i d e h1 h2
    exact ha w _ d s h1 fun x rx => hb w _ e s h2 fun y ry => hr w x y d e z Q s rx ry h fun v rv => k v (rv _ _)
  · cases h
theorem refP_un {r : V → Hp → VK → Prop} {p : D → Option D} {ta : TE} {f : DPx} (hr : Ans1 K mg r p) (ha : RefPv K mg ta f) : RefP K mg (tUn r ta) (plift1 p f) := fun w Q z s h k => by
  unfold plift1 at h
  split at h
  · rename_i d h1
    exact ha w _ d s h1 fun x rx => hr w x d z Q s rx h fun v rv => k v (rv _ _)
  · cases h
end
section
variable {X : Cx} {a b c : Expr} {f g : DPx} {pos : Pos}
theorem dp_bin {op : Operator} {r : R2} {p : D → D → Option D} (ho : OpR X (binaryOp op) r) (hr : ∀ {bb : Low}, Ans2 X.K (MGx X bb) r p) (ha : DPv X a f) (hb : DPv X b g) : DP X (.BinOp a op b pos) (plift2 p f g) := by
  obtain ⟨ta, pa, ra⟩ := ha
  obtain ⟨tb, pb, rb⟩ := hb
  exact ⟨_, pe_op ho pa pb, fun bb => refP_op hr (ra bb) (rb bb)⟩
theorem dp_sub (ha : DP X a f) (hb : DP X b g) : DP X (.BinOp a .Sub b pos) (plift2 pSub f g) := dp_bin op_sub ans_iop0 ha.pv hb.pv
theorem dp_add (ha : DP X a f) (hb : DP X b g) : DP X (.BinOp a .Add b pos) (plift2 (iop0 (· + ·)) f g) := dp_bin op_add ans_iop0 ha.pv hb.pv
theorem dp_neg (ha : DP X a f) : DP X (.UnaryOp .USub a pos) (plift1 pNeg f) := by
  obtain ⟨ta, pa, ra⟩ := ha.pv
  refine ⟨_, pe_un un_neg pa, fun bb => refP_un (fun w x d z Q s rx q k => ?_) (ra bb)⟩
  unfold pNeg at q
  split at q
  · cases q; exact ⟨_, rx.int_inv, k _ (fun _ _ => .int _)⟩
  · cases q
end
end DL
namespace DL
open PySem L2
mutual
def D.py : D → Option PyData
  | .non => some .none
  | .bl b => some (.bool b)
  | .int i => some (.int i)
  | .str s => some (.str s)
  | .tup ds => (pyAll ds).map .tuple
  | .lst ds => (pyAll ds).map .list
  | _ => none
def pyAll : List D → Option (List PyData)
  | [] => some []
  | d :: ds => match d.py, pyAll ds with
    | some p, some ps => some (p :: ps)
    | _, _ => none
end
section
variable {K : PySem.W.Frag} {mg : MG} {G : Hp} {ι : List Addr}
mutual
theorem Rep.dp : ∀ {v : V} {d : D} {p : PyData}, Rep K mg G ι v d → d.py = some p → Dp K G v p
  | _, _, _, .non, h => by cases h; exact .non
  | _, _, _, .bl b, h => by cases h; exact .bl b
  | _, _, _, .int i, h => by cases h; exact .int i
  | _, _, _, .str x, h => by cases h; exact .str x
  | _, .lst ds, _, .lst hs _ r, h => by
    simp only [D.py, Option.map_eq_some_iff] at h
    obtain ⟨ps, e, rfl⟩ := h
    exact .lst (.inl (.inl hs)) (Reps.dp r e)
  | _, .tup ds, _, .tup hs _ r, h => by
    simp only [D.py, Option.map_eq_some_iff] at h
    obtain ⟨ps, e, rfl⟩ := h
    exact .tup hs (Reps.dp r e)
  | _, _, _, .lsk _ _ _, h => by simp [D.py] at h
  | _, _, _, .dct _ _, h => by simp [D.py] at h
  | _, _, _, .dlk _ _, h => by simp [D.py] at h
  | _, _, _, .ins _ _ _ _, h => by simp [D.py] at h
  | _, _, _, .ref _, h => by simp [D.py] at h
  | _, _, _, .glb _ _, h => by simp [D.py] at h
  | _, _, _, .typ _, h => by simp [D.py] at h
theorem Reps.dp : ∀ {v : List V} {d : List D} {p : List PyData}, Reps K mg G ι v d → pyAll d = some p → DpAll K G v p
  | _, _, _, .nil, h => by simp only [pyAll, Option.some.injEq] at h; subst h; exact .nil
  | _, d :: ds, _, .cons r rs, h => by
    simp only [pyAll] at h
    split at h
    · rename_i p ps e1 e2
      cases h
      exact .cons (Rep.dp r e1) (Reps.dp rs e2)
    · cases h
end
mutual
theorem dp_mono {H H' : Hp} (e : Same H H') : ∀ {v : V} {p : PyData}, Dp K H v p → Dp K H' v p
  | _, _, .non => .non
  | _, _, .bl b => .bl b
  | _, _, .int i => .int i
  | _, _, .str x => .str x
  | _, _, .lst h r => .lst (SqL.mono e h) (dpAll_mono e r)
  | _, _, .tup h r => .tup (SqT.mono e h) (dpAll_mono e r)
theorem dpAll_mono {H H' : Hp} (e : Same H H') : ∀ {v : List V} {p : List PyData}, DpAll K H v p → DpAll K H' v p
  | _, _, .nil => .nil
  | _, _, .cons h r => .cons (dp_mono e h) (dpAll_mono e r)
end
end
def pEqB (d e : D) : Option Bool := match d.py, e.py with
  | some p, some q => if SeqAt.shaped p = true ∧ SeqAt.shaped q = true then some (PyData.eqv p q) else none
  | _, _ => none
def pEq (d e : D) : Option D := (pEqB d e).map .bl
def pNe (d e : D) : Option D := (pEqB d e).map fun b => .bl (!b)
theorem pEqB_inv {d e : D} {b : Bool} (h : pEqB d e = some b) : ∃ p q, d.py = some p ∧ e.py = some q ∧ SeqAt.shaped p = true ∧ SeqAt.shaped q = true ∧ b = PyData.eqv p q := by
  unfold pEqB at h
  split at h
  · split at h
    · rename_i p q e1 e2 hh
      cases h
      exact ⟨p, q, e1, e2, hh.1, hh.2, rfl⟩
    · cases h
  · cases h
section
variable {K : PySem.W.Frag} {mg : MG}
theorem ans_eq : Ans2 K mg (rEqD K) pEq := fun w x y d e z Q s rx ry q k => by
  obtain ⟨b, hb, rfl⟩ := Option.map_eq_some_iff.mp q
  obtain ⟨p, p', e1, e2, s1, s2, rfl⟩ := pEqB_inv hb
  exact ⟨p, p', (rx.h s).dp e1, (ry.h s).dp e2, s1, s2, k _ (fun _ _ => .bl _)⟩
theorem ans_ne : Ans2 K mg (rNeD K) pNe := fun w x y d e z Q s rx ry q k => by
  obtain ⟨b, hb, rfl⟩ := Option.map_eq_some_iff.mp q
  obtain ⟨p, p', e1, e2, s1, s2, rfl⟩ := pEqB_inv hb
  exact ⟨p, p', (rx.h s).dp e1, (ry.h s).dp e2, s1, s2, k _ (fun _ _ => .bl _)⟩
end
def pInB : D → D → Option Bool
  | .str x, .str z => match x.cps.toList with
    | [c] => some (decide (c ∈ z.cps.toList))
    | _ => none
  | d, .lst ds => match d.py, pyAll ds with
    | some p, some ps => if SeqAt.shaped p = true ∧ SeqAt.shaped (.list ps) = true then some (ps.any fun z => PyData.eqv z p) else none
    | _, _ => none
  | d, .tup ds => match d.py, pyAll ds with
    | some p, some ps => if SeqAt.shaped p = true ∧ SeqAt.shaped (.list ps) = true then some (ps.any fun z => PyData.eqv z p) else none
    | _, _ => none
  | _, _ => none
def rInT (K : PySem.W.Frag) (n : Bool) : R2 := fun x y H Q => ∃ d ds, Dp K H x d ∧ Dp K H y (.tuple ds) ∧ SeqAt.shaped d = true ∧ SeqAt.shaped (.list ds) = true ∧ Q (.bl (if n then !(ds.any fun z => PyData.eqv z d) else (ds.any fun z => PyData.eqv z d))) H
end DL
namespace DL
open PySem L2
section
variable {X : Cx}
theorem op_inT (hu : X.A.units + 65 < cLine) : OpR X (compareOp .In) (rInT X.K false) := by
  intro pins s σ H x y v u Q I rx ry h
  obtain ⟨d, ds, hd, he, sd, se, q⟩ := h
  obtain ⟨as, r1⟩ := Dp.reads I d x v hd rx
  obtain ⟨bs, r2⟩ := Dp.reads I (.tuple ds) y u he ry
  exact SeqAt.in_tuple_reads r2 r1 (SeqAt.canLay_of_shaped se) (SeqAt.canLay_of_shaped sd) (PyProof.Rows.room_in_shaped sd hu) ⟨.bl _, H, I, rfl, q⟩
end
def rInA (K : PySem.W.Frag) (n : Bool) : R2 := fun x y H Q =>
  (∃ (c : Nat) (z : Str), x = .str ⟨#[c]⟩ ∧ y = .str z ∧ Q (.bl (if n then !decide (c ∈ z.cps.toList) else decide (c ∈ z.cps.toList))) H) ∨
  (∃ d ds, Dp K H x d ∧ Dp K H y (.list ds) ∧ SeqAt.shaped d = true ∧ SeqAt.shaped (.list ds) = true ∧ Q (.bl (if n then !(ds.any fun z => PyData.eqv z d) else (ds.any fun z => PyData.eqv z d))) H) ∨
  rInT K n x y H Q
section
variable {X : Cx}
theorem op_inA (hu : X.A.units + 65 < cLine) : OpR X (compareOp .In) (rInA X.K false) := fun pins s σ H x y v u Q I rx ry q => by
  rcases q with q | q | q
  · exact op_in_sign pins s σ H x y v u Q I rx ry q
  · exact op_inD hu pins s σ H x y v u Q I rx ry q
  · exact op_inT hu pins s σ H x y v u Q I rx ry q
end
theorem str_of_one {x : Str} {c : Nat} (h : x.cps.toList = [c]) : x = ⟨#[c]⟩ := by
  cases x with
  | mk a =>
    cases a with
    | mk l => simp at h; subst h; rfl
section
variable {K : PySem.W.Frag} {mg : MG}
theorem ans_in (n : Bool) : Ans2 K mg (rInA K n) (fun d e => (pInB d e).map fun b => .bl (if n then !b else b)) := fun w x y d e z Q s rx ry q k => by
  obtain ⟨b, hb, rfl⟩ := Option.map_eq_some_iff.mp q
  unfold pInB at hb
  split at hb
  · split at hb
    · rename_i c hc
      cases hb
      refine .inl ⟨c, _, by rw [rx.str_inv, str_of_one hc], ry.str_inv, k _ fun _ _ => .bl _⟩
    · cases hb
  · split at hb
    · split at hb
      · rename_i p ps e1 e2 hh
        cases hb
        refine .inr (.inl ⟨p, ps, (rx.h s).dp e1, (ry.h s).dp (by simp [D.py, e2]), hh.1, hh.2, k _ fun _ _ => .bl _⟩)
      · cases hb
    · cases hb
  · split at hb
    · split at hb
      · rename_i p ps e1 e2 hh
        cases hb
        refine .inr (.inr ⟨p, ps, (rx.h s).dp e1, (ry.h s).dp (by simp [D.py, e2]), hh.1, hh.2, k _ fun _ _ => .bl _⟩)
      · cases hb
    · cases hb
  · cases hb
def D.isNon : D → Option Bool
  | .non => some true
  | .bl _ | .int _ | .str _ | .tup _ | .lst _ | .lsk _ | .dct _ | .ins _ _ | .ref _ | .dlk _ => some false
  | _ => none
@[simp] theorem isNon_non : D.isNon .non = some true := rfl
@[simp] theorem isNon_bl (b : Bool) : D.isNon (.bl b) = some false := rfl
@[simp] theorem isNon_int (b : Int) : D.isNon (.int b) = some false := rfl
@[simp] theorem isNon_str (b : Str) : D.isNon (.str b) = some false := rfl
@[simp] theorem isNon_tup (b : List D) : D.isNon (.tup b) = some false := rfl
@[simp] theorem isNon_lst (b : List D) : D.isNon (.lst b) = some false := rfl
@[simp] theorem isNon_lsk (b : List D) : D.isNon (.lsk b) = some false := rfl
@[simp] theorem isNon_dct (b : List (Key × D)) : D.isNon (.dct b) = some false := rfl
@[simp] theorem isNon_ins (c : Str) (b : List (Str × D)) : D.isNon (.ins c b) = some false := rfl
@[simp] theorem isNon_ref (b : Nat) : D.isNon (.ref b) = some false := rfl
@[simp] theorem isNon_dlk (b : List (Key × D)) : D.isNon (.dlk b) = some false := rfl
theorem RepV.isNon {w : Ws} {v : V} {d : D} {b : Bool} (h : RepV K mg w v d) (q : d.isNon = some b) : decide (v = .non) = b := by
  rcases h with h | ⟨a, vs, ds, rfl, rfl, h1, h2, h3⟩ | ⟨a, vs, ds, rfl, rfl, h1, h3⟩
  · cases h <;> simp [D.isNon] at q <;> subst q <;> simp
  · simp [D.isNon] at q; subst q; simp
  · simp [D.isNon] at q; subst q; simp
@[simp] def pIs (n : Bool) : D → D → Option D
  | d, .non => d.isNon.map fun b => .bl (if n then !b else b)
  | _, _ => none
theorem ans_isN : Ans2 K mg (fun x y H Q => y = .non ∧ Q (.bl (decide (x = .non))) H) (pIs false) := fun w x y d e z Q s rx ry q k => by
  unfold pIs at q
  split at q
  · obtain ⟨b, hb, rfl⟩ := Option.map_eq_some_iff.mp q
    have := rx.isNon hb
    have hy : y = .non := by
      rcases ry with h | ⟨a, vs, ds, _, e, _⟩ | ⟨a, vs, ds, _, e, _⟩
      · exact h.non_inv
      · cases e
      · cases e
    exact ⟨hy, this ▸ k _ fun _ _ => .bl _⟩
  · cases q
theorem ans_notN : Ans2 K mg (fun x y H Q => y = .non ∧ Q (.bl (!decide (x = .non))) H) (pIs true) := fun w x y d e z Q s rx ry q k => by
  unfold pIs at q
  split at q
  · obtain ⟨b, hb, rfl⟩ := Option.map_eq_some_iff.mp q
    have := rx.isNon hb
    have hy : y = .non := by
      rcases ry with h | ⟨a, vs, ds, _, e, _⟩ | ⟨a, vs, ds, _, e, _⟩
      · exact h.non_inv
      · cases e
      · cases e
    refine ⟨hy, ?_⟩
    rw [this]
    exact k _ fun _ _ => .bl _
  · cases q
end
@[simp] def notD (f : DEx) (ρ : En) (st : Store) : R := (f ρ st).bind fun d ρ st => match d with
  | .bl b => .ok (.bl (!b)) ρ st
  | _ => .bad
@[simp] def andD (f g : DEx) (ρ : En) (st : Store) : R := (f ρ st).bind fun d ρ st => match d with
  | .bl true => g ρ st
  | .bl false => .ok (.bl false) ρ st
  | _ => .bad
@[simp] def orD (f g : DEx) (ρ : En) (st : Store) : R := (f ρ st).bind fun d ρ st => match d with
  | .bl true => .ok (.bl true) ρ st
  | .bl false => g ρ st
  | _ => .bad
section
variable {K : PySem.W.Frag} {mg : MG} {W : WB}
theorem RefV.test {t : TE} {f : DEx} (h : RefV K mg W t f) : RefT K mg W (fun σ H Q => t σ H fun x H' => ∃ k, x = .bl k ∧ Q k H') f := fun w Q s q => by
  refine h w _ s ?_
  cases r : f w.ρ w.st with
  | ok d ρ st =>
    rw [r] at q
    cases d with
    | bl b => exact fun w' v h1 h2 h3 h4 h5 => ⟨b, h5.bl_inv, q w' h1 h2 h3 h4⟩
    | _ => exact q.elim
  | exc c ρ st => rw [r] at q; exact q
  | bad => rw [r] at q; exact q
theorem RefT.bind {t : TT} {f : DEx} (h : RefT K mg W t f) {w : Ws} {Q1 : Bool → Hp → Prop} {r : D → En → Store → R} (s : Sts K mg w) {P : R → Prop}
    (hP : P ((f w.ρ w.st).bind r)) (hd : ∀ d ρ st, (∀ b, d ≠ .bl b) → r d ρ st = .bad)
    (hx : ∀ c ρ st, P (.exc c ρ st) → ∀ (w' : Ws) (cls : Value) (dx : Option Addr), w'.ρ = ρ → w'.st = st → w'.σ = w.σ → Aft K mg w w' → ExcAt K mg w' c cls dx → W cls dx w'.σ w'.H)
    (hb : P .bad → False)
    (k : ∀ (w1 : Ws) (b : Bool), w1.σ = w.σ → Aft K mg w w1 → P (r (.bl b) w1.ρ w1.st) → Q1 b w1.H) : t w.σ w.H Q1 := by
  refine h w Q1 s ?_
  cases e : f w.ρ w.st with
  | ok d ρ st =>
    rw [e] at hP
    cases d with
    | bl b =>
      intro w' h1 h2 h3 h4
      subst h1; subst h2
      exact k w' b h3 h4 hP
    | _ =>
      refine (hb ?_).elim
      simp only [R.bind] at hP
      rw [hd _ ρ st (by intro b q; cases q)] at hP
      exact hP
  | exc c ρ st =>
    rw [e] at hP
    exact hx c ρ st hP
  | bad => rw [e] at hP; exact (hb hP).elim
theorem refT_not {t : TT} {f : DEx} (h : RefT K mg W t f) : RefT K mg W (tNot t) (notD f) := fun w Q s q => by
  refine h.bind (P := OkT K mg W w Q) s q (fun d ρ st n => by cases d <;> first | rfl | exact absurd rfl (n _)) (fun _ _ _ z => z) (fun z => z) fun w1 b e a z => ?_
  exact z w1 rfl rfl e a
theorem refT_and {t u : TT} {f g : DEx} (h : RefT K mg W t f) (h' : RefT K mg W u g) : RefT K mg W (tAnd t u) (andD f g) := fun w Q s q => by
  refine h.bind (P := OkT K mg W w Q) s q (fun d ρ st n => by cases d <;> first | rfl | exact absurd rfl (n _)) (fun _ _ _ z => z) (fun z => z) fun w1 b e a z => ?_
  cases b with
  | true =>
    refine iteT ?_
    rw [← e]
    exact h' w1 Q a.s (OkT.aft z a e)
  | false => exact iteF (z w1 rfl rfl e a)
theorem refT_or {t u : TT} {f g : DEx} (h : RefT K mg W t f) (h' : RefT K mg W u g) : RefT K mg W (tOr t u) (orD f g) := fun w Q s q => by
  refine h.bind (P := OkT K mg W w Q) s q (fun d ρ st n => by cases d <;> first | rfl | exact absurd rfl (n _)) (fun _ _ _ z => z) (fun z => z) fun w1 b e a z => ?_
  cases b with
  | false =>
    refine iteF ?_
    rw [← e]
    exact h' w1 Q a.s (OkT.aft z a e)
  | true => exact iteT (z w1 rfl rfl e a)
theorem refE_and {ta tb : TE} {f g : DEx} (ha : RefE K mg W ta f) (hb : RefE K mg W tb g) : RefE K mg W (tAndV ta tb) (andD f g) := fun w Q s q => by
  refine ha.bindR (Q := Q) s q fun w1 v d s1 e a r z => ?_
  cases d with
  | bl b =>
    refine ⟨b, r.bl_inv, ?_⟩
    cases b with
    | true => exact iteT (e ▸ hb w1 Q s1 z)
    | false => exact iteF (z w1 _ rfl rfl rfl (Aft.refl s1) (.bl _))
  | _ => exact z.elim
end
def DW (X : Cx) (W : WB) (e : Expr) (f : DEx) : Prop := ∃ t, PW X e t ∧ RefT X.K (MGx X W.b) W t f
section
variable {X : Cx} {W : WB} {a b c : Expr} {f g h : DEx} {pos : Pos} {rest : List Expr}
theorem dt_cmp {op : CmpOp} {r : R2} {p : D → D → Option D} (ho : OpR X (compareOp op) r) (hr : Ans2 X.K (MGx X W.b) r p) (hm : behindInMarks op b = false) (ha : DE X W a f) (hb : DV X W b g) : DT X W (.Compare a [op] [b] pos) (lift2 p f g) := by
  obtain ⟨ta, pa, ra⟩ := ha
  obtain ⟨tb, pb, rb⟩ := hb
  exact ⟨_, pt_cmpR ho pa pb hm, (ref_op hr ra rb).v.test⟩
theorem dt_val (ha : DE X W a f) (he : ∀ whole, isTrue a X.env whole = (do let v ← whole; standAt a.pos; holding [v] (truthy v)) := by intro _; rfl) : DT X W a f := by
  obtain ⟨ta, pa, ra⟩ := ha
  exact ⟨_, pt_val pa he, ra.v.test⟩
theorem dt_not (ha : DT X W a f) : DT X W (.UnaryOp .Not a pos) (notD f) := by
  obtain ⟨ta, pa, ra⟩ := ha
  exact ⟨_, pt_not pa, refT_not ra⟩
theorem dw_and1 (ha : DT X W a f) : DW X W (.BoolOp .And [a] pos) f := let ⟨_, p, r⟩ := ha; ⟨_, pw_and1 p, r⟩
theorem dw_or1 (ha : DT X W a f) : DW X W (.BoolOp .Or [a] pos) f := let ⟨_, p, r⟩ := ha; ⟨_, pw_or1 p, r⟩
theorem dw_and (ha : DT X W a f) (hb : DW X W (.BoolOp .And (b :: rest) pos) g) : DW X W (.BoolOp .And (a :: b :: rest) pos) (andD f g) := let ⟨_, p, r⟩ := ha; let ⟨_, p', r'⟩ := hb; ⟨_, pw_and p p', refT_and r r'⟩
theorem dw_or (ha : DT X W a f) (hb : DW X W (.BoolOp .Or (b :: rest) pos) g) : DW X W (.BoolOp .Or (a :: b :: rest) pos) (orD f g) := let ⟨_, p, r⟩ := ha; let ⟨_, p', r'⟩ := hb; ⟨_, pw_or p p', refT_or r r'⟩
theorem DW.t (h : DW X W a f) : DT X W a f := let ⟨_, p, r⟩ := h; ⟨_, p.pt, r⟩
theorem de_and (ha : DE X W a f) (hb : DE X W (.BoolOp .And (b :: rest) pos) g) : DE X W (.BoolOp .And (a :: b :: rest) pos) (andD f g) := let ⟨_, p, r⟩ := ha; let ⟨_, p', r'⟩ := hb; ⟨_, pe_and p p', refE_and r r'⟩
theorem de_one {op : BoolOp} (ha : DE X W a f) : DE X W (.BoolOp op [a] pos) f := let ⟨_, p, r⟩ := ha; ⟨_, pe_one p, r⟩
end
end DL
namespace DL
open PySem L2
@[simp] def aNil (ρ : En) (st : Store) : R := .ok (.tup []) ρ st
@[simp] def aCons (f g : DEx) (ρ : En) (st : Store) : R := (f ρ st).bind fun d ρ st => (g ρ st).bind fun e ρ st => match e with
  | .tup ds => .ok (.tup (d :: ds)) ρ st
  | _ => .bad
def DAn (X : Cx) (W : WB) (es : List Expr) (f : DEx) : Prop := DA X W es f ∧ ∀ ρ st d ρ' st', f ρ st = .ok d ρ' st' → ∃ ds, d = .tup ds ∧ ds.length = es.length
section
variable {K : PySem.W.Frag} {mg : MG} {W : WB}
theorem RefA.bind {t : TA} {f : DEx} (h : RefA K mg W t f) {w : Ws} {Q1 : List V → Hp → Prop} {r : D → En → Store → R} (s : Sts K mg w) {P : R → Prop}
    (hP : P ((f w.ρ w.st).bind r)) (hd : ∀ d ρ st, (∀ b, d ≠ .tup b) → r d ρ st = .bad)
    (hx : ∀ c ρ st, P (.exc c ρ st) → ∀ (w' : Ws) (cls : Value) (dx : Option Addr), w'.ρ = ρ → w'.st = st → w'.σ = w.σ → Aft K mg w w' → ExcAt K mg w' c cls dx → W cls dx w'.σ w'.H)
    (hb : P .bad → False)
    (k : ∀ (w1 : Ws) (vs : List V) (ds : List D), w1.σ = w.σ → Aft K mg w w1 → Reps K mg w1.G w1.ι vs ds → f w.ρ w.st = .ok (.tup ds) w1.ρ w1.st → P (r (.tup ds) w1.ρ w1.st) → Q1 vs w1.H) : t w.σ w.H Q1 := by
  refine h w Q1 s ?_
  cases e : f w.ρ w.st with
  | ok d ρ st =>
    rw [e] at hP
    cases d with
    | tup b =>
      intro w' vs h1 h2 h3 h4 h5
      subst h1; subst h2
      exact k w' vs b h3 h4 h5 e hP
    | _ =>
      refine (hb ?_).elim
      simp only [R.bind] at hP
      rw [hd _ ρ st (by intro b q; cases q)] at hP
      exact hP
  | exc c ρ st =>
    rw [e] at hP
    exact hx c ρ st hP
  | bad => rw [e] at hP; exact (hb hP).elim
theorem refA_nil : RefA K mg W tNil aNil := fun w Q s q => q w [] rfl rfl rfl (Aft.refl s) .nil
theorem refA_cons {te : TE} {t : TA} {f g : DEx} (he : RefE K mg W te f) (ht : RefA K mg W t g) : RefA K mg W (tCons te t) (aCons f g) := fun w Q s q => by
  refine he.bind (P := OkA K mg W w Q) s q (fun _ _ _ z => z) (fun z => z) fun w1 v d e1 a1 r1 q1 => ?_
  show t w.σ w1.H _
  rw [← e1]
  refine ht.bind (P := OkA K mg W w1 Q) a1.s (q1.aft a1 e1) (fun d ρ st n => by cases d <;> first | rfl | exact absurd rfl (n _)) (fun _ _ _ z => z) (fun z => z) fun w2 vs ds e2 a2 r2 _ q2 => ?_
  exact q2 w2 (v :: vs) rfl rfl e2 a2 (.cons (r1.mono a2.g a2.i) r2)
end
section
variable {X : Cx} {W : WB} {e a b : Expr} {es : List Expr} {f g : DEx} {pos : Pos}
theorem da_nil : DAn X W [] aNil := ⟨⟨_, pa_nil, refA_nil⟩, fun ρ st d ρ' st' h => by cases h; exact ⟨[], rfl, rfl⟩⟩
theorem da_cons (he : DE X W e f) (ht : DAn X W es g) (hs : starEach (e :: es) X.env = (false, eval e X.env) :: starEach es X.env := by rfl) : DAn X W (e :: es) (aCons f g) := by
  obtain ⟨te, pe, re⟩ := he
  obtain ⟨⟨t, pt, rt⟩, hl⟩ := ht
  refine ⟨⟨_, pa_cons pe pt hs, refA_cons re rt⟩, fun ρ st d ρ' st' h => ?_⟩
  unfold aCons at h
  cases h1 : f ρ st with
  | ok d1 ρ1 st1 =>
    rw [h1] at h
    simp only [R.bind] at h
    cases h2 : g ρ1 st1 with
    | ok d2 ρ2 st2 =>
      rw [h2] at h
      obtain ⟨ds, rfl, l⟩ := hl _ _ _ _ _ h2
      cases h
      exact ⟨d1 :: ds, rfl, by simp [l]⟩
    | exc c ρ st => rw [h2] at h; cases h
    | bad => rw [h2] at h; cases h
  | exc c ρ st => rw [h1] at h; cases h
  | bad => rw [h1] at h; cases h
theorem de_tup {k : Nat} (ha : DAn X W es f) (hl : es.length ≤ sizeLine := by decide) : DE X W (.Tuple es k pos) f := by
  obtain ⟨⟨t, pt, rt⟩, hn⟩ := ha
  refine ⟨_, pe_tup pt, fun w Q s q => ?_⟩
  refine rt.bind (P := OkR X.K (MGx X W.b) W w Q) (r := fun d ρ st => match d with | .tup ds => .ok (.tup ds) ρ st | _ => .bad) s ?_ ?_ (fun _ _ _ z => z) (fun z => z) fun w1 vs ds e1 a1 r1 e q1 => ?_
  · cases h : f w.ρ w.st with
    | ok d ρ st =>
      obtain ⟨ds, rfl, l⟩ := hn _ _ _ _ _ h
      rw [h] at q; exact q
    | exc c ρ st => rw [h] at q; exact q
    | bad => rw [h] at q; exact q
  · intro d ρ st n; cases d <;> first | rfl | exact absurd rfl (n _)
  · have l : vs.length ≤ sizeLine := by
      obtain ⟨ds', e', l⟩ := hn _ _ _ _ _ e
      cases e'
      rw [r1.len, l]; exact hl
    refine ⟨l, fun p hp => ?_⟩
    have A := Aft.alloc (o := .tup vs) a1.s hp
    exact q1 { w1 with G := upd w1.G p (.tup vs), H := upd w1.H p (.tup vs) } (.ref p) rfl rfl e1 (a1.trans A) (.tup (.inl (.inl upd_same)) l (r1.mono A.g A.i))
end
end DL
namespace DL
open PySem L2
abbrev Den := List D → Store → R
def WEb (b : Low) (E : XK) : WB := ⟨fun cls dx _ H => E cls dx H, b⟩
abbrev WEx (E : XK) : WB := WEb Low.no E
def spD (K : PySem.W.Frag) (mg : Str → Option Value) (n : Nat) (den : Den) : Sp := fun vs H Q E => vs.length = n ∧
  ∃ (w : Ws) (ds : List D), w.ρ = [] ∧ w.σ = [] ∧ w.H = H ∧ Sts K ⟨mg, Low.no⟩ w ∧ Reps K ⟨mg, Low.no⟩ w.G w.ι vs ds ∧ OkR K ⟨mg, Low.no⟩ (WEx E) w Q (den ds w.st)
@[simp] def endR : Fl → R
  | .nx _ st => .ok .non [] st
  | .rt d _ st => .ok d [] st
  | .exc c _ st => .exc c [] st
  | _ => .bad
@[simp] def enter (n : Nat) (ds : List D) : En := ds.map .val ++ List.replicate (n - ds.length) .no
@[simp] def runD (n : Nat) (g : DSx) : Den := fun ds st => endR (g (enter n ds) st)
theorem enter_ml (n : Nat) (ds : List D) (i : Nat) (es : List D) : (enter n ds)[i]? ≠ some (.ml es) := by
  intro h
  have := List.mem_of_getElem? h
  unfold enter at this
  rcases List.mem_append.mp this with h | h
  · obtain ⟨d, _, e⟩ := List.mem_map.mp h; cases e
  · have := List.eq_of_mem_replicate h; cases this
section
variable {K : PySem.W.Frag} {mg : MG}
theorem Sts.enter {w : Ws} {n : Nat} {N : List Str} {vs : List V} {ds : List D} (s : Sts K mg w) (hn : n = N.length) (r : Reps K mg w.G w.ι vs ds) : Sts K mg { w with ρ := enter n ds, σ := start N vs } where
  lowG := s.lowG
  lowI := s.lowI
  sub := s.sub
  ln := by unfold DL.enter L2.start; simp [r.len, hn]
  len := s.len
  cel := s.cel
  inj := s.inj
  slo := fun i x h => by
    show SlotAt K mg { w with ρ := DL.enter n ds, σ := start N vs } (start N vs)[i]? x
    have h' : (DL.enter n ds)[i]? = some x := h
    unfold DL.enter at h'
    by_cases q : i < ds.length
    · rw [List.getElem?_append_left (by simpa using q)] at h'
      rw [List.getElem?_map] at h'
      cases e : ds[i]? with
      | none => rw [e] at h'; cases h'
      | some d =>
        rw [e] at h'
        cases h'
        obtain ⟨v, e1, e2⟩ := r.get e
        refine ⟨v, ?_, e2⟩
        unfold L2.start
        rw [List.getElem?_append_left (by simpa [r.len] using q), List.getElem?_map, e1]
        rfl
    · rw [List.getElem?_append_right (by simpa using q)] at h'
      have := List.eq_of_mem_replicate (List.mem_of_getElem? h')
      subst this; trivial
  sep := fun i l a ⟨es, h, _⟩ _ => absurd h (enter_ml _ _ _ _)
  dis := fun i j a ⟨es, h, _⟩ _ => absurd h (enter_ml _ _ _ _)
theorem ws_strip {w : Ws} (h1 : w.ρ = []) (h2 : w.σ = []) : w.strip = w := by
  cases w; simp at h1 h2; subst h1; subst h2; rfl
end
structure FunV (K : PySem.W.Frag) (x qual : Str) (st : Stmt) (f : Addr) (fd : FuncData) : Prop where
  ex : ∃ (oc : Value) (od : Option Addr) (dV kV doc pm : Value) (an : Option Addr) (cdv ct : Value) (osl : Array (Option Value)), fd = PySem.W.fnOf x qual (defArgs st) (defBody st) (defScope st) dV kV doc pm an cdv ct ∧ K.lookup f = some ⟨oc, od, .func fd, osl⟩ ∧ PySem.W.codeIn K cdv qual = true
theorem funV_of {K : PySem.W.Frag} {x qual : Str} {st : Stmt} {f : Addr} {fd : FuncData} (F : Fun K x qual st f fd) : FunV K x qual st f fd := by
  obtain ⟨oc, od, kV, doc, pm, an, cdv, ct, osl, e, lk, hcd⟩ := F.ex
  exact ⟨oc, od, .none, kV, doc, pm, an, cdv, ct, osl, e, lk, hcd⟩
theorem FunV.okD {P : Program} {w : World} {K : PySem.W.Frag} {mg : Str → Option Value} {base : Heap} {x qual : Str} {st : Stmt} {f : Addr} {fd : FuncData} {N ps : List Str} {k : Nat} {sp : Sp} (F : FunV K x qual st f fd) (S : FnScope N ps (defScope st)) (len : ∀ vs H Q E, sp vs H Q E → vs.length = ps.length)
    (hb : ∀ (cdv : Value) (A : Around) (outer : List Env) (s : Shared) (H : Hp) (vs : List V) (Q : VK) (E : XK), Room k (A.deeper (PyProof.Rows.envOfC qual (defScope st) s.heap.objs.size f cdv)) → sp vs H Q E →
      ∃ t, PSs (cxOf (L2N.CX P w) P w K mg base N qual (defScope st) f cdv A outer s H E) (defBody st) t ∧ t { nx := fun _ H' => Q .non H', rt := Q } (start N vs) H) : FnOk P w K mg base (L2N.CX P w) (k + 1) f fd ps sp := by
  obtain ⟨oc, od, dV, kV, doc, pm, an, cdv, ct, osl, rfl, lk, hcd⟩ := F.ex
  exact fn_of lk hcd S len fun A outer s H vs Q E hr hsp => hb cdv A outer s H vs Q E hr hsp
theorem fn_D {P : Program} {wd : World} {K : PySem.W.Frag} {mg : Str → Option Value} {base : Heap} {x qual : Str} {st : Stmt} {f : Addr} {fd : FuncData} {N ps : List Str} {k n : Nat} {g : DSx} (F : FunV K x qual st f fd) (S : FnScope N ps (defScope st)) (hn : n = N.length)
    (hb : ∀ (cdv : Value) (A : Around) (outer : List Env) (s : Shared) (H : Hp) (E : XK), Room k (A.deeper (PyProof.Rows.envOfC qual (defScope st) s.heap.objs.size f cdv)) →
      DSs (cxOf (L2N.CX P wd) P wd K mg base N qual (defScope st) f cdv A outer s H E) (WEx E) (defBody st) g) : FnOk P wd K mg base (L2N.CX P wd) (k + 1) f fd ps (spD K mg ps.length (runD n g)) := by
  refine F.okD S (fun vs H Q E h => h.1) fun cdv A outer s H vs Q E hr h => ?_
  obtain ⟨hl, w, ds, hρ, hσ, rfl, sts, rp, ok⟩ := h
  obtain ⟨t, pt, rt⟩ := hb cdv A outer s w.H E hr
  refine ⟨t, pt, ?_⟩
  have sts' := sts.enter hn rp (N := N)
  have e0 : w.strip = w := ws_strip hρ hσ
  have s0 : Sts K ⟨mg, Low.no⟩ w.strip := by rw [e0]; exact sts
  have out : ∀ w', Aft K ⟨mg, Low.no⟩ { w with ρ := DL.enter n ds, σ := start N vs } w' → Aft K ⟨mg, Low.no⟩ w w'.strip := fun w' A => by
    have := Aft.out (w := w) s0 (enter_ml n ds) A
    rwa [e0] at this
  refine rt { w with ρ := DL.enter n ds, σ := start N vs } { nx := fun _ H' => Q .non H', rt := Q } sts' ?_
  unfold runD at ok
  show OkF K ⟨mg, Low.no⟩ (WEx E) _ _ (g (DL.enter n ds) w.st)
  cases e : g (DL.enter n ds) w.st with
  | nx ρ st' =>
    rw [e] at ok
    intro w' h1 h2 A
    exact ok w'.strip .non rfl h2 hσ.symm (out w' A) .non
  | rt d ρ st' =>
    rw [e] at ok
    intro w' v h1 h2 A r
    exact ok w'.strip v rfl h2 hσ.symm (out w' A) r
  | bk ρ st' => rw [e] at ok; exact ok.elim
  | ct ρ st' => rw [e] at ok; exact ok.elim
  | exc c ρ st' =>
    rw [e] at ok
    intro w' cls dx h1 h2 A r
    exact ok w'.strip cls dx rfl h2 hσ.symm (out w' A) r
  | bad => rw [e] at ok; exact ok.elim
@[simp] def callD (den : Den) (f : DEx) (ρ : En) (st : Store) : R := (f ρ st).bind fun d ρ st => match d with
  | .tup ds => match den ds st with
    | .ok r _ st' => .ok r ρ st'
    | .exc c _ st' => .exc c ρ st'
    | .bad => .bad
  | _ => .bad
section
variable {X : Cx} {W : WB} {k n : Nat} {f : Addr} {fd : FuncData} {ps : List Str} {den : Den} {x : Str} {p pos : Pos} {e : Expr} {es : List Expr} {fa : DEx}
theorem ExcAt.reb {K : PySem.W.Frag} {f : Str → Option Value} {w : Ws} {c : Ex} {cls : Value} {dx : Option Addr} (b b' : Low) (h : ExcAt K ⟨f, b⟩ w c cls dx) : ExcAt K ⟨f, b'⟩ w c cls dx := by
  obtain ⟨h1, h2⟩ := h
  refine ⟨h1, ?_⟩
  split at h2
  · exact h2
  · obtain ⟨d, vs, e1, e2, r⟩ := h2
    exact ⟨d, vs, e1, e2, r.reb b b'⟩
theorem sp_at {K : PySem.W.Frag} {mg : Str → Option Value} {b : Low} {w : Ws} {vs : List V} {ds : List D} {Q : VK} {σ : L2.St} (s : Sts K ⟨mg, b⟩ w) (hl : vs.length = n) (r : Reps K ⟨mg, b⟩ w.G w.ι vs ds) (hs : w.σ = σ)
    (q : OkR K ⟨mg, b⟩ W w Q (callD den (fun ρ st => .ok (.tup ds) ρ st) w.ρ w.st)) : spD K mg n den vs w.H Q (fun cls dx H => W cls dx σ H) := by
  subst hs
  refine ⟨hl, w.strip, ds, rfl, rfl, rfl, s.strip.noB rfl, r.reb _ _, ?_⟩
  show OkR K ⟨mg, Low.no⟩ _ w.strip Q (den ds w.st)
  unfold callD at q
  simp only [R.bind] at q
  cases e : den ds w.st with
  | ok d ρ st =>
    rw [e] at q
    intro w' v h1 h2 h3 A rv
    have A1 := (Aft.out (w := w) (ρ := []) (σ := []) (s.strip.noB rfl) (fun i ds h => by simp at h) A).reb (b' := b) s.strip rfl
    exact q { w'.strip with ρ := w.ρ, σ := w.σ } v rfl h2 rfl (Aft.back s A1) (rv.reb _ _)
  | exc c ρ st =>
    rw [e] at q
    intro w' cls dx h1 h2 h3 A rv
    have A1 := (Aft.out (w := w) (ρ := []) (σ := []) (s.strip.noB rfl) (fun i ds h => by simp at h) A).reb (b' := b) s.strip rfl
    exact q { w'.strip with ρ := w.ρ, σ := w.σ } cls dx rfl h2 rfl (Aft.back s A1) (rv.reb _ _)
  | bad => rw [e] at q; exact q.elim
theorem de_call (F : FnOk X.prog X.w X.K X.mg X.base (L2N.CX X.prog X.w) k f fd ps (spD X.K X.mg n den)) (hr : Room k X.A) (hg : Gl X x) (hm : X.mg x = some (.ref f)) (hk : PySem.W.keepIn X.K (.ref f) = true) (hb : Binds X.K fd ps []) (tk : L2N.Takes X W)
    (ha : DAn X W (e :: es) fa) (hn : (e :: es).length = n := by rfl) (hdb : (x == ("__debug__" : Str)) = false := by decide) (he : starEach (e :: es) X.env = (false, eval e X.env) :: starEach es X.env := by rfl) (hpl : (backTo pos (starEach es X.env)).any (·.1) = false := by rfl) :
    DE X W (.Call (.Name x p) (e :: es) [] pos) (callD den fa) := by
  obtain ⟨⟨t, pt, rt⟩, hl⟩ := ha
  refine ⟨_, pe_callS F hr hg hm hk hb (fun σ => L2N.passAt tk σ) pt hdb he hpl, fun w Q s q => ?_⟩
  refine rt.bind (P := OkR X.K (MGx X W.b) W w Q) s q (fun d ρ st n => by cases d <;> first | rfl | exact absurd rfl (n _)) (fun _ _ _ z => z) (fun z => z) fun w1 vs ds e1 a1 r1 ee q1 => ?_
  have l : vs.length = n := by
    obtain ⟨ds', e', l⟩ := hl _ _ _ _ _ ee
    cases e'
    rw [r1.len, l]; exact hn
  exact sp_at a1.s l r1 e1 (OkR.aft q1 a1 e1)
end
end DL
namespace DL
open PySem L2
section
variable {K : PySem.W.Frag} {mg : MG} {W : WB}
theorem RefE.bindF {t : TE} {f : DEx} (h : RefE K mg W t f) {w : Ws} {E : Ends} {Q1 : VK} {r : D → En → Store → Fl} (s : Sts K mg w)
    (hP : OkF K mg W w E (match f w.ρ w.st with | .ok d ρ st => r d ρ st | .exc c ρ st => .exc c ρ st | .bad => .bad))
    (k : ∀ (w1 : Ws) (v : V) (d : D), Sts K mg w1 → w1.σ = w.σ → Aft K mg w w1 → Rep K mg w1.G w1.ι v d → OkF K mg W w1 E (r d w1.ρ w1.st) → Q1 v w1.H) : t w.σ w.H Q1 := by
  refine h w Q1 s ?_
  cases e : f w.ρ w.st with
  | ok d ρ st =>
    rw [e] at hP
    intro w' v h1 h2 h3 h4 h5
    subst h1; subst h2
    exact k w' v d h4.s h3 h4 h5 (OkF.aft hP h4)
  | exc c ρ st =>
    rw [e] at hP
    exact fun w' cls dx h1 h2 _ h4 h5 => hP w' cls dx h1 h2 h4 h5
  | bad => rw [e] at hP; exact hP
end
@[simp] def thenF (f : DEx) (r : D → En → Store → Fl) (ρ : En) (st : Store) : Fl := match f ρ st with
  | .ok d ρ st => r d ρ st
  | .exc c ρ st => .exc c ρ st
  | .bad => .bad
@[simp] def nxD (ρ : En) (st : Store) : Fl := .nx ρ st
@[simp] def seqD (g h : DSx) (ρ : En) (st : Store) : Fl := match g ρ st with
  | .nx ρ st => h ρ st
  | r => r
@[simp] def exprD (f : DEx) (ρ0 : En) (st0 : Store) : Fl := thenF f (fun _ ρ st => .nx ρ st) ρ0 st0
@[simp] def retD (f : DEx) (ρ0 : En) (st0 : Store) : Fl := thenF f (fun d ρ st => .rt d ρ st) ρ0 st0
@[simp] def ifD (c : DEx) (g h : DSx) (ρ0 : En) (st0 : Store) : Fl := thenF c (fun d ρ st => match d with
  | .bl true => g ρ st
  | .bl false => h ρ st
  | _ => .bad) ρ0 st0
section
variable {K : PySem.W.Frag} {mg : MG} {W : WB}
theorem refS_nil : RefS K mg W tNext nxD := fun w E s q => q w rfl rfl (Aft.refl s)
theorem refS_cons {t u : TS} {g h : DSx} (ht : RefS K mg W t g) (hu : RefS K mg W u h) : RefS K mg W (tSeq t u) (seqD g h) := fun w E s q => by
  refine ht w _ s ?_
  unfold seqD at q
  cases e : g w.ρ w.st with
  | nx ρ st =>
    rw [e] at q
    intro w' h1 h2 A
    subst h1; subst h2
    exact hu w' E A.s (OkF.aft q A)
  | rt d ρ st => rw [e] at q; exact q
  | bk ρ st => rw [e] at q; exact q
  | ct ρ st => rw [e] at q; exact q
  | exc c ρ st => rw [e] at q; exact q
  | bad => rw [e] at q; exact q
theorem refS_expr {t : TE} {f : DEx} (h : RefE K mg W t f) : RefS K mg W (tDrop t) (exprD f) := fun w E s q =>
  h.bindF s q fun w1 v d s1 e1 a1 r1 q1 => by
    have := q1 w1 rfl rfl (Aft.refl s1)
    rw [e1] at this; exact this
theorem refS_ret {t : TE} {f : DEx} (h : RefE K mg W t f) : RefS K mg W (tRet t) (retD f) := fun w E s q =>
  h.bindF s q fun w1 v d s1 e1 a1 r1 q1 => q1 w1 v rfl rfl (Aft.refl s1) r1
theorem RefT.bindF {t : TT} {f : DEx} (h : RefT K mg W t f) {w : Ws} {E : Ends} {Q1 : Bool → Hp → Prop} {r : D → En → Store → Fl} (s : Sts K mg w) (hd : ∀ d ρ st, (∀ b, d ≠ .bl b) → r d ρ st = .bad)
    (hP : OkF K mg W w E (match f w.ρ w.st with | .ok d ρ st => r d ρ st | .exc c ρ st => .exc c ρ st | .bad => .bad))
    (k : ∀ (w1 : Ws) (b : Bool), Sts K mg w1 → w1.σ = w.σ → Aft K mg w w1 → OkF K mg W w1 E (r (.bl b) w1.ρ w1.st) → Q1 b w1.H) : t w.σ w.H Q1 := by
  refine h w Q1 s ?_
  cases e : f w.ρ w.st with
  | ok d ρ st =>
    rw [e] at hP
    cases d with
    | bl b =>
      intro w' h1 h2 h3 h4
      subst h1; subst h2
      exact k w' b h4.s h3 h4 (OkF.aft hP h4)
    | _ =>
      simp only at hP
      rw [hd _ ρ st (by intro b q; cases q)] at hP
      exact hP.elim
  | exc c ρ st =>
    rw [e] at hP
    exact fun w' cls dx h1 h2 _ h4 h5 => hP w' cls dx h1 h2 h4 h5
  | bad => rw [e] at hP; exact hP
theorem refS_if {c : TT} {t u : TS} {f : DEx} {g h : DSx} (hc : RefT K mg W c f) (ht : RefS K mg W t g) (hu : RefS K mg W u h) : RefS K mg W (tIfS c t u) (ifD f g h) := fun w E s q => by
  refine hc.bindF s (fun d ρ st n => by cases d <;> first | rfl | exact absurd rfl (n _)) q fun w1 b s1 e1 a1 q1 => ?_
  cases b with
  | true =>
    refine iteT ?_
    rw [← e1]; exact ht w1 E s1 q1
  | false =>
    refine iteF ?_
    rw [← e1]; exact hu w1 E s1 q1
end
section
variable {X : Cx} {W : WB} {st : Stmt} {rest : List Stmt} {a b : List Stmt} {e c : Expr} {f : DEx} {g h : DSx} {pos : Pos}
theorem dss_nil : DSs X W [] nxD := ⟨_, pss_nil, refS_nil⟩
theorem dss_cons (h1 : DS X W st g) (h2 : DSs X W rest h) : DSs X W (st :: rest) (seqD g h) := let ⟨_, p, r⟩ := h1; let ⟨_, p', r'⟩ := h2; ⟨_, pss_cons p p', refS_cons r r'⟩
theorem dss_one (h1 : DS X W st g) : DSs X W [st] g := let ⟨_, p, r⟩ := h1; ⟨_, pss_one p, r⟩
theorem ds_expr (he : DE X W e f) (hs : swapsWith e none pos.line X.env = pure false := by rfl) : DS X W (.Expr e pos) (exprD f) := let ⟨_, p, r⟩ := he; ⟨_, ps_expr p hs, refS_expr r⟩
theorem ds_ret (he : DE X W e f) : DS X W (.Return (some e) pos) (retD f) := let ⟨_, p, r⟩ := he; ⟨_, ps_ret p, refS_ret r⟩
theorem ds_if (hc : DT X W c f) (ha : DSs X W a g) (hb : DSs X W b h) : DS X W (.If c a b pos) (ifD f g h) := let ⟨_, p, r⟩ := hc; let ⟨_, p1, r1⟩ := ha; let ⟨_, p2, r2⟩ := hb; ⟨_, ps_if p p1 p2, refS_if r r1 r2⟩
end
abbrev DGx := D → En → Option En
def RefG (K : PySem.W.Frag) (mg : MG) (is : List Nat) (t : TG) (g : DGx) : Prop :=
  ∀ (w : Ws) (v : V) (d : D) (ρ' : En) (Q : L2.St → Hp → Prop), Sts K mg w → Rep K mg w.G w.ι v d → g d w.ρ = some ρ' →
    (∀ σ', (∀ us : List Nat, (∀ i ∈ is, i ∈ us) → wipe σ' us = wipe w.σ us) → Aft K mg w { w with ρ := ρ', σ := σ' } → Q σ' w.H) → t v w.σ w.H Q
def RefGs (K : PySem.W.Frag) (mg : MG) (is : List Nat) (t : TGs) (g : List D → En → Option En) : Prop :=
  ∀ (w : Ws) (vs : List V) (ds : List D) (ρ' : En) (Q : L2.St → Hp → Prop), Sts K mg w → Reps K mg w.G w.ι vs ds → g ds w.ρ = some ρ' →
    (∀ σ', (∀ us : List Nat, (∀ i ∈ is, i ∈ us) → wipe σ' us = wipe w.σ us) → Aft K mg w { w with ρ := ρ', σ := σ' } → Q σ' w.H) → t vs w.σ w.H Q
def DG (X : Cx) (e : Expr) (is : List Nat) (g : DGx) : Prop := ∃ t, PG X e t ∧ ∀ b, RefG X.K (MGx X b) is t g
def DGs (X : Cx) (es : List Expr) (is : List Nat) (g : List D → En → Option En) : Prop := ∃ t, PGs X es t ∧ ∀ b, RefGs X.K (MGx X b) is t g
theorem wipe_set {σ : L2.St} {i : Nat} {x : Option V} : ∀ {us : List Nat}, i ∈ us → wipe (σ.set i x) us = wipe σ us
  | [], h => by simp at h
  | u :: us, h => by
    show (wipe (σ.set i x) us).set u none = (wipe σ us).set u none
    by_cases e : i ∈ us
    · rw [wipe_set e]
    · have eu : i = u := by
        rcases List.mem_cons.mp h with h | h
        · exact h
        · exact absurd h e
      subst eu
      have : ∀ us : List Nat, i ∉ us → wipe (σ.set i x) us = (wipe σ us).set i x := by
        intro us
        induction us with
        | nil => intro _; rfl
        | cons v us ih =>
          intro hv
          have h1 : i ≠ v := fun q => hv (by simp [q])
          have h2 : i ∉ us := fun q => hv (by simp [q])
          show (wipe (σ.set i x) us).set v none = ((wipe σ us).set v none).set i x
          rw [ih h2, List.set_comm _ _ h1]
      rw [this us e, List.set_set]
@[simp] def gN (i : Nat) : DGx := fun d ρ => some (ρ.set i (.val d))
@[simp] def gsNil : List D → En → Option En := fun ds ρ => match ds with
  | [] => some ρ
  | _ => none
@[simp] def gsCons (g : DGx) (h : List D → En → Option En) : List D → En → Option En := fun ds ρ => match ds with
  | d :: r => match g d ρ with
    | some ρ => h r ρ
    | none => none
  | [] => none
@[simp] def gT (h : List D → En → Option En) : DGx := fun d ρ => match d with
  | .tup ds => h ds ρ
  | _ => none
section
variable {K : PySem.W.Frag} {mg : MG} {W : WB}
theorem refG_name (i : Nat) : RefG K mg [i] (gName i) (gN i) := fun w v d ρ' Q s r e k => by
  cases e
  exact k _ (fun us h => wipe_set (h i (by simp))) (Aft.setVal s r)
theorem refGs_nil : RefGs K mg [] gNil gsNil := fun w vs ds ρ' Q s r e k => by
  cases r with
  | nil => cases e; exact ⟨rfl, k _ (fun _ _ => rfl) (Aft.refl s)⟩
  | cons r rs => cases e
theorem refGs_cons {is js : List Nat} {t : TG} {u : TGs} {g : DGx} {h : List D → En → Option En} (ht : RefG K mg is t g) (hu : RefGs K mg js u h) : RefGs K mg (is ++ js) (gCons t u) (gsCons g h) := fun w vs ds ρ' Q s r e k => by
  cases r with
  | nil => cases e
  | cons r rs =>
    rename_i v d vs ds
    unfold gsCons at e
    simp only at e
    split at e
    · rename_i ρ1 e1
      refine ⟨v, vs, rfl, ht w v d ρ1 _ s r e1 fun σ1 w1 A1 => ?_⟩
      exact hu { w with ρ := ρ1, σ := σ1 } vs ds ρ' Q A1.s (rs.mono A1.g A1.i) e fun σ2 w2 A2 => k σ2 (fun us h => (w2 us fun i hi => h i (by simp [hi])).trans (w1 us fun i hi => h i (by simp [hi]))) (A1.trans A2)
    · cases e
theorem refG_tup {is : List Nat} {n : Nat} {u : TGs} {h : List D → En → Option En} (hn : ∀ ds ρ ρ', h ds ρ = some ρ' → ds.length = n) (hu : RefGs K mg is u h) : RefG K mg is (gTup K n u) (gT h) := fun w v d ρ' Q s r e k => by
  unfold gT at e
  split at e
  · cases r with
    | tup hs hl rs =>
      exact ⟨_, _, rfl, SqT.mono s.sub hs, by rw [rs.len]; exact hn _ _ _ e, hu w _ _ ρ' Q s rs e k⟩
  · cases e
end
section
variable {X : Cx} {W : WB} {e tg : Expr} {es : List Expr} {f : DEx} {g : DGx} {h : List D → En → Option En} {pos : Pos}
theorem dg_name {i : Nat} {x : Str} (hN : X.N.Nodup) (hi : X.N[i]? = some x) (hx : Loc X.env.scope x) (hf : X.fn x = true ∨ X.env.scope.names.lookup x = some .local := by first | exact .inl rfl | exact .inr rfl | assumption) : DG X (.Name x pos) [i] (gN i) := ⟨_, pg_name hN hi hx hf, fun _ => refG_name i⟩
@[simp] def setD (f : DEx) (g : DGx) (ρ0 : En) (st0 : Store) : Fl := thenF f (fun d ρ st => match g d ρ with
  | some ρ => .nx ρ st
  | none => .bad) ρ0 st0
theorem refS_set {K : PySem.W.Frag} {mg : MG} {t : TE} {u : TG} {is : List Nat} (ht : RefE K mg W t f) (hu : RefG K mg is u g) : RefS K mg W (tAsg t u) (setD f g) := fun w E s q =>
  ht.bindF s q fun w1 v d s1 e1 a1 r1 q1 => by
    show u v w.σ w1.H E.nx
    cases z : g d w1.ρ with
    | none => simp only [z] at q1; exact q1.elim
    | some ρ' =>
      simp only [z] at q1
      rw [← e1]
      exact hu w1 v d ρ' _ s1 r1 z fun σ' _ A => q1 { w1 with ρ := ρ', σ := σ' } rfl rfl A
theorem ds_set {i : Nat} {x : Str} {pos' : Pos} (hN : X.N.Nodup) (hi : X.N[i]? = some x) (hx : Loc X.env.scope x) (he : DE X W e f) (hs : swapsWith e (some (.Name x pos')) pos.line X.env = pure false := by rfl) (hf : X.fn x = true ∨ X.env.scope.names.lookup x = some .local := by first | exact .inl rfl | exact .inr rfl | assumption) :
    DS X W (.Assign [.Name x pos'] e pos) (setD f (gN i)) := let ⟨_, p, r⟩ := he; ⟨_, ps_set hN hi hx p hs hf, refS_set r (refG_name i)⟩
end
theorem gsNil_len (ds : List D) (ρ ρ' : En) (h : gsNil ds ρ = some ρ') : ds.length = 0 := by
  cases ds with
  | nil => rfl
  | cons d ds => cases h
theorem gsCons_len {g : DGx} {h : List D → En → Option En} {n : Nat} (hn : ∀ ds ρ ρ', h ds ρ = some ρ' → ds.length = n) (ds : List D) (ρ ρ' : En) (e : gsCons g h ds ρ = some ρ') : ds.length = n + 1 := by
  unfold gsCons at e
  split at e
  · split at e
    · simp [hn _ _ _ e]
    · cases e
  · cases e
def DGn (X : Cx) (es : List Expr) (is : List Nat) (h : List D → En → Option En) : Prop := DGs X es is h ∧ ∀ ds ρ ρ', h ds ρ = some ρ' → ds.length = es.length
section
variable {X : Cx} {W : WB} {e tg iter c : Expr} {es : List Expr} {f : DEx} {g : DGx} {h : List D → En → Option En} {pos : Pos}
theorem dgs_nil : DGn X [] [] gsNil := ⟨⟨_, pgs_nil, fun _ => refGs_nil⟩, gsNil_len⟩
theorem dgs_cons {is js : List Nat} (h1 : DG X e is g) (h2 : DGn X es js h) (hs : (assignEach (e :: es) X.env).map (·.2) = assign e X.env :: (assignEach es X.env).map (·.2) := by rfl) : DGn X (e :: es) (is ++ js) (gsCons g h) :=
  let ⟨_, p, r⟩ := h1; let ⟨⟨_, p', r'⟩, l⟩ := h2; ⟨⟨_, pgs_cons p p' hs, fun b => refGs_cons (r b) (r' b)⟩, gsCons_len l⟩
theorem dg_tup {is : List Nat} {k : Nat} (hc : X.calm = true) (h1 : DGn X es is h) (hn : (assignEach es X.env).length = es.length := by rfl) (hst : (assignEach es X.env).findIdx? (·.1) = none := by rfl) : DG X (.Tuple es k pos) is (gT h) :=
  let ⟨⟨_, p, r⟩, l⟩ := h1; ⟨_, pg_tup hc p hn hst, fun b => refG_tup l (r b)⟩
end
def forD (g : DGx) (b : DSx) : List D → DSx
  | [] => fun ρ st => .nx ρ st
  | d :: ds => fun ρ st => match g d ρ with
    | none => .bad
    | some ρ => match b ρ st with
      | .nx ρ st => forD g b ds ρ st
      | .ct ρ st => forD g b ds ρ st
      | .bk ρ st => .nx ρ st
      | r => r
abbrev Gd := Option (Nat × List D)
def okG : Gd → Store → Prop
  | none, _ => True
  | some (l, ds), st => st[l]? = some (.lst ds)
@[simp] theorem okG_none (st : Store) : okG none st = True := rfl
@[simp] theorem okG_some (l : Nat) (ds : List D) (st : Store) : okG (some (l, ds)) st = (st[l]? = some (.lst ds)) := rfl
@[simp] def D.iter : D → Option (List D × Gd)
  | .lst ds => some (ds, none)
  | .tup [.lst ds, .ref l, .lst e] => some (ds, some (l, e))
  | _ => none
open Classical in
noncomputable def chkS (gd : Gd) (b : DSx) (ρ : En) (st : Store) : Fl := match b ρ st with
  | .nx ρ st => if okG gd st then .nx ρ st else .bad
  | .ct ρ st => if okG gd st then .ct ρ st else .bad
  | r => r
@[simp] theorem chkS_none (b : DSx) : chkS none b = b := by
  funext ρ st
  unfold chkS
  cases b ρ st <;> simp
theorem chkS_some {l : Nat} {ds : List D} {b : DSx} {ρ ρ' : En} {st st' : Store} (h : b ρ st = .nx ρ' st') (k : st'[l]? = some (.lst ds)) : chkS (some (l, ds)) b ρ st = .nx ρ' st' := by simp [chkS, h, k]
@[simp] noncomputable def forE (f : DEx) (g : DGx) (b : DSx) (ρ0 : En) (st0 : Store) : Fl := thenF f (fun d ρ st => match d.iter with
  | some (ds, gd) => forD g (chkS gd b) ds ρ st
  | none => .bad) ρ0 st0
structure Frz (K : PySem.W.Frag) (mg : MG) (w w' : Ws) : Prop where
  s : Sts K mg w'
  g : Same w.G w'.G
  i : LeI w.ι w'.ι
theorem Aft.fz {K : PySem.W.Frag} {mg : MG} {w w' : Ws} (A : Aft K mg w w') : Frz K mg w w' := ⟨A.s, A.g, A.i⟩
theorem Frz.trans {K : PySem.W.Frag} {mg : MG} {w w' w'' : Ws} (A : Frz K mg w w') (B : Frz K mg w' w'') : Frz K mg w w'' := ⟨B.s, A.g.trans B.g, A.i.trans B.i⟩
def IterOk (K : PySem.W.Frag) (mg : MG) (w : Ws) (J : It) (ds : List D) (gd : Gd) : Prop := ∃ (G0 : Hp → Prop) (Y : Nat → Hp → V → Hp → Prop), Walk J ds.length G0 Y ∧ (∀ w2, Frz K mg w w2 → okG gd w2.st → G0 w2.H) ∧
  ∀ (i : Nat) (w2 : Ws) (x : V) (H' : Hp) (d : D), ds[i]? = some d → Frz K mg w w2 → okG gd w2.st → Y i w2.H x H' → ∃ G', Aft K mg w2 { w2 with G := G', H := H' } ∧ Rep K mg G' w2.ι x d
def OkI (K : PySem.W.Frag) (mg : MG) (W : WB) (w : Ws) (Q : It → Hp → Prop) : R → Prop
  | .ok d ρ st => match d.iter with
    | some (ds, gd) => ∀ (w' : Ws) (J : It), w'.ρ = ρ → w'.st = st → w'.σ = w.σ → Aft K mg w w' → IterOk K mg w' J ds gd → okG gd st → Q J w'.H
    | none => False
  | .exc c ρ st => ∀ (w' : Ws) (cls : Value) (dx : Option Addr), w'.ρ = ρ → w'.st = st → w'.σ = w.σ → Aft K mg w w' → ExcAt K mg w' c cls dx → W cls dx w'.σ w'.H
  | .bad => False
def RefI (K : PySem.W.Frag) (mg : MG) (W : WB) (t : TI) (f : DEx) : Prop :=
  ∀ (w : Ws) (Q : It → Hp → Prop), Sts K mg w → OkI K mg W w Q (f w.ρ w.st) → t w.σ w.H Q
def DI (X : Cx) (W : WB) (tg iter : Expr) (f : DEx) : Prop := ∃ t, PI X tg iter t ∧ RefI X.K (MGx X W.b) W t f
section
variable {K : PySem.W.Frag} {mg : MG} {W : WB}
theorem RefI.bindF {t : TI} {f : DEx} (h : RefI K mg W t f) {w : Ws} {E : Ends} {Q1 : It → Hp → Prop} {r : D → En → Store → Fl} (s : Sts K mg w) (hd : ∀ d ρ st, d.iter = none → r d ρ st = .bad)
    (hP : OkF K mg W w E (match f w.ρ w.st with | .ok d ρ st => r d ρ st | .exc c ρ st => .exc c ρ st | .bad => .bad))
    (k : ∀ (w1 : Ws) (J : It) (d : D) (ds : List D) (gd : Gd), Sts K mg w1 → w1.σ = w.σ → Aft K mg w w1 → d.iter = some (ds, gd) → IterOk K mg w1 J ds gd → okG gd w1.st → OkF K mg W w1 E (r d w1.ρ w1.st) → Q1 J w1.H) : t w.σ w.H Q1 := by
  refine h w Q1 s ?_
  cases e : f w.ρ w.st with
  | ok d ρ st =>
    rw [e] at hP
    cases ei : d.iter with
    | none =>
      simp only at hP
      rw [hd _ ρ st ei] at hP
      exact hP.elim
    | some dg =>
      obtain ⟨ds, gd⟩ := dg
      simp only [OkI, ei]
      intro w' J h1 h2 h3 h4 h5 h6
      subst h1; subst h2
      exact k w' J d ds gd h4.s h3 h4 ei h5 h6 (OkF.aft hP h4)
  | exc c ρ st =>
    rw [e] at hP
    exact fun w' cls dx h1 h2 _ h4 h5 => hP w' cls dx h1 h2 h4 h5
  | bad => rw [e] at hP; exact hP
theorem refS_for {wi : TI} {u : TG} {tb : TS} {f : DEx} {g : DGx} {b : DSx} {is : List Nat} (hi : RefI K mg W wi f) (hg : RefG K mg is u g) (hb : RefS K mg W tb b) : RefS K mg W (tFor wi u tb) (forE f g b) := fun w E s q => by
  refine hi.bindF s (fun d ρ st n => by simp only [n]) q fun w1 J d0 ds gd s1 e1 a1 ei it og q1 => ?_
  simp only [ei] at q1
  obtain ⟨G0, Y, wk, hG, hY⟩ := it
  refine for_it wk (fun i σ H => ∃ w2, Aft K mg w1 w2 ∧ σ = w2.σ ∧ H = w2.H ∧ okG gd w2.st ∧ OkF K mg W w2 E (forD g (chkS gd b) (ds.drop i) w2.ρ w2.st)) ⟨w1, Aft.refl s1, e1.symm, rfl, og, q1⟩ ?_ ?_ ?_
  · rintro i σ H _ ⟨w2, A, rfl, rfl, og2, _⟩
    exact hG w2 A.fz og2
  · rintro i x σ H H' hl ⟨w2, A, rfl, rfl, og2, q2⟩ y
    have hd : ds[i]? = some ds[i] := List.getElem?_eq_getElem hl
    obtain ⟨G', A3, r3⟩ := hY i w2 x H' _ hd A.fz og2 y
    have ed : ds.drop i = ds[i] :: ds.drop (i + 1) := List.drop_eq_getElem_cons hl
    rw [ed] at q2
    unfold forD at q2
    cases z : g ds[i] w2.ρ with
    | none => simp only [z] at q2; exact q2.elim
    | some ρ' =>
      simp only [z] at q2
      refine hg { w2 with G := G', H := H' } x _ ρ' _ A3.s r3 z fun σ' _ A4 => ?_
      have A5 := A3.trans A4
      refine hb { w2 with ρ := ρ', σ := σ', G := G', H := H' } _ A5.s ?_
      show OkF K mg W _ _ (b ρ' w2.st)
      cases e : b ρ' w2.st with
      | nx ρ2 st2 =>
        by_cases og3 : okG gd st2
        · simp only [chkS, e, if_pos og3] at q2
          intro w6 h1 h2 A6
          subst h1; subst h2
          exact ⟨w6, A.trans (A5.trans A6), rfl, rfl, og3, OkF.aft q2 (A5.trans A6)⟩
        · simp only [chkS, e, if_neg og3] at q2; exact q2.elim
      | ct ρ2 st2 =>
        by_cases og3 : okG gd st2
        · simp only [chkS, e, if_pos og3] at q2
          intro w6 h1 h2 A6
          subst h1; subst h2
          exact ⟨w6, A.trans (A5.trans A6), rfl, rfl, og3, OkF.aft q2 (A5.trans A6)⟩
        · simp only [chkS, e, if_neg og3] at q2; exact q2.elim
      | bk ρ2 st2 =>
        simp only [chkS, e] at q2
        intro w6 h1 h2 A6
        exact q2 w6 h1 h2 (A5.trans A6)
      | rt d ρ2 st2 =>
        simp only [chkS, e] at q2
        intro w6 v h1 h2 A6 r6
        exact q2 w6 v h1 h2 (A5.trans A6) r6
      | exc c ρ2 st2 =>
        simp only [chkS, e] at q2
        intro w6 cls dx h1 h2 A6 r6
        exact q2 w6 cls dx h1 h2 (A5.trans A6) r6
      | bad => simp only [chkS, e] at q2; exact q2.elim
  · rintro σ H ⟨w2, A, rfl, rfl, _, q2⟩
    rw [List.drop_length] at q2
    exact q2 w2 rfl rfl (Aft.refl A.s)
end
section
variable {X : Cx} {W : WB} {tg iter c : Expr} {body : List Stmt} {f : DEx} {g : DGx} {b : DSx} {pos : Pos}
theorem ds_for (hp : PassesOwn (model X.prog X.w) X.A X.env X.xe) (hc : X.calm = true) {is : List Nat} (hi : DI X W tg iter f) (hg : DG X tg is g) (hb : DSs X W body b) (hs : ∀ x, foldedSetIterable iter X.env x = pure x := by intro _; rfl) :
    DS X W (.For tg iter body [] pos) (forE f g b) := let ⟨_, p, r⟩ := hi; let ⟨_, p1, r1⟩ := hg; let ⟨_, p2, r2⟩ := hb; ⟨_, ps_for hp hc p p1 p2 hs, refS_for r (r1 _) r2⟩
end
def runW (c : DEx) (b : DSx) : Nat → DSx
  | 0 => fun _ _ => .bad
  | n + 1 => fun ρ st => match c ρ st with
    | .ok (.bl true) ρ st => (match b ρ st with
      | .nx ρ st => runW c b n ρ st
      | .ct ρ st => runW c b n ρ st
      | .bk ρ st => .nx ρ st
      | r => r)
    | .ok (.bl false) ρ st => .nx ρ st
    | .ok _ _ _ => .bad
    | .exc x ρ st => .exc x ρ st
    | .bad => .bad
open Classical in
noncomputable def whileD (c : DEx) (b : DSx) (ρ : En) (st : Store) : Fl := if h : ∃ n, runW c b n ρ st ≠ .bad then runW c b (choose h) ρ st else .bad
section
variable {K : PySem.W.Frag} {mg : MG} {W : WB}
theorem refS_while {tc : TT} {tb : TS} {c : DEx} {b : DSx} (hc : RefT K mg W tc c) (hb : RefS K mg W tb b) : RefS K mg W (tWhile tc tb) (whileD c b) := fun w E s q => by
  have : ∃ n, OkF K mg W w E (runW c b n w.ρ w.st) := by
    unfold whileD at q
    split at q
    · exact ⟨_, q⟩
    · exact q.elim
  obtain ⟨n, q⟩ := this
  refine ⟨fun m σ H => ∃ w2, Aft K mg w w2 ∧ σ = w2.σ ∧ H = w2.H ∧ OkF K mg W w2 E (runW c b m w2.ρ w2.st), ⟨n, w, Aft.refl s, rfl, rfl, q⟩, ?_⟩
  rintro m σ H ⟨w2, A, rfl, rfl, q2⟩
  cases m with
  | zero => exact q2.elim
  | succ m =>
    unfold runW at q2
    refine hc w2 _ A.s ?_
    cases e : c w2.ρ w2.st with
    | ok d ρ st =>
      rw [e] at q2
      cases d with
      | bl t =>
        intro w3 h1 h2 h3 A3
        subst h1; subst h2
        cases t with
        | false =>
          refine iteF ?_
          have := q2 w3 rfl rfl A3
          rw [h3] at this; exact this
        | true =>
          refine iteT ⟨fun σ' H' => ∃ w4, Aft K mg w w4 ∧ σ' = w4.σ ∧ H' = w4.H ∧ OkF K mg W w4 E (runW c b m w4.ρ w4.st), fun σ' H' h => ⟨m, Nat.lt_succ_self m, h⟩, ?_⟩
          rw [← h3]
          refine hb w3 _ A3.s ?_
          simp only at q2
          cases e4 : b w3.ρ w3.st with
          | nx ρ4 st4 =>
            rw [e4] at q2
            intro w4 h1 h2 A4
            subst h1; subst h2
            exact ⟨w4, A.trans (A3.trans A4), rfl, rfl, OkF.aft q2 (A3.trans A4)⟩
          | ct ρ4 st4 =>
            rw [e4] at q2
            intro w4 h1 h2 A4
            subst h1; subst h2
            exact ⟨w4, A.trans (A3.trans A4), rfl, rfl, OkF.aft q2 (A3.trans A4)⟩
          | bk ρ4 st4 =>
            rw [e4] at q2
            intro w4 h1 h2 A4
            exact q2 w4 h1 h2 (A3.trans A4)
          | rt d ρ4 st4 =>
            rw [e4] at q2
            intro w4 v h1 h2 A4 r4
            exact q2 w4 v h1 h2 (A3.trans A4) r4
          | exc x ρ4 st4 =>
            rw [e4] at q2
            intro w4 cls dx h1 h2 A4 r4
            exact q2 w4 cls dx h1 h2 (A3.trans A4) r4
          | bad => rw [e4] at q2; exact q2.elim
      | _ => exact q2.elim
    | exc x ρ st =>
      rw [e] at q2
      exact fun w' cls dx h1 h2 _ h4 h5 => q2 w' cls dx h1 h2 h4 h5
    | bad => rw [e] at q2; exact q2
end
theorem runW_more {c : DEx} {b : DSx} : ∀ {n : Nat} {ρ : En} {st : Store}, runW c b n ρ st ≠ .bad → ∀ m, n ≤ m → runW c b m ρ st = runW c b n ρ st
  | 0, _, _, h, _, _ => absurd rfl h
  | n + 1, ρ, st, h, 0, hm => absurd hm (by omega)
  | n + 1, ρ, st, h, m + 1, hm => by
    unfold runW at h ⊢
    cases e : c ρ st with
    | ok d ρ' st' =>
      rw [e] at h
      cases d with
      | bl t =>
        cases t with
        | true =>
          simp only at h ⊢
          cases e4 : b ρ' st' with
          | nx ρ4 st4 => rw [e4] at h; exact runW_more h m (by omega)
          | ct ρ4 st4 => rw [e4] at h; exact runW_more h m (by omega)
          | bk ρ4 st4 => rfl
          | rt d ρ4 st4 => rfl
          | exc x ρ4 st4 => rfl
          | bad => rfl
        | false => rfl
      | _ => rfl
    | exc x ρ' st' => rfl
    | bad => rfl
theorem whileD_of {c : DEx} {b : DSx} {n : Nat} {ρ : En} {st : Store} {r : Fl} (h : runW c b n ρ st = r) (hr : r ≠ .bad) : whileD c b ρ st = r := by
  have hx : ∃ n, runW c b n ρ st ≠ .bad := ⟨n, by rw [h]; exact hr⟩
  unfold whileD
  rw [dif_pos hx]
  have h1 := Classical.choose_spec hx
  by_cases q : Classical.choose hx ≤ n
  · rw [← runW_more h1 n q, h]
  · rw [runW_more (by rw [h]; exact hr) _ (by omega : n ≤ Classical.choose hx), h]
section
variable {X : Cx} {W : WB} {c : Expr} {body : List Stmt} {f : DEx} {b : DSx} {pos : Pos}
theorem ds_while (hp : PassesOwn (model X.prog X.w) X.A X.env X.xe) (hc : DT X W c f) (hb : DSs X W body b) : DS X W (.While c body [] pos) (whileD f b) :=
  let ⟨_, p, r⟩ := hc; let ⟨_, p2, r2⟩ := hb; ⟨_, ps_while hp p p2, refS_while r r2⟩
end
end DL
namespace DL
open PySem L2
def tOf (K : PySem.W.Frag) (mg : MG) (W : WB) (f : DEx) : TE := fun σ H Q => ∃ w, w.σ = σ ∧ w.H = H ∧ Sts K mg w ∧ OkR K mg W w Q (f w.ρ w.st)
def ttOf (K : PySem.W.Frag) (mg : MG) (W : WB) (f : DEx) : TT := fun σ H Q => ∃ w, w.σ = σ ∧ w.H = H ∧ Sts K mg w ∧ OkT K mg W w Q (f w.ρ w.st)
def gOf (K : PySem.W.Frag) (mg : MG) (is : List Nat) (g : DGx) : TG := fun v σ H Q => ∃ w d ρ', w.σ = σ ∧ w.H = H ∧ Sts K mg w ∧ Rep K mg w.G w.ι v d ∧ g d w.ρ = some ρ' ∧
  ∀ σ', (∀ us : List Nat, (∀ i ∈ is, i ∈ us) → wipe σ' us = wipe w.σ us) → Aft K mg w { w with ρ := ρ', σ := σ' } → Q σ' w.H
section
variable {X : Cx} {W : WB} {e : Expr} {f : DEx} {g : DGx} {is : List Nat}
theorem DE.pe (h : DE X W e f) : PE X e (tOf X.K (MGx X W.b) W f) := by
  obtain ⟨t, p, r⟩ := h
  refine ⟨fun pins s σ H Q I q => ?_⟩
  obtain ⟨w, rfl, rfl, sw, ok⟩ := q
  exact p.run pins s _ _ Q I (r w Q sw ok)
theorem DT.pt (h : DT X W e f) : PT X e (ttOf X.K (MGx X W.b) W f) := by
  obtain ⟨t, p, r⟩ := h
  refine ⟨fun pins s σ H Q I q => ?_⟩
  obtain ⟨w, rfl, rfl, sw, ok⟩ := q
  exact p.run pins s _ _ Q I (r w Q sw ok)
theorem DG.pg (b : Low) (h : DG X e is g) : PG X e (gOf X.K (MGx X b) is g) := by
  obtain ⟨t, p, r⟩ := h
  refine ⟨fun pins s σ H v u Q I rv q => ?_⟩
  obtain ⟨w, d, ρ', rfl, rfl, sw, rp, eg, ok⟩ := q
  exact p.run pins s _ _ v u Q I rv (r b w v d ρ' Q sw rp eg ok)
end
def WF (b : Low) : WB := ⟨fun _ _ _ _ => False, b⟩
def DTs (X : Cx) (b : Low) (ifs : List Expr) (f : DEx) : Prop := ∃ t, PTs X ifs t ∧ RefT X.K (MGx X b) (WF b) t f
theorem DTs.pts {X : Cx} {b : Low} {ifs : List Expr} {f : DEx} (h : DTs X b ifs f) : PTs X ifs (ttOf X.K (MGx X b) (WF b) f) := by
  obtain ⟨t, p, r⟩ := h
  refine ⟨fun pins s σ H Q I q => ?_⟩
  obtain ⟨w, rfl, rfl, sw, ok⟩ := q
  exact p.run pins s _ _ Q I (r w Q sw ok)
def yesD (ρ : En) (st : Store) : R := .ok (.bl true) ρ st
@[simp] theorem yesD_s (ρ : En) (st : Store) : yesD ρ st = .ok (.bl true) ρ st := rfl
theorem dts_nil {X : Cx} {b : Low} : DTs X b [] yesD := ⟨_, pts_nil, fun w Q s q => q w rfl rfl rfl (Aft.refl s)⟩
theorem dts_one {X : Cx} {b : Low} {c : Expr} {f : DEx} (h : DT X (WF b) c f) : DTs X b [c] f := let ⟨_, p, r⟩ := h; ⟨_, pts_one p, r⟩
@[simp] def wipeR (ρ : En) : List Nat → En
  | [] => ρ
  | v :: vs => (wipeR ρ vs).set v .no
def lcGo (g : DGx) (c f : DEx) (vs : List Nat) : List D → List D → En → Store → R
  | [], acc => fun ρ st => .ok (.lst acc) ρ st
  | d :: ds, acc => fun ρ st => match g d ρ with
    | none => .bad
    | some ρ => match c ρ st with
      | .ok (.bl true) ρ st => (match f ρ st with
        | .ok y ρ st => lcGo g c f vs ds (acc ++ [y]) (wipeR ρ vs) st
        | _ => .bad)
      | .ok (.bl false) ρ st => lcGo g c f vs ds acc (wipeR ρ vs) st
      | _ => .bad
open Classical in
noncomputable def chkE (gd : Gd) (f : DEx) (ρ : En) (st : Store) : R := match f ρ st with
  | .ok d ρ st => if okG gd st then .ok d ρ st else .bad
  | r => r
@[simp] theorem chkE_none (f : DEx) : chkE none f = f := by
  funext ρ st
  unfold chkE
  cases f ρ st <;> simp
@[simp] noncomputable def lcD (fi : DEx) (g : DGx) (c f : DEx) (vs : List Nat) (ρ : En) (st : Store) : R := (fi ρ st).bind fun d ρ st => match d.iter with
  | some (ds, gd) => if ds.length ≤ sizeLine then lcGo g (chkE gd c) (chkE gd f) vs ds [] (wipeR ρ vs) st else .bad
  | none => .bad
section
variable {K : PySem.W.Frag} {mg : MG} {W : WB}
theorem Aft.wiped {w : Ws} (s : Sts K mg w) : ∀ vs : List Nat, Aft K mg w { w with ρ := wipeR w.ρ vs, σ := wipe w.σ vs }
  | [] => Aft.refl s
  | v :: vs => (Aft.wiped s vs).trans (Aft.setNo (i := v) (x := none) (Aft.wiped s vs).s)
theorem wipeR_get (ρ : En) {i : Nat} {s : Sl} : ∀ {vs : List Nat}, (wipeR ρ vs)[i]? = some s → s ≠ .no → i ∉ vs ∧ ρ[i]? = some s
  | [], h, _ => ⟨by simp, h⟩
  | v :: vs, h, n => by
    have h' : ((wipeR ρ vs).set v .no)[i]? = some s := h
    rcases getElem?_set_ite h' with ⟨_, e, _⟩ | ⟨ne, e⟩
    · exact absurd e n
    · obtain ⟨h1, h2⟩ := wipeR_get ρ e n
      exact ⟨by simp [ne, h1], h2⟩
theorem wipe_get_ne (σ : L2.St) {i : Nat} : ∀ {vs : List Nat}, i ∉ vs → (wipe σ vs)[i]? = σ[i]?
  | [], _ => rfl
  | v :: vs, h => by
    show ((wipe σ vs).set v none)[i]? = σ[i]?
    rw [List.getElem?_set_ne (fun e => h (by simp [e])), wipe_get_ne σ (fun q => h (by simp [q]))]
theorem Aft.unwipe {w0 w : Ws} {σ : L2.St} {ρ : En} {vs : List Nat} (A : Aft K mg w0 w) (h : w.σ = wipe σ vs) (hρ : w.ρ = wipeR ρ vs) : Aft K mg w0 { w with σ := σ } := by
  have sl : ∀ (i : Nat) s, w.ρ[i]? = some s → s ≠ .no → w.σ[i]? = σ[i]? := fun i s e n => by
    rw [hρ] at e
    rw [h, wipe_get_ne σ (wipeR_get ρ e n).1]
  have ow : ∀ i a, OwnS { w with σ := σ } i a → OwnS w i a := fun i a ⟨ds, h1, h2⟩ => ⟨ds, h1, by rw [sl i _ h1 (by simp)]; exact h2⟩
  have s := A.s
  refine ⟨⟨s.lowG, s.lowI, s.sub, by
      have := s.ln
      rw [h, wipe_length] at this
      exact this, s.len, s.cel, s.inj, fun i x e => ?_, fun i l a h1 h2 => s.sep i l a (ow i a h1) h2, fun i j a h1 h2 => s.dis i j a (ow i a h1) (ow j a h2)⟩, A.g, A.i, A.kp, fun a q => A.nw a ?_, A.gn, A.al⟩
  · have h1 := s.slo i x e
    cases x with
    | no => trivial
    | val d => rw [sl i _ e (by simp)] at h1; exact h1
    | ml ds => rw [sl i _ e (by simp)] at h1; exact h1
    | fn => rw [sl i _ e (by simp)] at h1; exact h1
    | exv c fs => rw [sl i _ e (by simp)] at h1; exact h1
  · rcases q with q | ⟨i, q⟩
    · exact .inl q
    · exact .inr ⟨i, ow i a q⟩
theorem Aft.looseUpd {w0 w : Ws} (A : Aft K mg w0 w) {D : Addr} {o : HO} (hf : w0.H D = none) (hl : Loose w D) : Aft K mg w0 { w with H := upd w.H D o } where
  s := A.s.heap (G' := w.G) (H' := upd w.H D o) (Same.refl _) (fun b u e => by rw [upd_ne (fun q => by rw [q, hl.1] at e; cases e)]; exact A.s.sub _ _ e) fun a m => ⟨A.s.mtG m, fun u e => by rw [upd_ne (fun q : a = D => hl.2 (q ▸ m))]; exact e⟩
  g := A.g
  i := A.i
  kp := fun a u h n => by
    show upd w.H D o a = some u
    rw [upd_ne (fun q => by rw [q, hf] at h; cases h)]
    exact A.kp a u h n
  nw := A.nw
  gn := A.gn
  al := fun a h => by
    have h' : upd w.H D o a = none := h
    by_cases e : a = D
    · rw [e]; exact hf
    · rw [upd_ne e] at h'; exact A.al a h'
theorem Aft.still {w w' : Ws} (A : Aft K mg w w') {D : Addr} {o : HO} (hl : Loose w D) (h : w.H D = some o) : Loose w' D ∧ w'.H D = some o := by
  refine ⟨⟨?_, fun m => ?_⟩, A.kp D o h hl.2⟩
  · cases e : w'.G D with
    | none => rfl
    | some u =>
      rcases A.gn D (by rw [e]; simp) with q | q | q
      · exact absurd hl.1 q
      · exact absurd q hl.2
      · rw [h] at q; cases q
  · rcases A.nw D m with q | q
    · exact hl.2 q
    · rw [h] at q; cases q
theorem lcGo_isL {g : DGx} {c f : DEx} {vs : List Nat} : ∀ (ds acc : List D) (ρ : En) (st : Store) (d : D) (ρ' : En) (st' : Store), lcGo g c f vs ds acc ρ st = .ok d ρ' st' → ∃ es, d = .lst es
  | [], acc, ρ, st, d, ρ', st', h => by cases h; exact ⟨acc, rfl⟩
  | x :: ds, acc, ρ, st, d, ρ', st', h => by
    unfold lcGo at h
    split at h
    · cases h
    · split at h
      · split at h
        · exact lcGo_isL ds _ _ _ _ _ _ h
        · cases h
      · exact lcGo_isL ds _ _ _ _ _ _ h
      · cases h
theorem lcD_isL {fi : DEx} {g : DGx} {c f : DEx} {vs : List Nat} : IsL (lcD fi g c f vs) := fun ρ st d ρ' st' h => by
  unfold lcD at h
  cases e : fi ρ st with
  | ok d1 ρ1 st1 =>
    rw [e] at h
    simp only [R.bind] at h
    split at h
    · split at h
      · exact lcGo_isL _ _ _ _ _ _ _ h
      · cases h
    · cases h
  | exc x ρ1 st1 => rw [e] at h; cases h
  | bad => rw [e] at h; cases h
theorem RefI.bindO {t : TI} {f : DEx} (h : RefI K mg W t f) {w : Ws} {Q : VK} {Q1 : It → Hp → Prop} {r : D → En → Store → R} (s : Sts K mg w) (hd : ∀ d ρ st, d.iter = none → r d ρ st = .bad)
    (hP : OkO K mg W w Q ((f w.ρ w.st).bind r))
    (k : ∀ (w1 : Ws) (J : It) (d : D) (ds : List D) (gd : Gd), w1.σ = w.σ → Aft K mg w w1 → d.iter = some (ds, gd) → IterOk K mg w1 J ds gd → okG gd w1.st → OkO K mg W w Q (r d w1.ρ w1.st) → Q1 J w1.H) : t w.σ w.H Q1 := by
  refine h w Q1 s ?_
  cases e : f w.ρ w.st with
  | ok d ρ st =>
    rw [e] at hP
    cases ei : d.iter with
    | none =>
      simp only [R.bind] at hP
      rw [hd _ ρ st ei] at hP
      exact hP.elim
    | some dg =>
      obtain ⟨ds, gd⟩ := dg
      simp only [OkI, ei]
      intro w' J h1 h2 h3 h4 h5 h6
      subst h1; subst h2
      exact k w' J d ds gd h3 h4 ei h5 h6 hP
  | exc c ρ st =>
    rw [e] at hP
    exact hP
  | bad => rw [e] at hP; exact hP
theorem refO_lc {wi : TI} {is vs : List Nat} {fi : DEx} {g : DGx} {c f : DEx} (hi : RefI K mg W wi fi) (hsub : ∀ i ∈ is, i ∈ vs) :
    RefO K mg W (tLc wi (gOf K mg is g) (ttOf K mg (WF mg.b) c) (tOf K mg (WF mg.b) f) vs) (lcD fi g c f vs) := fun w Q s q => by
  refine hi.bindO s (fun d ρ st n => by simp only [n]) q fun w1 J d0 ds gd e1 a1 ei it og q1 => ?_
  simp only [ei] at q1
  have hz : ds.length ≤ sizeLine := by
    by_cases h : ds.length ≤ sizeLine
    · exact h
    · simp only [if_neg h] at q1; exact q1.elim
  simp only [if_pos hz] at q1
  obtain ⟨G0, Y, wk, hG, hY⟩ := it
  intro D hD
  have fr : w.H D = none := a1.al D hD
  have A0 := Aft.loose (o := .lst []) a1.s hD
  have L0 := a1.s.looseAt (o := .lst []) hD
  refine lc_it wk (fun i H => ∃ (w2 : Ws) (ρ2 : En) (av : List V) (ad : List DL.D), Aft K mg w1 w2 ∧ w2.σ = wipe w.σ vs ∧ w2.ρ = wipeR ρ2 vs ∧ w2.H = H ∧ Loose w2 D ∧ w2.H D = some (.lst av) ∧ Reps K mg w2.G w2.ι av ad ∧ av.length ≤ i ∧ okG gd w2.st ∧
    OkO K mg W w Q (lcGo g (chkE gd c) (chkE gd f) vs (ds.drop i) ad w2.ρ w2.st)) ?_ ?_ ?_ ?_
  · have A1 := Aft.wiped A0.s vs
    refine ⟨{ w1 with H := upd w1.H D (.lst []), ρ := wipeR w1.ρ vs, σ := wipe w1.σ vs }, w1.ρ, [], [], A0.trans A1, by rw [← e1], rfl, rfl, (A1.still L0 upd_same).1, upd_same, .nil, Nat.le_refl _, og, q1⟩
  · rintro i H _ ⟨w2, _, _, _, A, _, _, rfl, _, _, _, _, og2, _⟩
    exact hG w2 A.fz og2
  · rintro i x H H' hl ⟨w2, ρ2, av, ad, A, hσ, hρ, rfl, hL, hav, hr, hle, og2, q2⟩ y
    have hd : ds[i]? = some ds[i] := List.getElem?_eq_getElem hl
    obtain ⟨G', A3, r3⟩ := hY i w2 x H' _ hd A.fz og2 y
    have ed : ds.drop i = ds[i] :: ds.drop (i + 1) := List.drop_eq_getElem_cons hl
    rw [ed] at q2
    unfold lcGo at q2
    cases z : g ds[i] w2.ρ with
    | none => simp only [z] at q2; exact q2.elim
    | some ρ' =>
      simp only [z] at q2
      refine ⟨{ w2 with G := G', H := H' }, ds[i], ρ', hσ, rfl, A3.s, r3, z, fun σ' hw A4 => ⟨?_, ?_⟩⟩
      · have := hw vs hsub
        have e : ({ w2 with G := G', H := H' } : Ws).σ = wipe w.σ vs := hσ
        rw [this, e]
        have idem : ∀ (σ : L2.St) (us : List Nat), wipe (wipe σ us) us = wipe σ us := by
          intro σ us
          have : ∀ us' : List Nat, (∀ i ∈ us', i ∈ us) → wipe (wipe σ us') us = wipe σ us := by
            intro us'
            induction us' with
            | nil => intro _; rfl
            | cons v us' ih =>
              intro hh
              show wipe ((wipe σ us').set v none) us = _
              rw [wipe_set (hh v (by simp)), ih fun i hi => hh i (by simp [hi])]
          exact this us fun _ h => h
        exact idem _ _
      · have A5 := A3.trans A4
        have A15 := A.trans A5
        refine ⟨{ w2 with ρ := ρ', σ := σ', G := G', H := H' }, rfl, rfl, A5.s, ?_⟩
        have hwσ : wipe σ' vs = wipe w.σ vs := by
          have := hw vs hsub
          have e : ({ w2 with G := G', H := H' } : Ws).σ = wipe w.σ vs := hσ
          rw [this, e]
          have idem : ∀ (σ : L2.St) (us us' : List Nat), (∀ i ∈ us', i ∈ us) → wipe (wipe σ us') us = wipe σ us := by
            intro σ us us'
            induction us' with
            | nil => intro _; rfl
            | cons v us' ih =>
              intro hh
              show wipe ((wipe σ us').set v none) us = _
              rw [wipe_set (hh v (by simp)), ih fun i hi => hh i (by simp [hi])]
          exact idem _ _ _ fun _ h => h
        obtain ⟨L5, h5⟩ := A5.still hL hav
        show OkT K mg (WF mg.b) _ _ (c ρ' w2.st)
        cases ec : c ρ' w2.st with
        | ok d ρ6 st6 =>
          have og6 : okG gd st6 := by
            by_cases h : okG gd st6
            · exact h
            · simp only [chkE, ec, if_neg h] at q2; exact q2.elim
          simp only [chkE, ec, if_pos og6] at q2
          cases d with
          | bl b =>
            intro w6 h1 h2 h3 A6
            subst h1; subst h2
            obtain ⟨L6, h6⟩ := A6.still L5 h5
            cases b with
            | false =>
              refine iteF ?_
              have A7 := Aft.wiped A6.s vs
              exact ⟨{ w6 with ρ := wipeR w6.ρ vs, σ := wipe w6.σ vs }, w6.ρ, av, ad, (A15.trans A6).trans A7, by rw [show w6.σ = σ' from h3]; exact hwσ, rfl, rfl, (A7.still L6 h6).1, h6, hr.mono (A5.g.trans A6.g) (A5.i.trans A6.i), Nat.le_succ_of_le hle, og6, q2⟩
            | true =>
              refine iteT ?_
              refine ⟨w6, h3, rfl, A6.s, ?_⟩
              simp only at q2
              cases ef : f w6.ρ w6.st with
              | ok y' ρ8 st8 =>
                have og8 : okG gd st8 := by
                  by_cases h : okG gd st8
                  · exact h
                  · simp only [ef, if_neg h] at q2; exact q2.elim
                simp only [ef, if_pos og8] at q2
                intro w8 yv h1 h2 h3' A8 r8
                subst h1; subst h2
                obtain ⟨L8, h8⟩ := A8.still L6 h6
                refine ⟨av, h8, ?_, ?_⟩
                · have : i < ds.length := hl
                  omega
                · have A18 := A15.trans (A6.trans A8)
                  have A9 := A18.looseUpd (o := .lst (av ++ [yv])) hD L8
                  have L9 : Loose { w8 with H := upd w8.H D (.lst (av ++ [yv])) } D := L8
                  have A10 := Aft.wiped A9.s vs
                  refine ⟨{ w8 with H := upd w8.H D (.lst (av ++ [yv])), ρ := wipeR w8.ρ vs, σ := wipe w8.σ vs }, w8.ρ, av ++ [yv], ad ++ [y'], A9.trans A10, ?_, rfl, rfl, (A10.still L9 upd_same).1, upd_same, ?_, by simp; omega, og8, q2⟩
                  · show wipe w8.σ vs = _
                    rw [h3', h3]; exact hwσ
                  · exact Reps.append (hr.mono (A5.g.trans (A6.g.trans A8.g)) (A5.i.trans (A6.i.trans A8.i))) (.cons r8 .nil)
              | exc x ρ8 st8 => simp only [ef] at q2; exact q2.elim
              | bad => simp only [ef] at q2; exact q2.elim
          | _ => exact q2.elim
        | exc x ρ6 st6 => simp only [chkE, ec] at q2; exact q2.elim
        | bad => simp only [chkE, ec] at q2; exact q2.elim
  · rintro H ⟨w2, ρ2, av, ad, A, hσ, hρ, rfl, hL, hav, hr, hle, _, q2⟩
    rw [List.drop_length] at q2
    have A2 := A.unwipe hσ hρ
    refine q2 { w2 with σ := w.σ } D av rfl rfl rfl (a1.trans A2) fr ?_ hav (by omega) hr
    refine ⟨hL.1, fun m => hL.2 ?_⟩
    rcases m with m | ⟨i, es, h1, h2⟩
    · exact .inl m
    · refine .inr ⟨i, es, h1, ?_⟩
      have h1' : w2.ρ[i]? = some (.ml es) := h1
      rw [hρ] at h1'
      rw [hσ, wipe_get_ne _ (wipeR_get ρ2 h1' (by simp)).1]
      exact h2
end
end DL
namespace DL
open PySem L2
section
variable {K : PySem.W.Frag} {mg : MG} {W : WB}
theorem RefO.fz {t : TE} {f : DEx} (h : RefO K mg W t f) (hl : IsL f) : RefE K mg W t f := fun w Q s q => by
  refine h w Q s ?_
  cases e : f w.ρ w.st with
  | ok d ρ st =>
    rw [e] at q
    obtain ⟨ds, rfl⟩ := hl _ _ _ _ _ e
    intro w' a vs h1 h2 h3 A fr lo ha hz r
    have A' := A.freeze fr lo ha
    exact q { w' with G := upd w'.G a (.lst vs) } (.ref a) h1 h2 h3 A' (.lst upd_same hz (r.mono (same_upd lo.1) (LeI.refl _)))
  | exc c ρ st => rw [e] at q; exact q
  | bad => rw [e] at q; exact q
theorem OkO.mk {w w1 : Ws} {Q : VK} {ds : List D} {vs : List V} {p : Addr} (A : Aft K mg w w1) (e1 : w1.σ = w.σ) (hp : w1.H p = none) (hz : vs.length ≤ sizeLine) (r : Reps K mg w1.G w1.ι vs ds)
    (q : OkO K mg W w Q (.ok (.lst ds) w1.ρ w1.st)) : Q (.ref p) (upd w1.H p (.lst vs)) :=
  q { w1 with H := upd w1.H p (.lst vs) } p vs rfl rfl e1 (A.trans (Aft.loose A.s hp)) (A.al p hp) (A.s.looseAt hp) upd_same hz r
end
@[simp] def lstD (f : DEx) (ρ : En) (st : Store) : R := (f ρ st).bind fun d ρ st => match d with
  | .tup ds => .ok (.lst ds) ρ st
  | _ => .bad
theorem lstD_isL {f : DEx} : IsL (lstD f) := fun ρ st d ρ' st' h => by
  unfold lstD at h
  cases e : f ρ st with
  | ok d1 ρ1 st1 =>
    rw [e] at h
    cases d1 <;> first | (cases h; done) | (cases h; exact ⟨_, rfl⟩)
  | exc c ρ1 st1 => rw [e] at h; cases h
  | bad => rw [e] at h; cases h
section
variable {X : Cx} {W : WB} {e a b : Expr} {es : List Expr} {f g : DEx} {pos : Pos}
theorem DO.fz (h : DO X W e f) : DE X W e f := let ⟨⟨t, p, r⟩, l⟩ := h; ⟨t, p, r.fz l⟩
theorem do_lst (ha : DAn X W es f) (hl : es.length ≤ sizeLine := by decide) : DO X W (.List es pos) (lstD f) := by
  obtain ⟨⟨t, pt, rt⟩, hn⟩ := ha
  refine ⟨⟨_, pe_lst pt, fun w Q s q => ?_⟩, lstD_isL⟩
  refine rt.bind (P := OkO X.K (MGx X W.b) W w Q) s q (fun d ρ st n => by cases d <;> first | rfl | exact absurd rfl (n _)) (fun _ _ _ z => z) (fun z => z) fun w1 vs ds e1 a1 r1 ee q1 => ?_
  have l : vs.length ≤ sizeLine := by
    obtain ⟨ds', e', l⟩ := hn _ _ _ _ _ ee
    cases e'
    rw [r1.len, l]; exact hl
  exact ⟨l, fun p hp => OkO.mk a1 e1 hp l r1 q1⟩
@[simp] def setOD (f : DEx) (i : Nat) (ρ0 : En) (st0 : Store) : Fl := thenF f (fun d ρ st => match d with
  | .lst ds => .nx (ρ.set i (.ml ds)) st
  | _ => .bad) ρ0 st0
@[simp] def setCD (f : DEx) (i : Nat) (ρ0 : En) (st0 : Store) : Fl := thenF f (fun d ρ st => match d with
  | .lst ds => .nx (ρ.set i (.val (.ref st.length))) (st ++ [.lst ds])
  | _ => .bad) ρ0 st0
@[simp] def retCD (f : DEx) (ρ0 : En) (st0 : Store) : Fl := thenF f (fun d ρ st => match d with
  | .lst ds => .rt (.ref st.length) ρ (st ++ [.lst ds])
  | _ => .bad) ρ0 st0
theorem RefO.bindF {K : PySem.W.Frag} {mg : MG} {t : TE} (h : RefO K mg W t f) (hl : IsL f) {w : Ws} {E : Ends} {Q1 : VK} {r : D → En → Store → Fl} (s : Sts K mg w)
    (hP : OkF K mg W w E (match f w.ρ w.st with | .ok d ρ st => r d ρ st | .exc c ρ st => .exc c ρ st | .bad => .bad))
    (k : ∀ (w1 : Ws) (a : Addr) (vs : List V) (ds : List D), w1.σ = w.σ → Aft K mg w w1 → w.H a = none → Loose w1 a → w1.H a = some (.lst vs) → vs.length ≤ sizeLine → Reps K mg w1.G w1.ι vs ds → OkF K mg W w E (r (.lst ds) w1.ρ w1.st) → Q1 (.ref a) w1.H) : t w.σ w.H Q1 := by
  refine h w Q1 s ?_
  cases e : f w.ρ w.st with
  | ok d ρ st =>
    rw [e] at hP
    obtain ⟨ds, rfl⟩ := hl _ _ _ _ _ e
    intro w' a vs h1 h2 h3 h4 h5 h6 h7 h8 h9
    subst h1; subst h2
    exact k w' a vs ds h3 h4 h5 h6 h7 h8 h9 hP
  | exc c ρ st =>
    rw [e] at hP
    exact fun w' cls dx h1 h2 _ h4 h5 => hP w' cls dx h1 h2 h4 h5
  | bad => rw [e] at hP; exact hP
theorem refS_setO {K : PySem.W.Frag} {mg : MG} {t : TE} {i : Nat} (h : RefO K mg W t f) (hl : IsL f) : RefS K mg W (tAsg t (gName i)) (setOD f i) := fun w E s q =>
  h.bindF hl s q fun w1 a vs ds e1 A fr lo ha hz r q1 => by
    show E.nx (w.σ.set i (some (.ref a))) w1.H
    have := q1 { w1 with ρ := w1.ρ.set i (.ml ds), σ := w1.σ.set i (some (.ref a)) } rfl rfl (A.setMl fr lo ha hz r)
    rw [e1] at this; exact this
theorem cellRep {K : PySem.W.Frag} {mg : MG} {w0 w1 : Ws} (A : Aft K mg w0 w1) {a : Addr} : Rep K mg w1.G (w1.ι ++ [a]) (.ref a) (.ref w1.st.length) := .ref (by rw [A.s.len]; simp)
theorem refS_setC {K : PySem.W.Frag} {mg : MG} {t : TE} {i : Nat} (h : RefO K mg W t f) (hl : IsL f) : RefS K mg W (tAsg t (gName i)) (setCD f i) := fun w E s q =>
  h.bindF hl s q fun w1 a vs ds e1 A fr lo ha hz r q1 => by
    show E.nx (w.σ.set i (some (.ref a))) w1.H
    have A1 := A.newCell fr lo ha hz r
    have A2 := Aft.setVal A1.s (i := i) (v := .ref a) (d := .ref w1.st.length) (cellRep A)
    have := q1 _ rfl rfl (A1.trans A2)
    rw [← e1]; exact this
theorem refS_retC {K : PySem.W.Frag} {mg : MG} {t : TE} (h : RefO K mg W t f) (hl : IsL f) : RefS K mg W (tRet t) (retCD f) := fun w E s q =>
  h.bindF hl s q fun w1 a vs ds e1 A fr lo ha hz r q1 => by
    have A1 := A.newCell fr lo ha hz r
    exact q1 { w1 with ι := w1.ι ++ [a], st := w1.st ++ [.lst ds] } (.ref a) rfl rfl A1 (cellRep A)
theorem ds_setO {i : Nat} {x : Str} {pos' : Pos} (hN : X.N.Nodup) (hi : X.N[i]? = some x) (hx : Loc X.env.scope x) (he : DO X W e f) (hs : swapsWith e (some (.Name x pos')) pos.line X.env = pure false := by rfl) (hf : X.fn x = true ∨ X.env.scope.names.lookup x = some .local := by first | exact .inl rfl | exact .inr rfl | assumption) :
    DS X W (.Assign [.Name x pos'] e pos) (setOD f i) := let ⟨⟨_, p, r⟩, l⟩ := he; ⟨_, ps_set hN hi hx p hs hf, refS_setO r l⟩
theorem ds_setC {i : Nat} {x : Str} {pos' : Pos} (hN : X.N.Nodup) (hi : X.N[i]? = some x) (hx : Loc X.env.scope x) (he : DO X W e f) (hs : swapsWith e (some (.Name x pos')) pos.line X.env = pure false := by rfl) (hf : X.fn x = true ∨ X.env.scope.names.lookup x = some .local := by first | exact .inl rfl | exact .inr rfl | assumption) :
    DS X W (.Assign [.Name x pos'] e pos) (setCD f i) := let ⟨⟨_, p, r⟩, l⟩ := he; ⟨_, ps_set hN hi hx p hs hf, refS_setC r l⟩
theorem ds_retC (he : DO X W e f) : DS X W (.Return (some e) pos) (retCD f) := let ⟨⟨_, p, r⟩, l⟩ := he; ⟨_, ps_ret p, refS_retC r l⟩
theorem Aft.fzMl {K : PySem.W.Frag} {mg : MG} {w : Ws} (s : Sts K mg w) {i : Nat} {a : Addr} {ds : List D} {vs : List V} (h0 : w.ρ[i]? = some (.ml ds)) (h1 : w.σ[i]? = some (some (.ref a))) (ha : w.H a = some (.lst vs)) (hz : vs.length ≤ sizeLine) (r : Reps K mg w.G w.ι vs ds) :
    Aft K mg w { w with ρ := w.ρ.set i (.val (.lst ds)), G := upd w.G a (.lst vs) } := by
  have own : OwnS w i a := ⟨ds, h0, h1⟩
  have ga : w.G a = none := s.mtG own.mt
  have sg := same_upd (o := .lst vs) ga
  have ow : ∀ j b, OwnS { w with ρ := w.ρ.set i (.val (.lst ds)), G := upd w.G a (.lst vs) } j b → OwnS w j b ∧ b ≠ a := fun j b h => by
    obtain ⟨es, q1, q2⟩ := h
    rcases getElem?_set_ite q1 with ⟨_, e, _⟩ | ⟨ne, e⟩
    · cases e
    · refine ⟨⟨es, e, q2⟩, fun z => ne (s.dis j i b ⟨es, e, q2⟩ (z ▸ own))⟩
  have lv : ∀ l b, Liv w l b → b ≠ a := fun l b h z => s.sep i l a own (z ▸ h)
  have sub' : Same (upd w.G a (.lst vs)) w.H := fun b u e => by
    by_cases h : b = a
    · subst h; rw [upd_same] at e; rw [ha]; exact e
    · rw [upd_ne h] at e; exact s.sub _ _ e
  refine ⟨⟨s.lowG.trans sg, s.lowI, sub', by simpa using s.ln, s.len, fun l c b q1 q2 => ?_, s.inj, fun j x h => ?_, fun j l b q1 q2 => s.sep j l b (ow j b q1).1 q2, fun j k b q1 q2 => s.dis j k b (ow j b q1).1 (ow k b q2).1⟩, sg, LeI.refl _, fun _ _ h _ => h, fun b h => ?_, fun b h => ?_, fun _ h => h⟩
  · exact (s.cel l c b q1 q2).keep (w' := { w with ρ := w.ρ.set i (.val (.lst ds)), G := upd w.G a (.lst vs) }) sg (LeI.refl _) (fun n => ⟨by
      show upd w.G a (.lst vs) b = none
      rw [upd_ne (lv l b ⟨c, q1, n, q2⟩)]; exact s.mtG (.inl ⟨l, c, q1, n, q2⟩), fun _ e => e⟩) sub'
  · rcases getElem?_set_ite h with ⟨e, e2, _⟩ | ⟨ne, e⟩
    · subst e; subst e2
      exact ⟨.ref a, h1, .lst upd_same hz (r.mono sg (LeI.refl _))⟩
    · refine (s.slo j x e).keep (w' := { w with ρ := w.ρ.set i (.val (.lst ds)), G := upd w.G a (.lst vs) }) sg (LeI.refl _) fun b ⟨es, e3⟩ h2 => ?_
      have o2 : OwnS w j b := ⟨es, by rw [e, e3], h2⟩
      refine ⟨?_, fun _ e => e⟩
      show upd w.G a (.lst vs) b = none
      rw [upd_ne (fun z : b = a => ne (s.dis j i b o2 (z ▸ own)))]
      exact s.mtG o2.mt
  · rcases h with h | ⟨j, h⟩
    · exact .inl (.inl h)
    · exact .inl (.inr ⟨j, (ow j b h).1⟩)
  · by_cases z : b = a
    · subst z; exact .inr (.inl own.mt)
    · have h' : upd w.G a (.lst vs) b ≠ none := h
      rw [upd_ne z] at h'; exact .inl h'
@[simp] def frzE (i : Nat) (ρ : En) (st : Store) : R := match ρ[i]? with
  | some (.ml ds) => .ok (.lst ds) (ρ.set i (.val (.lst ds))) st
  | some (.val d) => .ok d ρ st
  | _ => .bad
theorem ref_frz {K : PySem.W.Frag} {mg : MG} (i : Nat) : RefE K mg W (tVar i) (frzE i) := fun w Q s h => by
  unfold frzE at h
  split at h
  · rename_i ds e
    obtain ⟨a, vs, e1, e2, e3, e4, e5⟩ := s.slo i _ e
    have A := Aft.fzMl s e e1 e3 e4 e5
    exact ⟨_, e1, h { w with ρ := w.ρ.set i (.val (.lst ds)), G := upd w.G a (.lst vs) } (.ref a) rfl rfl rfl A (.lst upd_same e4 (e5.mono A.g (LeI.refl _)))⟩
  · rename_i d e
    obtain ⟨v, e2, r⟩ := s.slo i _ e
    exact ⟨v, e2, h w v rfl rfl rfl (Aft.refl s) r⟩
  · exact h.elim
theorem de_frz (i : Nat) {x : Str} (hN : X.N[i]? = some x := by rfl) (hv : Vis X.env.scope x := by first | exact Or.inl rfl | exact Or.inr (Or.inl rfl) | exact Or.inr (Or.inr rfl)) (hd : (x == ("__debug__" : Str)) = false := by decide)
    (hcd : (x == ("__classdict__" : Str)) = false := by decide) : DE X W (.Name x pos) (frzE i) := ⟨_, pv i hN hv hd hcd, ref_frz i⟩
end
section
variable {X : Cx} {W : WB} {elt tg iter : Expr} {ifs : List Expr} {scope : Scope} {own : List (Str × Nat)} {pos spos : Pos} {fi c f : DEx} {g : DGx} {is : List Nat}
theorem do_lc (hc : X.calm = true) (hN : X.N.Nodup) (hi : DI X W tg iter fi) (ok : BlkOk X.N X.env.scope scope own) (hsub : ∀ i ∈ is, i ∈ own.map (·.2))
    (hg : ∀ (s : Shared) (H : Hp) (C : Addr) (cl : List (Str × Addr)) (fp : List Addr), DG (X.blk s H scope (PySem.compEnvC scope cl C X.env) fp) tg is g)
    (ht : ∀ (s : Shared) (H : Hp) (C : Addr) (cl : List (Str × Addr)) (fp : List Addr), DTs (X.blk s H scope (PySem.compEnvC scope cl C X.env) fp) W.b ifs c)
    (he : ∀ (s : Shared) (H : Hp) (C : Addr) (cl : List (Str × Addr)) (fp : List Addr), DE (X.blk s H scope (PySem.compEnvC scope cl C X.env) fp) (WF W.b) elt f) (hs : ∀ x, foldedSetIterable iter X.env x = pure x := by intro _; rfl) :
    DO X W (.ListComp elt [⟨tg, iter, ifs, 0⟩] scope pos) (lcD fi g c f (own.map (·.2))) := by
  obtain ⟨wi, pi, ri⟩ := hi
  exact ⟨⟨_, pe_lc hc hN pi ok (fun s H C cl fp => (hg s H C cl fp).pg W.b) (fun s H C cl fp => (ht s H C cl fp).pts) (fun s H C cl fp => (he s H C cl fp).pe) hs, refO_lc ri hsub⟩, lcD_isL⟩
theorem ps_lc {i : Nat} {y : Str} {py : Pos} (hc : X.calm = true) (hN : X.N.Nodup) (hy : X.N[i]? = some y) (hyl : X.env.scope.names.lookup y = some .local)
    (hsw : swapsWith (.ListComp elt [⟨tg, iter, ifs, 0⟩] scope pos) (some (.Name y py)) spos.line X.env = pure true) (hi : DI X W tg iter fi) (ok : BlkOk X.N X.env.scope scope own) (hsub : ∀ i ∈ is, i ∈ own.map (·.2))
    (hg : ∀ (s : Shared) (H : Hp) (C : Addr) (cl : List (Str × Addr)) (fp : List Addr), DG (X.blk s H scope (PySem.compEnvC scope cl C X.env) fp) tg is g)
    (ht : ∀ (s : Shared) (H : Hp) (C : Addr) (cl : List (Str × Addr)) (fp : List Addr), DTs (X.blk s H scope (PySem.compEnvC scope cl C X.env) fp) W.b ifs c)
    (he : ∀ (s : Shared) (H : Hp) (C : Addr) (cl : List (Str × Addr)) (fp : List Addr), DE (X.blk s H scope (PySem.compEnvC scope cl C X.env) fp) (WF W.b) elt f) (hs : ∀ x, foldedSetIterable iter X.env x = pure x := by intro _; rfl) :
    ∃ t, PS X (.Assign [.Name y py] (.ListComp elt [⟨tg, iter, ifs, 0⟩] scope pos) spos) (tAsg t (gName i)) ∧ RefO X.K (MGx X W.b) W t (lcD fi g c f (own.map (·.2))) := by
  obtain ⟨wi, pi, ri⟩ := hi
  exact ⟨_, ps_setLc hc hN hy hyl hsw pi ok (fun s H C cl fp => (hg s H C cl fp).pg W.b) (fun s H C cl fp => (ht s H C cl fp).pts) (fun s H C cl fp => (he s H C cl fp).pe) hs, refO_lc ri hsub⟩
theorem ds_lcF {i : Nat} {st : Stmt} (h : ∃ t, PS X st (tAsg t (gName i)) ∧ RefO X.K (MGx X W.b) W t (lcD fi g c f (own.map (·.2)))) : DS X W st (setD (lcD fi g c f (own.map (·.2))) (gN i)) :=
  let ⟨_, p, r⟩ := h; ⟨_, p, refS_set (r.fz lcD_isL) (refG_name i)⟩
end
end DL
namespace DL
open PySem L2
theorem pi_or {X : Cx} {tg e : Expr} {t u : TI} (h : PI X tg e t) (h' : PI X tg e u) : PI X tg e (fun σ H R => t σ H R ∨ u σ H R) := by
  constructor
  intro pins s σ H R I q
  rcases q with q | q
  · exact h.run pins s σ H R I q
  · exact h'.run pins s σ H R I q
@[simp] def D.items : D → Option (List D)
  | .lst ds => some ds
  | .tup ds => some ds
  | .lsk ds => some ds
  | .str z => some (z.cps.toList.map fun c => .str ⟨#[c]⟩)
  | _ => none
@[simp] def D.walk (st : Store) : D → Option D
  | .ref l => match st[l]? with
    | some (.lst ds) => some (.tup [.lst ds, .ref l, .lst ds])
    | _ => none
  | d => d.items.map .lst
@[simp] def itD (f : DEx) (ρ : En) (st : Store) : R := (f ρ st).bind fun d ρ st => match d.walk st with
  | some ds => .ok ds ρ st
  | none => .bad
section
variable {K : PySem.W.Frag} {mg : MG} {W : WB}
theorem iter_list {w : Ws} (s : Sts K mg w) {a : Addr} {vs : List V} {ds : List D} (h : SqL K w.G a vs) (r : Reps K mg w.G w.ι vs ds) : IterOk K mg w (Itl K a) ds none := by
  refine ⟨_, _, by rw [← r.len]; exact walk_list (xs := vs), fun w2 A _ => SqL.mono A.s.sub (SqL.mono A.g h), ?_⟩
  rintro i w2 x H' d hd A _ ⟨rfl, hx⟩
  obtain ⟨d', e, rp⟩ := r.getV hx
  rw [hd] at e; cases e
  exact ⟨w2.G, Aft.refl A.s, rp.mono A.g A.i⟩
theorem iter_tup {w : Ws} (s : Sts K mg w) {a : Addr} {vs : List V} {ds : List D} (h : SqT K w.G a vs) (r : Reps K mg w.G w.ι vs ds) : IterOk K mg w (Itt K a) ds none := by
  refine ⟨_, _, by rw [← r.len]; exact walk_tup (xs := vs), fun w2 A _ => SqT.mono A.s.sub (SqT.mono A.g h), ?_⟩
  rintro i w2 x H' d hd A _ ⟨rfl, hx⟩
  obtain ⟨d', e, rp⟩ := r.getV hx
  rw [hd] at e; cases e
  exact ⟨w2.G, Aft.refl A.s, rp.mono A.g A.i⟩
theorem iter_str {w : Ws} (s : Sts K mg w) {z : Str} : IterOk K mg w (Its z) (z.cps.toList.map fun c => .str ⟨#[c]⟩) none := by
  refine ⟨_, _, by simpa using walk_str (z := z), fun _ _ _ => trivial, ?_⟩
  rintro i w2 x H' d hd A _ ⟨rfl, c, hc, rfl⟩
  rw [List.getElem?_map, Array.getElem?_toList, hc] at hd
  cases hd
  exact ⟨w2.G, Aft.refl A.s, .str _⟩
theorem walk_cell {a : Addr} {n : Nat} : Walk (Itl K a) n (fun H => ∃ vs, SqL K H a vs ∧ vs.length = n) (fun i H x H' => H' = H ∧ ∀ xs, SqL K H a xs → xs[i]? = some x) :=
  ⟨fun i _ hi ⟨xs, q, e⟩ => ⟨xs, xs[i]'(by omega), q, by simp [show i < xs.length by omega]⟩, fun _ ⟨xs, q, e⟩ => ⟨xs, q, by omega⟩, fun _ _ _ _ _ q y => y⟩
theorem iter_cell {w : Ws} (s : Sts K mg w) {a : Addr} {l : Nat} {ds : List D} (hi : w.ι[l]? = some a) : IterOk K mg w (Itl K a) ds (some (l, ds)) := by
  refine ⟨_, _, walk_cell, fun w2 F og => ?_, ?_⟩
  · obtain ⟨_, vs, h, _, r⟩ := F.s.cel l _ a og (F.i _ _ hi)
    exact ⟨vs, SqL.of h, r.len⟩
  · rintro i w2 x H' d hd F og ⟨rfl, hx⟩
    obtain ⟨_, vs, h, _, r⟩ := F.s.cel l _ a og (F.i _ _ hi)
    obtain ⟨d', e, rp⟩ := r.getV (hx vs (SqL.of h))
    rw [hd] at e; cases e
    exact ⟨w2.G, Aft.refl F.s, rp⟩
def iSeq (K : PySem.W.Frag) (te : TE) : TI := fun σ H R => iList K te σ H R ∨ iTup K te σ H R ∨ iStr te σ H R
theorem refI_seq {te : TE} {f : DEx} (h : RefE K mg W te f) : RefI K mg W (iSeq K te) (itD f) := fun w Q s q => by
  unfold itD at q
  cases e : f w.ρ w.st with
  | ok d ρ st =>
    rw [e] at q
    simp only [R.bind] at q
    cases d with
    | lst ds =>
      refine .inl (h w _ s ?_)
      rw [e]
      intro w' v h1 h2 h3 A r
      cases r with
      | lst hs hl rs => exact ⟨_, rfl, ⟨_, SqL.of (A.s.sub _ _ hs)⟩, q w' _ h1 h2 h3 A (iter_list A.s (SqL.of hs) rs) trivial⟩
    | lsk ds =>
      refine .inl (h w _ s ?_)
      rw [e]
      intro w' v h1 h2 h3 A r
      cases r with
      | lsk hs hl rs => exact ⟨_, rfl, ⟨_, SqL.mono A.s.sub hs⟩, q w' _ h1 h2 h3 A (iter_list A.s hs rs) trivial⟩
    | tup ds =>
      refine .inr (.inl (h w _ s ?_))
      rw [e]
      intro w' v h1 h2 h3 A r
      cases r with
      | tup hs hl rs => exact ⟨_, rfl, ⟨_, SqT.mono A.s.sub hs⟩, q w' _ h1 h2 h3 A (iter_tup A.s hs rs) trivial⟩
    | str z =>
      refine .inr (.inr (h w _ s ?_))
      rw [e]
      intro w' v h1 h2 h3 A r
      exact ⟨z, r.str_inv, q w' _ h1 h2 h3 A (iter_str A.s) trivial⟩
    | ref l =>
      simp only [D.walk] at q
      cases hst : st[l]? with
      | none => rw [hst] at q; exact q.elim
      | some c =>
        cases c with
        | lst ds =>
          rw [hst] at q
          refine .inl (h w _ s ?_)
          rw [e]
          intro w' v h1 h2 h3 A r
          cases r with
          | ref hi =>
            rename_i a
            obtain ⟨_, vs, hh, _, _⟩ := A.s.cel l _ a (by rw [h2]; exact hst) hi
            exact ⟨_, rfl, ⟨_, SqL.of hh⟩, q w' _ h1 h2 h3 A (iter_cell A.s hi) hst⟩
        | _ => rw [hst] at q; exact q.elim
    | _ => exact q.elim
  | exc c ρ st =>
    refine .inl (h w _ s ?_)
    rw [e] at q ⊢
    exact q
  | bad => rw [e] at q; exact q.elim
end
section
variable {X : Cx} {W : WB} {tg e e2 : Expr} {f f2 : DEx} {p pos : Pos}
theorem di_seq (h : DE X W e f) : DI X W tg e (itD f) := let ⟨_, pe, r⟩ := h; ⟨_, pi_or (pi_list pe) (pi_or (pi_tup pe) (pi_str pe)), refI_seq r⟩
def rngItems (lo : Int) (n : Nat) : List D := (List.range n).map fun (i : Nat) => .int (lo + (i : Int))
theorem rngItems_get {lo : Int} {n i : Nat} {d : D} (h : (rngItems lo n)[i]? = some d) : d = .int (lo + (i : Int)) := by
  unfold rngItems at h
  rw [List.getElem?_map] at h
  cases e : (List.range n)[i]? with
  | none => rw [e] at h; cases h
  | some j =>
    rw [e] at h; cases h
    have := (List.getElem?_eq_some_iff.mp e).2
    simp at this; rw [this]
theorem iter_rng {K : PySem.W.Frag} {mg : MG} {w : Ws} {lo : Int} {n : Nat} : IterOk K mg w (Itr lo n) (rngItems lo n) none := by
  refine ⟨_, _, by simpa [rngItems] using walk_range (lo := lo) (n := n), fun _ _ _ => trivial, ?_⟩
  rintro i w2 x H' d hd A _ ⟨rfl, rfl⟩
  rw [rngItems_get hd]
  exact ⟨w2.G, Aft.refl A.s, .int _⟩
def Rg (j : Int) : Prop := -(2 ^ 62) ≤ j ∧ j < 2 ^ 62
noncomputable instance (j : Int) : Decidable (Rg j) := Classical.propDecidable _
theorem Rg.of {k : Int} (h1 : -1000000 ≤ k) (h2 : k ≤ 1000000) : Rg k := ⟨by omega, by omega⟩
def Rs (j : Int) : Prop := -(2 ^ 63) ≤ j ∧ j < 2 ^ 63
noncomputable instance (j : Int) : Decidable (Rs j) := Classical.propDecidable _
theorem Rs.of {k : Int} (h1 : -1000000 ≤ k) (h2 : k ≤ 1000000) : Rs k := ⟨by omega, by omega⟩
@[simp] noncomputable def rng1 (f : DEx) (ρ : En) (st : Store) : R := (f ρ st).bind fun d ρ st => match d with
  | .tup [.int j] => if Rg j then .ok (.lst (rngItems 0 j.toNat)) ρ st else .bad
  | _ => .bad
@[simp] noncomputable def rng2 (f : DEx) (ρ : En) (st : Store) : R := (f ρ st).bind fun d ρ st => match d with
  | .tup [.int i, .int j] => if Rg i ∧ Rg j then .ok (.lst (rngItems i (j - i).toNat)) ρ st else .bad
  | _ => .bad
theorem RefA.bindI {K : PySem.W.Frag} {mg : MG} {t : TA} (h : RefA K mg W t f) {w : Ws} {Q : It → Hp → Prop} {Q1 : List V → Hp → Prop} {r : D → En → Store → R} (s : Sts K mg w) (hP : OkI K mg W w Q ((f w.ρ w.st).bind r)) (hd : ∀ d ρ st, (∀ b, d ≠ .tup b) → r d ρ st = .bad)
    (k : ∀ (w1 : Ws) (vs : List V) (ds : List D), w1.σ = w.σ → Aft K mg w w1 → Reps K mg w1.G w1.ι vs ds → OkI K mg W w Q (r (.tup ds) w1.ρ w1.st) → Q1 vs w1.H) : t w.σ w.H Q1 :=
  h.bind (P := OkI K mg W w Q) s hP hd (fun _ _ _ z => z) (fun z => z) fun w1 vs ds e A r _ q => k w1 vs ds e A r q
theorem Reps.inv1 {K : PySem.W.Frag} {mg : MG} {G : Hp} {ι : List Addr} {vs : List V} {d : D} (h : Reps K mg G ι vs [d]) : ∃ v, vs = [v] ∧ Rep K mg G ι v d := by
  cases h with
  | cons r rs => cases rs; exact ⟨_, rfl, r⟩
theorem Reps.inv2 {K : PySem.W.Frag} {mg : MG} {G : Hp} {ι : List Addr} {vs : List V} {d d' : D} (h : Reps K mg G ι vs [d, d']) : ∃ v v', vs = [v, v'] ∧ Rep K mg G ι v d ∧ Rep K mg G ι v' d' := by
  cases h with
  | cons r rs =>
    obtain ⟨v', rfl, r'⟩ := rs.inv1
    exact ⟨_, _, rfl, r, r'⟩
theorem di_range1 (hg : Gl X "range") (hm : X.mg "range" = none) (ha : DAn X W [e] f) (hs : starEach [e] X.env = [(false, eval e X.env)] := by rfl) : DI X W tg (.Call (.Name "range" p) [e] [] pos) (rng1 f) := by
  obtain ⟨⟨t, pt, rt⟩, _⟩ := ha
  refine ⟨_, pi_range1 hg hm pt hs, fun w Q s q => ?_⟩
  refine rt.bindI s q (fun d ρ st n => by cases d <;> first | rfl | exact absurd rfl (n _)) fun w1 vs ds e1 A r q1 => ?_
  split at q1
  · rename_i j hj
    cases hj
    split at q1
    · rename_i hh
      obtain ⟨v, rfl, rv⟩ := r.inv1
      exact ⟨j, by rw [rv.int_inv], hh.1, hh.2, q1 w1 _ rfl rfl e1 A iter_rng trivial⟩
    · exact q1.elim
  · exact q1.elim
theorem di_range2 (hg : Gl X "range") (hm : X.mg "range" = none) (ha : DAn X W [e, e2] f) (hs : starEach [e, e2] X.env = [(false, eval e X.env), (false, eval e2 X.env)] := by rfl) (hs2 : starEach [e2] X.env = [(false, eval e2 X.env)] := by rfl) : DI X W tg (.Call (.Name "range" p) [e, e2] [] pos) (rng2 f) := by
  obtain ⟨⟨t, pt, rt⟩, _⟩ := ha
  refine ⟨_, pi_range2 hg hm pt hs hs2, fun w Q s q => ?_⟩
  refine rt.bindI s q (fun d ρ st n => by cases d <;> first | rfl | exact absurd rfl (n _)) fun w1 vs ds e1 A r q1 => ?_
  split at q1
  · rename_i i j hj
    cases hj
    split at q1
    · rename_i hh
      obtain ⟨v, v', rfl, rv, rv'⟩ := r.inv2
      exact ⟨i, j, by rw [rv.int_inv, rv'.int_inv], ⟨hh.1.1, hh.1.2, hh.2.1, hh.2.2⟩, q1 w1 _ rfl rfl e1 A iter_rng trivial⟩
    · exact q1.elim
  · exact q1.elim
theorem iter_pair {K : PySem.W.Frag} {mg : MG} {w : Ws} {J : It} {n : Nat} {Gd : Hp → Prop} {xs ys : Nat → Option V} {ds : List D} (wk : Walk J n Gd (YPair xs ys)) (hn : n = ds.length) (hG : ∀ w2, Frz K mg w w2 → Gd w2.H)
    (h : ∀ i d, ds[i]? = some d → ∃ d1 d2, d = .tup [d1, d2] ∧ (∀ v, xs i = some v → Rep K mg w.G w.ι v d1) ∧ (∀ v, ys i = some v → Rep K mg w.G w.ι v d2)) : IterOk K mg w J ds none := by
  subst hn
  refine ⟨_, _, wk, fun w2 F _ => hG w2 F, ?_⟩
  rintro i w2 x H' d hd A _ ⟨T, v1, v2, rfl, hT, rfl, h1, h2⟩
  obtain ⟨d1, d2, rfl, r1, r2⟩ := h i d hd
  have A' := Aft.alloc (o := .tup [v1, v2]) A.s hT
  refine ⟨_, A', .tup (.inl (.inl upd_same)) (show 2 ≤ sizeLine by decide) ?_⟩
  exact .cons (((r1 v1 h1).mono A.g A.i).mono A'.g A'.i) (.cons (((r2 v2 h2).mono A.g A.i).mono A'.g A'.i) .nil)
def enumItems (ds : List D) : List D := ds.zipIdx.map fun p => .tup [.int (p.2 : Int), p.1]
@[simp] def enumD (f : DEx) (ρ : En) (st : Store) : R := (f ρ st).bind fun d ρ st => match d with
  | .tup [.lst ds] => .ok (.lst (enumItems ds)) ρ st
  | .tup [.ref l] => (match st[l]? with
    | some (.lst ds) => .ok (.tup [.lst (enumItems ds), .ref l, .lst ds]) ρ st
    | _ => .bad)
  | _ => .bad
theorem enumItems_get {ds : List D} {i : Nat} {d : D} (h : (enumItems ds)[i]? = some d) : ∃ x, ds[i]? = some x ∧ d = .tup [.int (i : Int), x] := by
  unfold enumItems at h
  rw [List.getElem?_map, List.getElem?_zipIdx] at h
  cases e : ds[i]? with
  | none => rw [e] at h; cases h
  | some x => rw [e] at h; cases h; exact ⟨x, rfl, by simp⟩
theorem walk_enumC {K : PySem.W.Frag} {a : Addr} {n : Nat} : Walk (Ite K a) n (fun H => ∃ vs, SqL K H a vs ∧ vs.length = n) (fun i H v H' => ∃ T x, v = .ref T ∧ H T = none ∧ H' = upd H T (.tup [.int (i : Nat), x]) ∧ ∀ xs, SqL K H a xs → xs[i]? = some x) := by
  refine ⟨fun i _ hi ⟨xs, q, e⟩ => ⟨xs, xs[i]'(by omega), q, by simp [show i < xs.length by omega]⟩, fun _ ⟨xs, q, e⟩ => ⟨xs, q, by omega⟩, fun i H v H' _ q y => ?_⟩
  obtain ⟨T, x, h1, h2, h3, h4⟩ := y
  exact ⟨T, x, h1, h2, h3, h4⟩
theorem di_enum {elts : List Expr} {kk : Nat} {tpos : Pos} (hg : Gl X "enumerate") (hm : X.mg "enumerate" = none) (ha : DAn X W [e] f) (hs : starEach [e] X.env = [(false, eval e X.env)] := by rfl) : DI X W (.Tuple elts kk tpos) (.Call (.Name "enumerate" p) [e] [] pos) (enumD f) := by
  obtain ⟨⟨t, pt, rt⟩, _⟩ := ha
  refine ⟨_, pi_enum hg hm pt hs, fun w Q s q => ?_⟩
  refine rt.bindI s q (fun d ρ st n => by cases d <;> first | rfl | exact absurd rfl (n _)) fun w1 vs ds e1 A r q1 => ?_
  split at q1
  · rename_i ds' hj
    cases hj
    obtain ⟨v, rfl, rv⟩ := r.inv1
    cases rv with
    | lst hs hl rs =>
      refine ⟨_, _, rfl, SqL.of (A.s.sub _ _ hs), q1 w1 _ rfl rfl e1 A ?_ trivial⟩
      refine iter_pair walk_enum (by simp [enumItems, rs.len]) (fun w2 A2 => SqL.of (A2.s.sub _ _ (A2.g _ _ hs))) fun i d hd => ?_
      obtain ⟨x, hx, rfl⟩ := enumItems_get hd
      refine ⟨_, _, rfl, fun v h => by cases h; exact .int _, fun v h => ?_⟩
      obtain ⟨d', e', rp⟩ := rs.getV h
      rw [hx] at e'; cases e'; exact rp
  · rename_i l hj
    cases hj
    obtain ⟨v, rfl, rv⟩ := r.inv1
    cases rv with
    | ref hi =>
      rename_i a
      split at q1
      · rename_i ds hst
        obtain ⟨_, vs, hh, _, _⟩ := A.s.cel l _ a hst hi
        refine ⟨_, _, rfl, SqL.of hh, q1 w1 _ rfl rfl e1 A ?_ hst⟩
        refine ⟨_, _, walk_enumC (n := (enumItems ds).length), fun w2 F og => ?_, ?_⟩
        · obtain ⟨_, vs, h, _, r⟩ := F.s.cel l _ a og (F.i _ _ hi)
          exact ⟨vs, SqL.of h, by simp [enumItems, r.len]⟩
        · rintro i w2 x H' d hd F og ⟨T, y, rfl, hT, rfl, hy⟩
          obtain ⟨_, vs, h, _, r⟩ := F.s.cel l _ a og (F.i _ _ hi)
          obtain ⟨z, hz, rfl⟩ := enumItems_get hd
          obtain ⟨d', e', rp⟩ := r.getV (hy vs (SqL.of h))
          rw [hz] at e'; cases e'
          have A' := Aft.alloc (o := .tup [.int (i : Nat), y]) F.s hT
          refine ⟨_, A', .tup (.inl (.inl upd_same)) (show 2 ≤ sizeLine by decide) ?_⟩
          exact .cons (.int _) (.cons (rp.mono A'.g A'.i) .nil)
      · exact q1.elim
  · exact q1.elim
def zipItems (xs ys : List D) : List D := (xs.zip ys).map fun p => .tup [p.1, p.2]
theorem zipItems_get {xs ys : List D} {i : Nat} {d : D} (h : (zipItems xs ys)[i]? = some d) : ∃ x y, xs[i]? = some x ∧ ys[i]? = some y ∧ d = .tup [x, y] := by
  unfold zipItems at h
  rw [List.getElem?_map] at h
  cases e : (xs.zip ys)[i]? with
  | none => rw [e] at h; cases h
  | some q =>
    rw [e] at h; cases h
    obtain ⟨h1, h2⟩ := List.getElem?_zip_eq_some.mp e
    exact ⟨_, _, h1, h2, rfl⟩
end
end DL
namespace DL
open PySem L2
def AnsC (K : PySem.W.Frag) (mg : MG) (r : List V → Hp → VK → Prop) (p : D → Option D) : Prop :=
  ∀ (w : Ws) (x : V) (d z : D) (Q : VK), Sts K mg w → RepV K mg w x d → p d = some z → (∀ v, (∀ G ι, Rep K mg G ι v z) → Q v w.H) → r [x] w.H Q
def AnsC2 (K : PySem.W.Frag) (mg : MG) (r : List V → Hp → VK → Prop) (p : D → D → Option D) : Prop :=
  ∀ (w : Ws) (x y : V) (d e z : D) (Q : VK), Sts K mg w → RepV K mg w x d → RepV K mg w y e → p d e = some z → (∀ v, (∀ G ι, Rep K mg G ι v z) → Q v w.H) → r [x, y] w.H Q
section
variable {X : Cx} {W : WB} {e e2 : Expr} {f g : DEx} {q : DPx} {p pos : Pos} {x : Str} {id T : String} {r : List V → Hp → VK → Prop} {pp : D → Option D} {p2 : D → D → Option D}
theorem de_b1 (hc : CallR X (.builtin id) r) (hr : AnsC X.K (MGx X W.b) r pp) (hg : Gl X x) (hm : X.mg x = none) (hv : bootBuiltins x = some (.builtin id)) (ha : DV X W e f) (hn : x ≠ "__name__" := by decide) (hdb : (x == ("__debug__" : Str)) = false := by decide)
    (he : starEach [e] X.env = (false, eval e X.env) :: starEach [] X.env := by rfl) (hpl : (backTo pos (starEach [] X.env)).any (·.1) = false := by rfl) : DE X W (.Call (.Name x p) [e] [] pos) (lift1 pp f) := by
  obtain ⟨te, pe, re⟩ := ha
  refine ⟨_, pe_callB hc hg hm hv (pa_cons pe pa_nil he) hn hdb he hpl, fun w Q s h => ?_⟩
  refine re.bindR (Q := Q) s h fun w1 x d s1 e1 a1 r1 h1 => ?_
  cases z : pp d with
  | none => simp only [z] at h1; exact h1.elim
  | some y =>
    simp only [z] at h1
    exact hr w1 x d y Q s1 r1 z fun v rv => h1 w1 v rfl rfl rfl (Aft.refl s1) (rv _ _)
theorem de_t1 (hc : CallR X (.type T) r) (hr : AnsC X.K (MGx X W.b) r pp) (hg : Gl X x) (hm : X.mg x = none) (hv : bootBuiltins x = some (.type T)) (ha : DV X W e f) (hn : x ≠ "__name__" := by decide) (hdb : (x == ("__debug__" : Str)) = false := by decide)
    (he : starEach [e] X.env = (false, eval e X.env) :: starEach [] X.env := by rfl) (hpl : (backTo pos (starEach [] X.env)).any (·.1) = false := by rfl) : DE X W (.Call (.Name x p) [e] [] pos) (lift1 pp f) := by
  obtain ⟨te, pe, re⟩ := ha
  refine ⟨_, pe_callTy hc hg hm hv (pa_cons pe pa_nil he) hn hdb he hpl, fun w Q s h => ?_⟩
  refine re.bindR (Q := Q) s h fun w1 x d s1 e1 a1 r1 h1 => ?_
  cases z : pp d with
  | none => simp only [z] at h1; exact h1.elim
  | some y =>
    simp only [z] at h1
    exact hr w1 x d y Q s1 r1 z fun v rv => h1 w1 v rfl rfl rfl (Aft.refl s1) (rv _ _)
theorem de_b2 (hc : CallR X (.builtin id) r) (hr : AnsC2 X.K (MGx X W.b) r p2) (hg : Gl X x) (hm : X.mg x = none) (hv : bootBuiltins x = some (.builtin id)) (ha : DE X W e f) (hb : DV X W e2 g) (hn : x ≠ "__name__" := by decide) (hdb : (x == ("__debug__" : Str)) = false := by decide)
    (he : starEach [e, e2] X.env = (false, eval e X.env) :: starEach [e2] X.env := by rfl) (he2 : starEach [e2] X.env = (false, eval e2 X.env) :: starEach [] X.env := by rfl) (hpl : (backTo pos (starEach [e2] X.env)).any (·.1) = false := by rfl) : DE X W (.Call (.Name x p) [e, e2] [] pos) (lift2 p2 f g) := by
  obtain ⟨te, pe, re⟩ := ha
  obtain ⟨te2, pe2, re2⟩ := hb
  refine ⟨_, pe_callB hc hg hm hv (pa_cons pe (pa_cons pe2 pa_nil he2) he) hn hdb he hpl, fun w Q s h => ?_⟩
  refine re.bindR (Q := Q) s h fun w1 x d s1 e1 a1 r1 h1 => ?_
  show te2 w.σ w1.H _
  rw [← e1]
  refine re2.bindR (Q := Q) s1 h1 fun w2 y e' s2 e2 a2 r2 h2 => ?_
  cases z : p2 d e' with
  | none => simp only [z] at h2; exact h2.elim
  | some y' =>
    simp only [z] at h2
    exact hr w2 x y d e' y' Q s2 (.inl (r1.mono a2.g a2.i)) r2 z fun v rv => h2 w2 v rfl rfl rfl (Aft.refl s2) (rv _ _)
end
@[simp] def pLen : D → Option D
  | .str z => if z.length ≤ sizeLine then some (.int z.length) else none
  | .lst ds => some (.int ds.length)
  | .lsk ds => some (.int ds.length)
  | .tup ds => some (.int ds.length)
  | _ => none
@[simp] def pAbs : D → Option D
  | .int i => some (.int (if i < 0 then -i else i))
  | _ => none
@[simp] def pInt : D → Option D
  | .int i => some (.int i)
  | .bl b => some (.int (if b then 1 else 0))
  | _ => none
@[simp] def pMax : D → D → Option D
  | .int i, .int j => some (.int (if j > i then j else i))
  | _, _ => none
@[simp] def pMin : D → D → Option D
  | .int i, .int j => some (.int (if j < i then j else i))
  | _, _ => none
@[simp] def bools : List D → Option (List Bool)
  | [] => some []
  | .bl b :: ds => (bools ds).map (b :: ·)
  | _ :: _ => none
@[simp] def pAll : D → Option D
  | .lst ds => (bools ds).map fun bs => .bl (bs.all id)
  | _ => none
@[simp] def pAny : D → Option D
  | .lst ds => (bools ds).map fun bs => .bl (bs.any id)
  | _ => none
section
variable {K : PySem.W.Frag} {mg : MG}
theorem bools_reps {G : Hp} {ι : List Addr} : ∀ {vs : List V} {ds : List D} {bs : List Bool}, Reps K mg G ι vs ds → bools ds = some bs → vs = bs.map V.bl
  | _, [], _, .nil, h => by cases h; rfl
  | _, d :: ds, bs, .cons r rs, h => by
    cases d with
    | bl b =>
      obtain ⟨bs', e, rfl⟩ := Option.map_eq_some_iff.mp h
      rw [r.bl_inv, bools_reps rs e]; rfl
    | _ => simp [bools] at h
theorem ansC_len : AnsC K mg (fun xs H Q => ∃ x n, xs = [x] ∧ LenV K x H n ∧ Q (.int n) H) pLen := fun w x d z Q s rx q k => by
  unfold pLen at q
  split at q
  · rename_i y
    split at q
    · rename_i hz
      cases q
      exact ⟨x, _, rfl, by rw [rx.str_inv]; exact ⟨hz, rfl⟩, k _ fun _ _ => .int _⟩
    · cases q
  · cases q
    obtain ⟨a, vs, rfl, h1, h2, h3⟩ := rx.lst_inv s
    exact ⟨_, vs.length, rfl, .inl ⟨vs, SqL.of h1, rfl⟩, by rw [h3.len]; exact k _ fun _ _ => .int _⟩
  · cases q
    obtain ⟨a, vs, rfl, h1, h2, h3⟩ := rx.lsk_inv s
    exact ⟨_, vs.length, rfl, .inl ⟨vs, h1, rfl⟩, by rw [h3.len]; exact k _ fun _ _ => .int _⟩
  · cases q
    obtain ⟨a, vs, rfl, h1, h2, h3⟩ := rx.tup_inv s
    exact ⟨_, vs.length, rfl, .inr ⟨vs, h1, rfl⟩, by rw [h3.len]; exact k _ fun _ _ => .int _⟩
  · cases q
theorem ansC_abs : AnsC K mg (fun xs H Q => ∃ i, xs = [.int i] ∧ Q (.int (if i < 0 then -i else i)) H) pAbs := fun w x d z Q s rx q k => by
  unfold pAbs at q
  split at q
  · cases q; exact ⟨_, by rw [rx.int_inv], k _ fun _ _ => .int _⟩
  · cases q
theorem ansC_int : AnsC K mg (fun xs H Q => (∃ i, xs = [.int i] ∧ Q (.int i) H) ∨ ∃ k, xs = [.bl k] ∧ Q (.int (if k then 1 else 0)) H) pInt := fun w x d z Q s rx q k => by
  unfold pInt at q
  split at q
  · cases q; exact .inl ⟨_, by rw [rx.int_inv], k _ fun _ _ => .int _⟩
  · cases q; exact .inr ⟨_, by rw [rx.bl_inv], k _ fun _ _ => .int _⟩
  · cases q
theorem ansC_max : AnsC2 K mg (fun xs H Q => ∃ i j, xs = [.int i, .int j] ∧ Q (.int (if j > i then j else i)) H) pMax := fun w x y d e z Q s rx ry q k => by
  unfold pMax at q
  split at q
  · cases q; exact ⟨_, _, by rw [rx.int_inv, ry.int_inv], k _ fun _ _ => .int _⟩
  · cases q
theorem ansC_min : AnsC2 K mg (fun xs H Q => ∃ i j, xs = [.int i, .int j] ∧ Q (.int (if j < i then j else i)) H) pMin := fun w x y d e z Q s rx ry q k => by
  unfold pMin at q
  split at q
  · cases q; exact ⟨_, _, by rw [rx.int_inv, ry.int_inv], k _ fun _ _ => .int _⟩
  · cases q
theorem ansC_all : AnsC K mg (rAll K) pAll := fun w x d z Q s rx q k => by
  unfold pAll at q
  split at q
  · obtain ⟨bs, e, rfl⟩ := Option.map_eq_some_iff.mp q
    obtain ⟨a, vs, rfl, h1, h2, h3⟩ := rx.lst_inv s
    exact ⟨a, bs, rfl, by rw [← bools_reps h3 e]; exact SqL.of h1, k _ fun _ _ => .bl _⟩
  · cases q
theorem ansC_any : AnsC K mg (rAny K) pAny := fun w x d z Q s rx q k => by
  unfold pAny at q
  split at q
  · obtain ⟨bs, e, rfl⟩ := Option.map_eq_some_iff.mp q
    obtain ⟨a, vs, rfl, h1, h2, h3⟩ := rx.lst_inv s
    exact ⟨a, bs, rfl, by rw [← bools_reps h3 e]; exact SqL.of h1, k _ fun _ _ => .bl _⟩
  · cases q
end
@[simp] def pIx : D → D → Option D
  | .lst ds, .int i => atI ds i
  | .lsk ds, .int i => atI ds i
  | .tup ds, .int i => atI ds i
  | .str z, .int i => if z.length ≤ sizeLine then (atI z.cps.toList i).map fun c => .str ⟨#[c]⟩ else none
  | _, _ => none
section
variable {K : PySem.W.Frag} {mg : MG}
theorem Reps.atI {G : Hp} {ι : List Addr} {vs : List V} {ds : List D} {i : Int} {d : D} (r : Reps K mg G ι vs ds) (h : L2.atI ds i = some d) : ∃ v, L2.atI vs i = some v ∧ Rep K mg G ι v d := by
  unfold L2.atI at h ⊢
  rw [r.len]
  cases e : ixN ds.length i with
  | none => rw [e] at h; cases h
  | some j =>
    rw [e] at h
    obtain ⟨v, h1, h2⟩ := r.get h
    exact ⟨v, h1, h2⟩
theorem ans_ix (w : Ws) (x y : V) (d e z : D) (Q : VK) (s : Sts K mg w) (rx : RepV K mg w x d) (ry : RepV K mg w y e) (q : pIx d e = some z) (k : ∀ v, Rep K mg w.G w.ι v z → Q v w.H) : rIx K x y w.H Q := by
  unfold pIx at q
  split at q
  · obtain ⟨a, vs, rfl, h1, h2, h3⟩ := rx.lst_inv s
    obtain ⟨v, hv, rv⟩ := h3.atI q
    exact .inl ⟨a, vs, _, v, rfl, ry.int_inv, SqL.of h1, hv, k v rv⟩
  · obtain ⟨a, vs, rfl, h1, h2, h3⟩ := rx.lsk_inv s
    obtain ⟨v, hv, rv⟩ := h3.atI q
    exact .inl ⟨a, vs, _, v, rfl, ry.int_inv, h1, hv, k v rv⟩
  · obtain ⟨a, vs, rfl, h1, h2, h3⟩ := rx.tup_inv s
    obtain ⟨v, hv, rv⟩ := h3.atI q
    exact .inr (.inl ⟨a, vs, _, v, rfl, ry.int_inv, h1, hv, k v rv⟩)
  · split at q
    · rename_i hz
      obtain ⟨c, e, rfl⟩ := Option.map_eq_some_iff.mp q
      exact .inr (.inr ⟨_, _, c, rx.str_inv, ry.int_inv, hz, e, k _ (.str _)⟩)
    · cases q
  · cases q
end
section
variable {X : Cx} {W : WB} {a b : Expr} {f g : DEx} {p q : DPx} {pos : Pos}
theorem dp_ix (ha : DPv X a p) (hb : DP X b q) (hs : PlainIx b) : DP X (.Subscript a b pos) (plift2 pIx p q) := by
  obtain ⟨ta, pa, ra⟩ := ha
  obtain ⟨tb, pb, rb⟩ := hb
  refine ⟨_, pe_ix ix_seq pa pb hs, fun bb w Q z s h k => ?_⟩
  unfold plift2 at h
  split at h
  · rename_i d e h1 h2
    exact ra bb w _ d s h1 fun x rx => rb bb w _ e s h2 fun y ry => ans_ix w x y d e z Q s rx (.inl ry) h k
  · cases h
theorem de_ix (ha : DE X W a f) (hb : DE X W b g) (hs : PlainIx b) : DE X W (.Subscript a b pos) (lift2 pIx f g) := by
  obtain ⟨ta, pa, ra⟩ := ha
  obtain ⟨tb, pb, rb⟩ := hb
  refine ⟨_, pe_ix ix_seq pa pb hs, fun w Q s h => ?_⟩
  refine ra.bindR (Q := Q) s h fun w1 x d s1 e1 a1 r1 h1 => ?_
  show tb w.σ w1.H _
  rw [← e1]
  refine rb.bindR (Q := Q) s1 h1 fun w2 y e s2 e2 a2 r2 h2 => ?_
  cases z : pIx d e with
  | none => simp only [z] at h2; exact h2.elim
  | some y' =>
    simp only [z] at h2
    exact ans_ix w2 x y d e y' Q s2 (.inl (r1.mono a2.g a2.i)) (.inl r2) z fun v rv => h2 w2 v rfl rfl rfl (Aft.refl s2) rv
end
def cutD (ds : List D) (lo hi : Option Int) : List D := (ds.drop (HT.sIx ds.length 0 lo)).take (HT.sIx ds.length ds.length hi - HT.sIx ds.length 0 lo)
theorem Reps.cut {K : PySem.W.Frag} {mg : MG} {G : Hp} {ι : List Addr} {vs : List V} {ds : List D} (lo hi : Option Int) (r : Reps K mg G ι vs ds) : Reps K mg G ι (cutV vs lo hi) (cutD ds lo hi) := by
  unfold cutV cutD
  rw [r.len]
  exact (r.drop _).take _
@[simp] def bdN (ρ : En) (st : Store) : R := .ok .non ρ st
@[simp] def bd : D → Option (Option Int)
  | .non => some none
  | .int i => some (some i)
  | _ => none
def RefB (K : PySem.W.Frag) (mg : MG) (W : WB) (t : TO) (f : DEx) : Prop := ∀ (w : Ws) (Q : Option Int → Hp → Prop) (P : R → Prop) (r : D → En → Store → R), Sts K mg w → P ((f w.ρ w.st).bind r) →
  (∀ c ρ st, P (.exc c ρ st) → ∀ (w' : Ws) (cls : Value) (dx : Option Addr), w'.ρ = ρ → w'.st = st → w'.σ = w.σ → Aft K mg w w' → ExcAt K mg w' c cls dx → W cls dx w'.σ w'.H) → (P .bad → False) → (∀ d ρ st, bd d = none → r d ρ st = .bad) →
  (∀ (w1 : Ws) (d : D) (b : Option Int), bd d = some b → w1.σ = w.σ → Aft K mg w w1 → P (r d w1.ρ w1.st) → Q b w1.H) → t w.σ w.H Q
def DB (X : Cx) (W : WB) (e : Option Expr) (f : DEx) : Prop := ∃ t, PO X e t ∧ RefB X.K (MGx X W.b) W t f
theorem db_none {X : Cx} {W : WB} : DB X W none bdN := ⟨_, po_none, fun w Q P r s h hx hb hd k => k w .non none rfl rfl (Aft.refl s) h⟩
@[simp] def bdS (f : DEx) (ρ : En) (st : Store) : R := (f ρ st).bind fun d ρ st => match d with
  | .int i => .ok (.int i) ρ st
  | _ => .bad
theorem db_some {X : Cx} {W : WB} {e : Expr} {f : DEx} (h : DE X W e f) : DB X W (some e) (bdS f) := by
  obtain ⟨t, p, rf⟩ := h
  refine ⟨_, po_some p, fun w Q P r s h hx hb hd k => ?_⟩
  refine rf w _ s ?_
  unfold bdS at h
  cases e : f w.ρ w.st with
  | ok d ρ st =>
    rw [e] at h
    intro w' v h1 h2 h3 A rv
    subst h1; subst h2
    cases d with
    | int i => exact ⟨i, rv.int_inv, k w' _ _ rfl h3 A h⟩
    | _ => exact (hb h).elim
  | exc c ρ st => rw [e] at h; exact hx _ _ _ h
  | bad => rw [e] at h; exact (hb h).elim
@[simp] def lkD (st : Store) : D → D
  | .ref l => match st[l]? with
    | some (.lst ds) => .lst ds
    | some (.dct ds) => .dct ds
    | _ => .ref l
  | d => d
theorem lk_repV {K : PySem.W.Frag} {mg : MG} {w : Ws} {v : V} {d : D} (s : Sts K mg w) (r : Rep K mg w.G w.ι v d) : RepV K mg w v (lkD w.st d) := by
  cases d with
  | ref l =>
    simp only [lkD]
    cases r with
    | ref hi =>
      rename_i a
      cases hst : w.st[l]? with
      | none => exact .inl (.ref hi)
      | some c =>
        cases c with
        | lst ds =>
          obtain ⟨_, vs, h, hl, rs⟩ := s.cel l _ a hst hi
          exact .inr (.inl ⟨a, vs, ds, rfl, rfl, h, hl, rs⟩)
        | dct ds =>
          obtain ⟨_, vs, h, rs⟩ := s.cel l _ a hst hi
          exact .inr (.inr ⟨a, vs, ds, rfl, rfl, h, rs⟩)
        | ins c fs => exact .inl (.ref hi)
        | dead => exact .inl (.ref hi)
        | tab q nm => exact .inl (.ref hi)
  | _ => exact .inl r
@[simp] def slX (k : D → Option Int → Option Int → Option D) (f l h : DEx) (ρ : En) (st : Store) : R := (f ρ st).bind fun d ρ st => (l ρ st).bind fun lo ρ st => match bd lo with
  | some lo => (h ρ st).bind fun hi ρ st => (match bd hi with
    | some hi => (match k (lkD st d) lo hi with
      | some z => .ok z ρ st
      | none => .bad)
    | none => .bad)
  | none => .bad
section
variable {X : Cx} {W : WB} {e : Expr} {lo hi : Option Expr} {f l h : DEx} {p2 pos : Pos}
theorem ref_sl {K : PySem.W.Frag} {mg : MG} {k : D → Option Int → Option Int → Option D} {r : V → Option Int → Option Int → Hp → VK → Prop} {te : TE} {tl th : TO} {w : Ws} {Q : VK} {P : R → Prop} (s : Sts K mg w)
    (re : RefE K mg W te f) (rl : RefB K mg W tl l) (rh : RefB K mg W th h) (q : P (slX k f l h w.ρ w.st))
    (hx : ∀ c ρ st, P (.exc c ρ st) → ∀ (w' : Ws) (cls : Value) (dx : Option Addr), w'.ρ = ρ → w'.st = st → w'.σ = w.σ → Aft K mg w w' → ExcAt K mg w' c cls dx → W cls dx w'.σ w'.H) (hb : P .bad → False)
    (hr : ∀ (w3 : Ws) (v : V) (d z : D) (lo hi : Option Int), w3.σ = w.σ → Aft K mg w w3 → RepV K mg w3 v d → k d lo hi = some z → P (.ok z w3.ρ w3.st) → r v lo hi w3.H Q) : tSl r te tl th w.σ w.H Q := by
  refine re.bind (P := P) s q hx hb fun w1 v d e1 a1 r1 q1 => ?_
  show tl w.σ w1.H _
  rw [← e1]
  refine rl w1 _ P _ a1.s q1 (fun c ρ st z w' cls dx h1 h2 h3 A x => hx c ρ st z w' cls dx h1 h2 (h3.trans e1) (a1.trans A) x) hb (fun d' ρ st hb => by simp only [hb]) fun w2 dl bl hbl e2 a2 q2 => ?_
  simp only [hbl] at q2
  rw [← e2]
  have a12 := a1.trans a2
  have e12 := e2.trans e1
  refine rh w2 _ P _ a2.s q2 (fun c ρ st z w' cls dx h1 h2 h3 A x => hx c ρ st z w' cls dx h1 h2 (h3.trans e12) (a12.trans A) x) hb (fun d' ρ st hb => by simp only [hb]) fun w3 dh bh hbh e3 a3 q3 => ?_
  simp only [hbh] at q3
  cases z : k (lkD w3.st d) bl bh with
  | none => simp only [z] at q3; exact (hb q3).elim
  | some y =>
    simp only [z] at q3
    exact hr w3 v _ y bl bh (e3.trans e12) (a12.trans a3) (lk_repV a3.s (r1.mono (a2.g.trans a3.g) (a2.i.trans a3.i))) z q3
end
end DL
namespace DL
open PySem L2
abbrev MutK := List D → List D → Option (List D × D)
@[simp] def mutAt (i : Nat) (k : MutK) (args : List D) (ρ : En) (st : Store) : R := match ρ[i]? with
  | some (.ml ds) => (match k ds args with
    | some (ds', z) => .ok z (ρ.set i (.ml ds')) st
    | none => .bad)
  | some (.val (.ref l)) => (match st[l]? with
    | some (.lst ds) => (match k ds args with
      | some (ds', z) => .ok z ρ (st.set l (.lst ds'))
      | none => .bad)
    | _ => .bad)
  | _ => .bad
@[simp] def holdsL (i : Nat) (ρ : En) (st : Store) : Bool := match ρ[i]? with
  | some (.ml _) => true
  | some (.val (.ref l)) => (match st[l]? with
    | some (.lst _) => true
    | _ => false)
  | _ => false
@[simp] def mutD (i : Nat) (k : MutK) (f : DEx) (ρ : En) (st : Store) : R := match holdsL i ρ st with
  | true => (f ρ st).bind fun d ρ st => (match d with
    | .tup args => mutAt i k args ρ st
    | _ => .bad)
  | false => .bad
def AnsM (K : PySem.W.Frag) (mg : MG) (r : V → List V → Hp → VK → Prop) (k : MutK) : Prop :=
  ∀ (G H : Hp) (ι : List Addr) (a : Addr) (vs xs : List V) (ds args ds' : List D) (z : D) (Q : VK), H a = some (.lst vs) → vs.length ≤ sizeLine → Reps K mg G ι vs ds → Reps K mg G ι xs args → k ds args = some (ds', z) →
    (∀ vs' v, vs'.length ≤ sizeLine → Reps K mg G ι vs' ds' → Rep K mg G ι v z → Q v (upd H a (.lst vs'))) → r (.ref a) xs H Q
section
variable {K : PySem.W.Frag} {mg : MG} {W : WB}
theorem mutAt_inv {w : Ws} {i : Nat} {k : MutK} {args : List D} {Q : VK} (s : Sts K mg w) (q : OkR K mg W w Q (mutAt i k args w.ρ w.st)) : ∃ a vs ds ds' z, w.σ[i]? = some (some (.ref a)) ∧ w.H a = some (.lst vs) ∧ vs.length ≤ sizeLine ∧ Reps K mg w.G w.ι vs ds ∧ k ds args = some (ds', z) ∧
    ∀ vs' v, vs'.length ≤ sizeLine → Reps K mg w.G w.ι vs' ds' → Rep K mg w.G w.ι v z → Q v (upd w.H a (.lst vs')) := by
  unfold mutAt at q
  split at q
  · rename_i ds e
    split at q
    · rename_i ds' z hk
      obtain ⟨a, vs, e1, e2, e3, e4, e5⟩ := s.slo i _ e
      refine ⟨a, vs, ds, ds', z, e1, e3, e4, e5, hk, fun vs' v hz r rv => ?_⟩
      exact q { w with ρ := w.ρ.set i (.ml ds'), H := upd w.H a (.lst vs') } v rfl rfl rfl (Aft.mutMl s e e1 hz r) rv
    · exact q.elim
  · rename_i l e
    split at q
    · rename_i ds hl
      split at q
      · rename_i ds' z hk
        obtain ⟨v0, e1, r0⟩ := s.slo i _ e
        cases r0 with
        | ref ha =>
          rename_i a
          obtain ⟨ga, vs, e3, e4, e5⟩ := s.cel l _ a hl ha
          refine ⟨a, vs, ds, ds', z, e1, e3, e4, e5, hk, fun vs' v hz r rv => ?_⟩
          exact q { w with H := upd w.H a (.lst vs'), st := w.st.set l (.lst ds') } v rfl rfl rfl (Aft.mutCell s hl (by simp) ha (by simp) ⟨ga, vs', upd_same, hz, r⟩) rv
      · exact q.elim
    · exact q.elim
  · exact q.elim
theorem holdsL_inv {w : Ws} {i : Nat} (s : Sts K mg w) (h : holdsL i w.ρ w.st = true) : ∃ a vs, w.σ[i]? = some (some (.ref a)) ∧ w.H a = some (.lst vs) := by
  unfold holdsL at h
  split at h
  · rename_i ds e
    obtain ⟨a, vs, e1, e2, e3, e4, e5⟩ := s.slo i _ e
    exact ⟨a, vs, e1, e3⟩
  · rename_i l e
    split at h
    · rename_i ds hl
      obtain ⟨v0, e1, r0⟩ := s.slo i _ e
      cases r0 with
      | ref ha =>
        rename_i a
        obtain ⟨ga, vs, e3, e4, e5⟩ := s.cel l _ a hl ha
        exact ⟨a, vs, e1, e3⟩
    · cases h
  · cases h
theorem refE_mut {t : TA} {f : DEx} {i : Nat} {k : MutK} {r : V → List V → Hp → VK → Prop} (ha : RefA K mg W t f) (hr : AnsM K mg r k) : RefE K mg W (tBM K "list" r (tVar i) t) (mutD i k f) := fun w Q s q => by
  unfold mutD at q
  split at q
  · rename_i hh
    obtain ⟨a, vs, e1, e2⟩ := holdsL_inv s hh
    refine ⟨_, e1, .inl ⟨rfl, vs, .inl (.inl e2)⟩, ?_⟩
    refine ha.bind (P := OkR K mg W w Q) s q (fun d ρ st n => by cases d <;> first | rfl | exact absurd rfl (n _)) (fun _ _ _ z => z) (fun z => z) fun w1 xs args e3 a1 r1 _ q1 => ?_
    obtain ⟨a', vs', ds, ds', z, h1, h2, h3, h4, h5, h6⟩ := mutAt_inv a1.s (OkR.aft q1 a1 e3)
    rw [e3, e1] at h1
    cases h1
    exact hr w1.G w1.H w1.ι a vs' xs ds args ds' z Q h2 h3 h4 r1 h5 h6
  · exact q.elim
end
@[simp] def kApp : MutK := fun ds args => match args with
  | [d] => if ds.length < sizeLine then some (ds ++ [d], .non) else none
  | _ => none
@[simp] noncomputable def kPopAt : MutK := fun ds args => match args with
  | [.int i] => if Rs i then (match seqIndex? i ds.length with
    | some k => (match ds[k]? with
      | some d => some (ds.eraseIdx k, d)
      | none => none)
    | none => none) else none
  | _ => none
@[simp] noncomputable def kIns : MutK := fun ds args => match args with
  | [.int i, d] => if ds.length < sizeLine ∧ 0 ≤ i ∧ Rs i then some (ds.take i.toNat ++ [d] ++ ds.drop i.toNat, .non) else none
  | _ => none
section
variable {K : PySem.W.Frag} {mg : MG}
theorem Reps.dropLast {G : Hp} {ι : List Addr} {vs : List V} {ds : List D} (r : Reps K mg G ι vs ds) : Reps K mg G ι vs.dropLast ds.dropLast := by
  rw [List.dropLast_eq_take, List.dropLast_eq_take, r.len]; exact r.take _
theorem ansM_app : AnsM K mg rAppend kApp := fun G H ι a vs xs ds args ds' z Q h hz r rx hk q => by
  unfold kApp at hk
  split at hk
  · split at hk
    · rename_i d hl
      cases hk
      obtain ⟨v, rfl, rv⟩ := rx.inv1
      refine ⟨a, vs, v, rfl, rfl, h, by rw [r.len]; exact hl, q _ .non ?_ (r.append (.cons rv .nil)) .non⟩
      simp [r.len]; omega
    · cases hk
  · cases hk
theorem ansM_popAt : AnsM K mg rPopAt kPopAt := fun G H ι a vs xs ds args ds' z Q h hz r rx hk q => by
  unfold kPopAt at hk
  split at hk
  · split at hk
    · rename_i i hb
      split at hk
      · rename_i k hi
        split at hk
        · rename_i d hd
          cases hk
          obtain ⟨v0, rfl, rv0⟩ := rx.inv1
          obtain ⟨v, hv, rv⟩ := r.get hd
          refine ⟨a, vs, i, k, v, rfl, by rw [rv0.int_inv], h, hb.1, hb.2, by rw [r.len]; exact hi, hv, q _ v ?_ (r.eraseIdx k) rv⟩
          rw [List.length_eraseIdx]; split <;> omega
        · cases hk
      · cases hk
    · cases hk
  · cases hk
theorem ansM_ins : AnsM K mg (fun x vs H Q => ∃ (l : Addr) (xs : List V) (i : Int) (y : V), x = .ref l ∧ vs = [.int i, y] ∧ H l = some (.lst xs) ∧ xs.length < sizeLine ∧ 0 ≤ i ∧ i < 2 ^ 63 ∧
    Q .non (upd H l (.lst (xs.take i.toNat ++ [y] ++ xs.drop i.toNat)))) kIns := fun G H ι a vs xs ds args ds' z Q h hz r rx hk q => by
  unfold kIns at hk
  split at hk
  · split at hk
    · rename_i i d hb
      cases hk
      obtain ⟨v0, v, rfl, rv0, rv⟩ := rx.inv2
      refine ⟨a, vs, i, v, rfl, by rw [rv0.int_inv], h, by rw [r.len]; exact hb.1, hb.2.1, hb.2.2.2, q _ .non ?_ (((r.take _).append (.cons rv .nil)).append (r.drop _)) .non⟩
      have := r.len
      simp; omega
    · cases hk
  · cases hk
end
section
variable {X : Cx} {W : WB} {o e : Expr} {es : List Expr} {f : DEx} {name x : Str} {np apos cpos : Pos} {id : String} {r : V → List V → Hp → VK → Prop} {k : MutK} {i : Nat}
theorem de_mut (slot : Slot "list" name id) (hty : typeOf (.builtin id) = pure (.type "method_descriptor")) (hm : MtR X id r) (hr : AnsM X.K (MGx X W.b) r k) (ha : DAn X W (e :: es) f)
    (hN : X.N[i]? = some x := by rfl) (hv : Vis X.env.scope x := by first | exact Or.inl rfl | exact Or.inr (Or.inl rfl) | exact Or.inr (Or.inr rfl)) (hd : (x == ("__debug__" : Str)) = false := by decide) (hcd : (x == ("__classdict__" : Str)) = false := by decide)
    (hbase : attributeBase (.Name x np) name X.env (eval (.Name x np) X.env) = eval (.Name x np) X.env := by rfl)
    (hfew : ((backTo cpos (starEach (e :: es) X.env)).all (fun x => !x.1) && (backToKw cpos (keywordEach [] X.env)).all (fun x => x.1.isSome)
      && decide ((e :: es).length + ([] : List Keyword).length + (if ([] : List Keyword).isEmpty then 0 else 1) < 30)) = true := by rfl)
    (hline : (apos.endLine == cpos.line) = true := by rfl) (hs : starEach (e :: es) X.env = (false, eval e X.env) :: starEach es X.env := by rfl) (hplain : (backTo cpos (starEach es X.env)).any (·.1) = false := by rfl) :
    DE X W (.Call (.Attribute (.Name x np) name apos) (e :: es) [] cpos) (mutD i k f) := by
  obtain ⟨⟨t, pt, rt⟩, _⟩ := ha
  exact ⟨_, pe_bm PySem.F.plainAttrs_list slot hty hm (pv i hN hv hd hcd) pt hbase hfew hline hs hplain, refE_mut rt hr⟩
end
end DL
namespace DL
open PySem L2
@[simp] def kSet (j : D) : MutK := fun ds args => match args, j with
  | [d], .int k => (match ixN ds.length k with
    | some n => some (ds.set n d, .non)
    | none => none)
  | _, _ => none
@[simp] def subSetD (i : Nat) (p : DPx) (f : DEx) (ρ0 : En) (st0 : Store) : Fl := thenF f (fun d ρ st => match p ρ st with
  | some j => (match mutAt i (kSet j) [d] ρ st with
    | .ok _ ρ st => .nx ρ st
    | _ => .bad)
  | none => .bad) ρ0 st0
section
variable {X : Cx} {W : WB} {e j : Expr} {f : DEx} {p : DPx} {x : Str} {np pos tpos : Pos} {i : Nat}
theorem ds_sub (he : DE X W e f) (hj : DP X j p)
    (hN : X.N[i]? = some x := by rfl) (hv : Vis X.env.scope x := by first | exact Or.inl rfl | exact Or.inr (Or.inl rfl) | exact Or.inr (Or.inr rfl)) (hd : (x == ("__debug__" : Str)) = false := by decide) (hcd : (x == ("__classdict__" : Str)) = false := by decide)
    (ha : ∀ v, assign (.Subscript (.Name x np) j tpos) X.env v = (do
      let ov ← holding [v] (eval (.Name x np) X.env)
      let iv ← holding [v, ov] (eval j X.env)
      standAt tpos
      holding [v, ov, iv] (setItem ov iv v)
      release [v, ov, iv] []) := by intro _; rfl)
    (hs : swapsWithSole [.Subscript (.Name x np) j tpos] e pos.line X.env = pure false := by rfl) (hw : swappedStores [.Subscript (.Name x np) j tpos] e X.env = pure none := by rfl)
    (h1 : (assignEach [.Subscript (.Name x np) j tpos] X.env).map (·.2) = [assign (.Subscript (.Name x np) j tpos) X.env] := by rfl) : DS X W (.Assign [.Subscript (.Name x np) j tpos] e pos) (subSetD i p f) := by
  obtain ⟨te, pe, re⟩ := he
  obtain ⟨tj, pj, rj⟩ := hj
  refine ⟨_, ps_asg pe (pg_sub (pv i hN hv hd hcd) pj set_list ha) hs hw h1, fun w E s q => ?_⟩
  refine re.bindF s q fun w1 v d s1 e1 a1 r1 q1 => ?_
  cases z : p w1.ρ w1.st with
  | none => simp only [z] at q1; exact q1.elim
  | some jd =>
    simp only [z] at q1
    have q2 : OkR X.K (MGx X W.b) W w1 (fun _ H => E.nx w1.σ H) (mutAt i (kSet jd) [d] w1.ρ w1.st) := by
      cases y : mutAt i (kSet jd) [d] w1.ρ w1.st with
      | ok d' ρ st =>
        rw [y] at q1
        intro w' v h1 h2 h3 A r
        have := q1 w' h1 h2 A
        rw [h3] at this; exact this
      | exc c ρ st => rw [y] at q1; exact q1.elim
      | bad => rw [y] at q1; exact q1.elim
    obtain ⟨a, vs, ds, ds', y, h1, h2, h3, h4, h5, h6⟩ := mutAt_inv s1 q2
    show gSub (tVar i) tj rSetL v w.σ w1.H E.nx
    refine ⟨.ref a, by rw [← e1]; exact h1, ?_⟩
    rw [← e1]
    refine rj _ w1 _ jd s1 z fun vj rvj => ?_
    unfold kSet at h5
    split at h5
    · split at h5
      · rename_i n hn
        cases h5
        rename_i heq _
        cases heq
        refine ⟨a, vs, _, n, rfl, rvj.int_inv, h2, by rw [h4.len]; exact hn, ?_⟩
        exact h6 (vs.set n v) .non (by simpa using h3) (h4.set r1 n) .non
      · cases h5
    · cases h5
end
@[simp] def kOf : D → Option (List D)
  | .lst ds => some ds
  | .tup ds => some ds
  | .lsk ds => some ds
  | _ => none
@[simp] def listD (f : DEx) (ρ : En) (st : Store) : R := (f ρ st).bind fun d ρ st => match kOf d with
  | some ds => .ok (.lst ds) ρ st
  | none => .bad
@[simp] def tupleD (f : DEx) (ρ : En) (st : Store) : R := (f ρ st).bind fun d ρ st => match kOf d with
  | some ds => .ok (.tup ds) ρ st
  | none => .bad
theorem listD_isL {f : DEx} : IsL (listD f) := fun ρ st d ρ' st' h => by
  unfold listD at h
  cases e : f ρ st with
  | ok d1 ρ1 st1 =>
    rw [e] at h
    simp only [R.bind] at h
    split at h
    · cases h; exact ⟨_, rfl⟩
    · cases h
  | exc c ρ1 st1 => rw [e] at h; cases h
  | bad => rw [e] at h; cases h
theorem RepV.seq {K : PySem.W.Frag} {mg : MG} {w : Ws} {v : V} {d : D} {ds : List D} (s : Sts K mg w) (h : RepV K mg w v d) (k : kOf d = some ds) : ∃ a vs, v = .ref a ∧ (SqL K w.H a vs ∨ SqT K w.G a vs) ∧ vs.length ≤ sizeLine ∧ Reps K mg w.G w.ι vs ds := by
  cases d with
  | lst es => cases k; obtain ⟨a, vs, e, h1, h2, h3⟩ := h.lst_inv s; exact ⟨a, vs, e, .inl (SqL.of h1), h2, h3⟩
  | lsk es => cases k; obtain ⟨a, vs, e, h1, h2, h3⟩ := h.lsk_inv s; exact ⟨a, vs, e, .inl h1, h2, h3⟩
  | tup es =>
    cases k
    rcases h with h | ⟨a, vs, ds, rfl, e, h1, h2, h3⟩ | ⟨a, vs, ds, _, e, _⟩
    · cases h with
      | tup h l r => exact ⟨_, _, rfl, .inr h, l, r⟩
    · cases e
    · cases e
  | _ => cases k
theorem RefV.bindO {K : PySem.W.Frag} {mg : MG} {W : WB} {t : TE} {f : DEx} (h : RefV K mg W t f) {w : Ws} {Q Q1 : VK} {r : D → En → Store → R} (s : Sts K mg w) (hP : OkO K mg W w Q ((f w.ρ w.st).bind r))
    (k : ∀ (w1 : Ws) (v : V) (d : D), w1.σ = w.σ → Aft K mg w w1 → RepV K mg w1 v d → OkO K mg W w Q (r d w1.ρ w1.st) → Q1 v w1.H) : t w.σ w.H Q1 :=
  h.bind (P := OkO K mg W w Q) s hP (fun _ _ _ z => z) (fun z => z) fun w1 v d e a rp q => k w1 v d e a rp q
section
variable {X : Cx} {W : WB} {e e2 a b : Expr} {f g : DEx} {p pos : Pos}
theorem do_list (hg : Gl X "list") (hm : X.mg "list" = none) (ha : DV X W e f) (he : starEach [e] X.env = (false, eval e X.env) :: starEach [] X.env := by rfl) (hpl : (backTo pos (starEach [] X.env)).any (·.1) = false := by rfl) : DO X W (.Call (.Name "list" p) [e] [] pos) (listD f) := by
  obtain ⟨te, pe, re⟩ := ha
  refine ⟨⟨_, pe_callTy call_list_of hg hm (by decide +kernel) (pa_cons pe pa_nil he) (by decide) (by decide) he hpl, fun w Q s q => ?_⟩, listD_isL⟩
  refine re.bindO s q fun w1 v d e1 a1 r1 q1 => ?_
  cases z : kOf d with
  | none => simp only [z] at q1; exact q1.elim
  | some ds =>
    simp only [z] at q1
    obtain ⟨a, vs, rfl, h1, h2, h3⟩ := r1.seq a1.s z
    refine ⟨a, vs, rfl, ?_, fun l hl => OkO.mk a1 e1 hl h2 h3 q1⟩
    rcases h1 with h1 | h1
    · exact .inl h1
    · exact .inr (SqT.mono a1.s.sub h1)
theorem de_tuple (hg : Gl X "tuple") (hm : X.mg "tuple" = none) (ha : DV X W e f) (he : starEach [e] X.env = (false, eval e X.env) :: starEach [] X.env := by rfl) (hpl : (backTo pos (starEach [] X.env)).any (·.1) = false := by rfl) : DE X W (.Call (.Name "tuple" p) [e] [] pos) (tupleD f) := by
  obtain ⟨te, pe, re⟩ := ha
  refine ⟨_, pe_callTy call_tuple_of hg hm (by decide +kernel) (pa_cons pe pa_nil he) (by decide) (by decide) he hpl, fun w Q s q => ?_⟩
  refine re.bindR (Q := Q) s q fun w1 v d s1 e1 a1 r1 q1 => ?_
  cases z : kOf d with
  | none => simp only [z] at q1; exact q1.elim
  | some ds =>
    simp only [z] at q1
    obtain ⟨a, vs, rfl, h1, h2, h3⟩ := r1.seq s1 z
    refine ⟨a, vs, rfl, ?_⟩
    rcases h1 with h1 | h1
    · refine .inl ⟨h1, fun l hl => ?_⟩
      have A := Aft.alloc (o := .tup vs) s1 hl
      exact q1 { w1 with G := upd w1.G l (.tup vs), H := upd w1.H l (.tup vs) } (.ref l) rfl rfl rfl A (.tup (.inl (.inl upd_same)) h2 (h3.mono A.g A.i))
    · exact .inr ⟨SqT.mono s1.sub h1, q1 w1 _ rfl rfl rfl (Aft.refl s1) (.tup h1 h2 h3)⟩
theorem RefE.bindO {K : PySem.W.Frag} {mg : MG} {t : TE} (h : RefE K mg W t f) {w w0 : Ws} {Q Q1 : VK} {r : D → En → Store → R} (s : Sts K mg w) (a0 : Aft K mg w0 w) (e0 : w.σ = w0.σ) (hP : OkO K mg W w0 Q ((f w.ρ w.st).bind r))
    (k : ∀ (w1 : Ws) (v : V) (d : D), w1.σ = w0.σ → Aft K mg w w1 → Aft K mg w0 w1 → Rep K mg w1.G w1.ι v d → OkO K mg W w0 Q (r d w1.ρ w1.st) → Q1 v w1.H) : t w.σ w.H Q1 :=
  h.bind (P := OkO K mg W w0 Q) s hP (fun c ρ st z w' cls dx h1 h2 h3 A x => z w' cls dx h1 h2 (h3.trans e0) (a0.trans A) x) (fun z => z) fun w1 v d e a rp q => k w1 v d (e.trans e0) a (a0.trans a) rp q
theorem Reps.rep {K : PySem.W.Frag} {mg : MG} {G : Hp} {ι : List Addr} {vs : List V} {ds : List D} (r : Reps K mg G ι vs ds) : ∀ n : Nat, Reps K mg G ι (List.replicate n vs).flatten (List.replicate n ds).flatten
  | 0 => .nil
  | n + 1 => by simpa [List.replicate_succ] using r.append (Reps.rep r n)
@[simp] def strL : List D → Option (List Str)
  | [] => some []
  | .str x :: ds => (strL ds).map (x :: ·)
  | _ :: _ => none
theorem strL_reps {K : PySem.W.Frag} {mg : MG} {G : Hp} {ι : List Addr} : ∀ {vs : List V} {ds : List D} {bs : List Str}, Reps K mg G ι vs ds → strL ds = some bs → vs = bs.map V.str
  | _, [], _, .nil, h => by cases h; rfl
  | _, d :: ds, bs, .cons r rs, h => by
    cases d with
    | str b =>
      obtain ⟨bs', e, rfl⟩ := Option.map_eq_some_iff.mp h
      rw [r.str_inv, strL_reps rs e]; rfl
    | _ => simp [strL] at h
@[simp] def pJoin : D → D → Option D
  | .str z, d => (match kOf d with
    | some ds => (match strL ds with
      | some ys => if (ys.map (·.length)).sum + ys.length * z.length ≤ 16777216 then some (.str (Txt.join z ys)) else none
      | none => none)
    | none => none)
  | _, _ => none
theorem de_join {o : Expr} {apos : Pos} (hco : ∀ ρ st, ∃ z, f ρ st = .ok (.str z) ρ st) (ho : DE X W o f) (he : DV X W e g) (hs : starEach [e] X.env = [(false, eval e X.env)] := by rfl) (hbase : attributeBase o "join" X.env (eval o X.env) = eval o X.env := by rfl) (hline : (apos.endLine == pos.line) = true := by rfl) :
    DE X W (.Call (.Attribute o "join" apos) [e] [] pos) (lift2 pJoin f g) := by
  obtain ⟨to, po, ro⟩ := ho
  obtain ⟨te, pe, re⟩ := he
  refine ⟨_, pe_join po pe hs hbase hline, fun w Q s q => ?_⟩
  obtain ⟨z0, hz0⟩ := hco w.ρ w.st
  refine ro w _ s ?_
  rw [hz0]
  intro w1 x h1 h2 e1 a1 r1
  unfold lift2 at q
  rw [hz0] at q
  simp only [R.bind] at q
  refine ⟨⟨z0, r1.str_inv⟩, ?_⟩
  rw [← e1]
  have q1 : OkR X.K (MGx X W.b) W w1 Q ((g w1.ρ w1.st).bind fun e ρ st => match pJoin (.str z0) e with | some z => .ok z ρ st | none => .bad) := by
    rw [h1, h2]; exact OkR.aft q a1 e1
  refine re.bindR (Q := Q) a1.s q1 fun w2 y e' s2 e2 a2 r2 q2 => ?_
  cases z : pJoin (.str z0) e' with
  | none => simp only [z] at q2; exact q2.elim
  | some z1 =>
    simp only [z] at q2
    unfold pJoin at z
    simp only at z
    split at z
    · rename_i ds hk
      split at z
      · rename_i ys hy
        split at z
        · rename_i hz
          cases z
          obtain ⟨p, vs, rfl, h1, h2, h3⟩ := r2.seq s2 hk
          have ev := strL_reps h3 hy
          refine ⟨z0, p, ys, r1.str_inv, rfl, ?_, hz, q2 w2 _ rfl rfl rfl (Aft.refl s2) (.str _)⟩
          rw [← ev]
          rcases h1 with h1 | h1
          · exact .inl h1
          · exact .inr (SqT.mono s2.sub h1)
        · cases z
      · cases z
    · cases z
end
end DL
namespace DL
open PySem L2
@[simp] def tyD : D → Option String
  | .non => some "NoneType"
  | .bl _ => some "bool"
  | .int _ => some "int"
  | .str _ => some "str"
  | .tup _ => some "tuple"
  | .lst _ => some "list"
  | .lsk _ => some "list"
  | .dct _ => some "dict"
  | .dlk _ => some "dict"
  | _ => none
theorem RepV.ty {K : PySem.W.Frag} {mg : MG} {w : Ws} {v : V} {d : D} {n : String} (s : Sts K mg w) (h : RepV K mg w v d) (k : tyD d = some n) : TyX K w.H v (.type n) := by
  have h' := h.h s
  clear h
  cases h' with
  | non => cases k; exact .base .non
  | bl b => cases k; exact .base (.bl b)
  | int i => cases k; exact .base (.int i)
  | str x => cases k; exact .base (.str x)
  | lst q l r => cases k; exact .base (.lst q)
  | lsk q l r =>
    cases k
    rcases q with (q | ⟨o, q⟩) | ⟨o, its, n, q1, q2, _⟩
    · exact .base (.lst q)
    · exact .base (.frz q)
    · exact .kList q1 q2
  | tup q l r =>
    cases k
    rcases q with (q | ⟨o, q⟩) | ⟨o, its, n, q1, q2, _⟩
    · exact .base (.tup q)
    · exact .fTuple q
    · exact .kTuple q1 q2
  | dct q r =>
    cases k
    rcases q with q | ⟨o, q⟩
    · exact .base (.dK q)
    · exact .fDict q
  | dlk q r => cases k; exact .fDict q
  | ins _ _ _ _ => cases k
  | ref _ => cases k
  | glb _ _ => cases k
  | typ _ => cases k
@[simp] def pIsi (T : String) (d : D) : Option D := match tyD d with
  | some n => (kitB n T).map .bl
  | none => none
@[simp] def isiAny (n : String) : List String → Option Bool
  | [] => some false
  | T :: r => match kitB n T with
    | some true => some true
    | some false => isiAny n r
    | none => none
@[simp] def pIsiT (Ts : List String) (d : D) : Option D := match tyD d with
  | some n => (isiAny n Ts).map .bl
  | none => none
theorem isiAny_kit {K : PySem.W.Frag} {n : String} : ∀ {Ts : List String} {b : Bool}, isiAny n Ts = some b → PySem.W.kitAny K (.type n) (Ts.map .type) = some b
  | [], b, h => by cases h; exact kitAny_nil
  | T :: r, b, h => by
    unfold isiAny at h
    split at h
    · rename_i e
      cases h
      exact kitAny_cons (kit_ty e) (fun h => by cases h) (fun _ => rfl)
    · rename_i e
      exact kitAny_cons (b := false) (kit_ty e) (fun _ => isiAny_kit h) (fun h => by cases h)
    · cases h
def Tys (X : Cx) (es : List Expr) (Ts : List String) : Prop := PA X es (fun _ H Q => Q (Ts.map V.ty) H)
theorem tys_nil {X : Cx} : Tys X [] [] := pa_nil
section
variable {X : Cx} {W : WB} {e : Expr} {es : List Expr} {f : DEx} {p np tpos pos : Pos} {x : Str} {T : String} {Ts : List String}
theorem tys_cons (hg : Gl X x) (hm : X.mg x = none) (hv : bootBuiltins x = some (.type T)) (ht : Tys X es Ts) (hn : x ≠ "__name__" := by decide) (hdb : (x == ("__debug__" : Str)) = false := by decide) (hs : starEach (.Name x np :: es) X.env = (false, eval (.Name x np) X.env) :: starEach es X.env := by rfl) : Tys X (.Name x np :: es) (T :: Ts) := by
  have := pa_cons (pe_bltn (v := .ty T) hg hm hv rfl hn hdb) ht hs
  exact this
theorem paired_ty : ∀ Ts : List String, Paired ClsV (Ts.map V.ty) (Ts.map Value.type)
  | [] => .nil
  | T :: r => .cons (.ty T) (paired_ty r)
theorem de_isi (hg : Gl X "isinstance") (hm : X.mg "isinstance" = none) (hgT : Gl X x) (hmT : X.mg x = none) (hvT : bootBuiltins x = some (.type T)) (ha : DV X W e f) (hn : x ≠ "__name__" := by decide) (hdb : (x == ("__debug__" : Str)) = false := by decide)
    (he : starEach [e, .Name x np] X.env = (false, eval e X.env) :: starEach [.Name x np] X.env := by rfl) (he2 : starEach [.Name x np] X.env = (false, eval (.Name x np) X.env) :: starEach [] X.env := by rfl) (hpl : (backTo pos (starEach [.Name x np] X.env)).any (·.1) = false := by rfl) :
    DE X W (.Call (.Name "isinstance" p) [e, .Name x np] [] pos) (lift1 (pIsi T) f) := by
  obtain ⟨te, pe, re⟩ := ha
  refine ⟨_, pe_callB call_isi hg hm (by decide +kernel) (pa_cons pe (pa_cons (pe_bltn (v := .ty T) hgT hmT hvT rfl hn hdb) pa_nil he2) he) (by decide) (by decide) he hpl, fun w Q s q => ?_⟩
  refine re.bindR (Q := Q) s q fun w1 v d s1 e1 a1 r1 q1 => ?_
  cases z : pIsi T d with
  | none => simp only [z] at q1; exact q1.elim
  | some y =>
    simp only [z] at q1
    unfold pIsi at z
    split at z
    · rename_i n hn
      obtain ⟨b, hb, rfl⟩ := Option.map_eq_some_iff.mp z
      exact ⟨v, .ty T, .type n, .type T, b, rfl, .ty T, r1.ty s1 hn, kit_ty hb, q1 w1 _ rfl rfl rfl (Aft.refl s1) (.bl _)⟩
    · cases z
end
def leD (d e : D) : Bool := PySem.W.dataLe false (fun d : D => d.py.getD .none) d e
def sortOk (ds : List D) : Prop := ∃ ps, pyAll ds = some ps ∧ PySem.W.AllAlike ps ∧ PySem.W.Sortable ps ∧ ∀ p ∈ ps, p.depth ≤ 64
def rSortD (K : PySem.W.Frag) : List V → Hp → VK → Prop := fun xs H Q => ∃ (a : Addr) (zs : List (V × PyData)), xs = [.ref a] ∧ SqL K H a (zs.map (·.1)) ∧ DpAll K H (zs.map (·.1)) (zs.map (·.2)) ∧ PySem.W.AllAlike (zs.map (·.2)) ∧ PySem.W.Sortable (zs.map (·.2)) ∧ (∀ z ∈ zs, z.2.depth ≤ 64) ∧
  ∀ l, H l = none → Q (.ref l) (upd H l (.lst ((zs.mergeSort (PySem.W.dataLe false (·.2))).map (·.1))))
section
variable {X : Cx} {pins : List (Addr × Obj)} {σ : L2.St} {H : Hp} {s : Shared}
theorem each_rel : ∀ {zs : List (V × PyData)} {us : List Value}, Vals (zs.map (·.1)) us → PySem.W.EachIs (fun u (z : V × PyData) => RelV z.1 u) us zs
  | [], [], _ => .nil
  | z :: zs, u :: us, h => by
    cases h with
    | cons r t => exact .cons r (each_rel t)
  | [], _ :: _, h => by cases h
  | _ :: _, [], h => by cases h
theorem rel_each : ∀ {zs : List (V × PyData)} {us : List Value}, PySem.W.EachIs (fun u (z : V × PyData) => RelV z.1 u) us zs → Vals (zs.map (·.1)) us
  | _, _, .nil => .nil
  | _, _, .cons r t => .cons r (rel_each t)
theorem each_reads (I : Inv X pins σ H s) : ∀ {zs : List (V × PyData)} {us : List Value}, DpAll X.K H (zs.map (·.1)) (zs.map (·.2)) → Vals (zs.map (·.1)) us → PySem.W.EachIs (fun u (z : V × PyData) => ∃ as, Reads s.heap u z.2 as) us zs
  | [], [], _, _ => .nil
  | z :: zs, u :: us, d, h => by
    cases h with
    | cons r t =>
      cases d with
      | cons d ds => exact .cons (Dp.reads I _ _ _ d r) (each_reads I ds t)
  | [], _ :: _, _, h => by cases h
  | _ :: _, [], _, h => by cases h
theorem cr_sortD (hu : X.A.units + 80 < cLine) : CallR X (.builtin "sorted") (rSortD X.K) := by
  intro pins s σ H xs us Q I r h
  obtain ⟨a, zs, rfl, hs, hd, hal, hso, hdp, q⟩ := h
  obtain ⟨u, rfl, ru⟩ := vals1 r
  cases ru
  obtain ⟨its, rv, pl, hz⟩ := I.list hs
  have hlen : zs.length ≤ sizeLine := by simpa using hz
  refine PySem.W.sorted_data (R := fun u (z : V × PyData) => RelV z.1 u) (enc := fun z : V × PyData => z.2) (bs := zs) pl.isList (each_rel rv) (each_reads I hd rv) hal hso hlen (fun z hz => by have := hdp z hz; omega) fun out ho eo => ?_
  obtain ⟨c, hc⟩ := PyProof.Rows.sortedAll_at s.heap its out.toArray
  have kp : ∀ b o, s.heap.get? b = some o → (PyProof.Rows.sortedAll s.heap its out.toArray).get? b = some o := fun _ _ => PyProof.Rows.sortedAll_old
  have hn : H (s.heap.objs.size + 1) = none := I.hok.fresh (Nat.le_succ _)
  have hl : ((zs.mergeSort (PySem.W.dataLe false (·.2))).map (·.1)).length ≤ sizeLine := by simpa using hlen
  exact ⟨.ref (s.heap.objs.size + 1), _, I.laid (t' := s.toks) kp (Nat.le_succ _) (show ObjOk X.prog X.w _ _ _ (.lst ((zs.mergeSort (PySem.W.dataLe false (·.2))).map (·.1))) from ⟨hl, out, c, rel_each eo, hc⟩), rfl, q _ hn⟩
end
open Classical in
noncomputable def sortD (f : DEx) (ρ : En) (st : Store) : R := (f ρ st).bind fun d ρ st => match d with
  | .lst ds => if sortOk ds then .ok (.lst (ds.mergeSort leD)) ρ st else .bad
  | _ => .bad
theorem sortD_isL {f : DEx} : IsL (sortD f) := fun ρ st d ρ' st' h => by
  unfold sortD at h
  cases e : f ρ st with
  | ok d1 ρ1 st1 =>
    rw [e] at h
    simp only [R.bind] at h
    split at h
    · split at h
      · cases h; exact ⟨_, rfl⟩
      · cases h
    · cases h
  | exc c ρ1 st1 => rw [e] at h; cases h
  | bad => rw [e] at h; cases h
theorem pyAll_map : ∀ {ds : List D} {ps : List PyData}, pyAll ds = some ps → ps = ds.map (fun d => d.py.getD .none)
  | [], ps, h => by simp only [pyAll, Option.some.injEq] at h; subst h; rfl
  | d :: ds, ps, h => by
    simp only [pyAll] at h
    split at h
    · rename_i p ps' e1 e2
      cases h
      simp [e1, ← pyAll_map e2]
    · cases h
theorem reps_zip {K : PySem.W.Frag} {mg : MG} {G : Hp} {ι : List Addr} : ∀ {vs : List V} {ds : List D}, Reps K mg G ι vs ds → ∃ zs : List (V × D), zs.map (·.1) = vs ∧ zs.map (·.2) = ds ∧ ∀ z ∈ zs, Rep K mg G ι z.1 z.2
  | _, _, .nil => ⟨[], rfl, rfl, fun _ h => by simp at h⟩
  | _, _, .cons r rs => by
    obtain ⟨zs, e1, e2, h⟩ := reps_zip rs
    refine ⟨(_, _) :: zs, by simp [e1]; rfl, by simp [e2]; rfl, fun z hz => ?_⟩
    rcases List.mem_cons.mp hz with rfl | hz
    · exact r
    · exact h z hz
theorem zip_reps {K : PySem.W.Frag} {mg : MG} {G : Hp} {ι : List Addr} : ∀ {zs : List (V × D)}, (∀ z ∈ zs, Rep K mg G ι z.1 z.2) → Reps K mg G ι (zs.map (·.1)) (zs.map (·.2))
  | [], _ => .nil
  | z :: zs, h => .cons (h z (by simp)) (zip_reps fun y hy => h y (by simp [hy]))
section
variable {X : Cx} {W : WB} {e : Expr} {f : DEx} {p pos : Pos}
theorem do_sorted (hu : X.A.units + 80 < cLine) (hg : Gl X "sorted") (hm : X.mg "sorted" = none) (ha : DV X W e f) (he : starEach [e] X.env = (false, eval e X.env) :: starEach [] X.env := by rfl) (hpl : (backTo pos (starEach [] X.env)).any (·.1) = false := by rfl) :
    DO X W (.Call (.Name "sorted" p) [e] [] pos) (sortD f) := by
  obtain ⟨te, pe, re⟩ := ha
  refine ⟨⟨_, pe_callB (cr_sortD hu) hg hm (by decide +kernel) (pa_cons pe pa_nil he) (by decide) (by decide) he hpl, fun w Q s q => ?_⟩, sortD_isL⟩
  refine re.bindO s q fun w1 v d e1 a1 r1 q1 => ?_
  split at q1
  · rename_i ds
    split at q1
    · rename_i hok
      obtain ⟨ps, hp, hal, hso, hdp⟩ := hok
      obtain ⟨a, vs, rfl, h1, h2, h3⟩ := r1.lst_inv a1.s
      obtain ⟨zs, rfl, rfl, hz⟩ := reps_zip h3
      have hm := pyAll_map hp
      have e2 : (zs.map fun z => (z.1, z.2.py.getD .none)).map (·.2) = ps := by
        rw [hm, List.map_map, List.map_map]; rfl
      have e3 : (zs.map fun z => (z.1, z.2.py.getD .none)).map (·.1) = zs.map (·.1) := by
        rw [List.map_map]; rfl
      refine ⟨a, zs.map fun z => (z.1, z.2.py.getD .none), rfl, by rw [e3]; exact SqL.of h1, ?_, by rw [e2]; exact hal, by rw [e2]; exact hso, fun z hz' => hdp z.2 (by rw [← e2]; exact List.mem_map_of_mem hz'), fun l hl => ?_⟩
      · rw [e2, e3]
        exact dpAll_mono a1.s.sub (h3.dp hp)
      · have em : ((zs.map fun z => (z.1, z.2.py.getD .none)).mergeSort (PySem.W.dataLe false (·.2))).map (·.1) = (zs.mergeSort (fun x y => leD x.2 y.2)).map (·.1) := by
          rw [← PySem.W.sort_maps (r := fun x y : V × D => leD x.2 y.2) (fun z : V × D => (z.1, z.2.py.getD .none)) (fun _ _ _ _ => rfl), List.map_map]; rfl
        rw [em]
        have ed : (zs.mergeSort (fun x y => leD x.2 y.2)).map (·.2) = (zs.map (·.2)).mergeSort leD := PySem.W.sort_maps _ (fun _ _ _ _ => rfl)
        refine OkO.mk a1 e1 hl (by simpa using h2) ?_ q1
        rw [← ed]
        exact zip_reps fun z hz' => hz z (List.mem_mergeSort.mp hz')
    · exact q1.elim
  · exact q1.elim
end
end DL
namespace DL
open PySem L2
theorem fz_lst {K : PySem.W.Frag} {mg : MG} {w : Ws} (s : Sts K mg w) {p : Addr} (hp : w.H p = none) {vs : List V} {ds : List D} (hz : vs.length ≤ sizeLine) (r : Reps K mg w.G w.ι vs ds) :
    ∃ w' : Ws, w'.ρ = w.ρ ∧ w'.st = w.st ∧ w'.σ = w.σ ∧ w'.H = upd w.H p (.lst vs) ∧ Aft K mg w w' ∧ Rep K mg w'.G w'.ι (.ref p) (.lst ds) :=
  have A := Aft.alloc (o := .lst vs) s hp
  ⟨{ w with G := upd w.G p (.lst vs), H := upd w.H p (.lst vs) }, rfl, rfl, rfl, rfl, A, .lst upd_same hz (r.mono A.g A.i)⟩
theorem fz_tup {K : PySem.W.Frag} {mg : MG} {w : Ws} (s : Sts K mg w) {p : Addr} (hp : w.H p = none) {vs : List V} {ds : List D} (hz : vs.length ≤ sizeLine) (r : Reps K mg w.G w.ι vs ds) :
    ∃ w' : Ws, w'.ρ = w.ρ ∧ w'.st = w.st ∧ w'.σ = w.σ ∧ w'.H = upd w.H p (.tup vs) ∧ Aft K mg w w' ∧ Rep K mg w'.G w'.ι (.ref p) (.tup ds) :=
  have A := Aft.alloc (o := .tup vs) s hp
  ⟨{ w with G := upd w.G p (.tup vs), H := upd w.H p (.tup vs) }, rfl, rfl, rfl, rfl, A, .tup (.inl (.inl upd_same)) hz (r.mono A.g A.i)⟩
@[simp] def addK : D → D → Option D
  | .int i, .int j => some (.int (i + j))
  | .str x, .str y => if x.length + y.length ≤ sizeLine then some (.str (x ++ y)) else none
  | .lst xs, .lst ys => if xs.length + ys.length ≤ sizeLine then some (.lst (xs ++ ys)) else none
  | .tup xs, .tup ys => if xs ≠ [] ∧ xs.length + ys.length ≤ sizeLine then some (.tup (xs ++ ys)) else none
  | _, _ => none
def AnsF (K : PySem.W.Frag) (mg : MG) (r : R2) (p : D → D → Option D) : Prop :=
  ∀ (w : Ws) (x y : V) (d e z : D) (Q : VK), Sts K mg w → Rep K mg w.G w.ι x d → Rep K mg w.G w.ι y e → p d e = some z → (∀ (w' : Ws) v, w'.ρ = w.ρ → w'.st = w.st → w'.σ = w.σ → Aft K mg w w' → Rep K mg w'.G w'.ι v z → Q v w'.H) → r x y w.H Q
section
variable {K : PySem.W.Frag} {mg : MG} {W : WB}
theorem ref_opF {r : R2} {p : D → D → Option D} {ta tb : TE} {f g : DEx} (hr : AnsF K mg r p) (ha : RefE K mg W ta f) (hb : RefE K mg W tb g) : RefE K mg W (tOp r ta tb) (lift2 p f g) := fun w Q s h => by
  refine ha.bindR (Q := Q) s h fun w1 x d s1 e1 a1 r1 h1 => ?_
  show tb w.σ w1.H _
  rw [← e1]
  refine hb.bindR (Q := Q) s1 h1 fun w2 y e s2 e2 a2 r2 h2 => ?_
  cases q : p d e with
  | none => simp only [q] at h2; exact h2.elim
  | some z =>
    simp only [q] at h2
    exact hr w2 x y d e z Q s2 (r1.mono a2.g a2.i) r2 q fun w' v h3 h4 h5 A rv => h2 w' v h3 h4 h5 A rv
theorem Ans2.f {r : R2} {p : D → D → Option D} (h : Ans2 K mg r p) : AnsF K mg r p := fun w x y d e z Q s rx ry q k => h w x y d e z Q s (.inl rx) (.inl ry) q fun v rv => k w v rfl rfl rfl (Aft.refl s) (rv _ _)
def pCat : D → D → Option D
  | .lst xs, .lst ys => if xs.length + ys.length ≤ sizeLine then some (.lst (xs ++ ys)) else none
  | _, _ => none
def pCatT : D → D → Option D
  | .tup xs, .tup ys => if xs ≠ [] ∧ xs.length + ys.length ≤ sizeLine then some (.tup (xs ++ ys)) else none
  | _, _ => none
theorem ansF_cat : AnsF K mg rCat pCat := fun w x y d e z Q s rx ry q k => by
  unfold pCat at q
  split at q
  · split at q
    · rename_i hz
      cases q
      cases rx with
      | lst h1 l1 s1 =>
        cases ry with
        | lst h2 l2 s2 =>
          have hz' := hz
          rw [← s1.len, ← s2.len] at hz'
          refine ⟨_, _, _, _, rfl, rfl, s.sub _ _ h1, s.sub _ _ h2, hz', fun p hp => ?_⟩
          obtain ⟨w', q1, q2, q3, q4, A, r⟩ := fz_lst s hp (by rw [List.length_append]; exact hz') (s1.append s2)
          rw [← q4]; exact k w' _ q1 q2 q3 A r
    · cases q
  · cases q
theorem ansF_catT : AnsF K mg (rCatT K) pCatT := fun w x y d e z Q s rx ry q k => by
  unfold pCatT at q
  split at q
  · split at q
    · rename_i hz
      cases q
      cases rx with
      | tup h1 l1 s1 =>
        cases ry with
        | tup h2 l2 s2 =>
          obtain ⟨hne, hz⟩ := hz
          have hz' := hz
          rw [← s1.len, ← s2.len] at hz'
          refine ⟨_, _, _, _, rfl, rfl, SqT.mono s.sub h1, SqT.mono s.sub h2, ?_, hz', fun h => ?_, fun _ p hp => ?_⟩
          · rintro rfl
            cases s1; exact hne rfl
          · subst h
            cases s2
            rw [List.append_nil] at k
            exact k w _ rfl rfl rfl (Aft.refl s) (.tup h1 l1 s1)
          · obtain ⟨w', q1, q2, q3, q4, A, r⟩ := fz_tup s hp (by rw [List.length_append]; exact hz') (s1.append s2)
            rw [← q4]; exact k w' _ q1 q2 q3 A r
    · cases q
  · cases q
theorem AnsF.or {r r' : R2} {p : D → D → Option D} (h : ∀ d e z, p d e = some z → ∃ (q : D → D → Option D), q d e = some z ∧ (AnsF K mg r q ∨ AnsF K mg r' q)) : AnsF K mg (fun x y H Q => r x y H Q ∨ r' x y H Q) p := fun w x y d e z Q s rx ry q k => by
  obtain ⟨q', h1, h2⟩ := h d e z q
  rcases h2 with h2 | h2
  · exact .inl (h2 w x y d e z Q s rx ry h1 k)
  · exact .inr (h2 w x y d e z Q s rx ry h1 k)
end
section
variable {X : Cx} {W : WB} {a b : Expr} {f g : DEx} {pos : Pos}
theorem de_opF {op : Operator} {r : R2} {p : D → D → Option D} (ho : OpR X (binaryOp op) r) (hr : AnsF X.K (MGx X W.b) r p) (ha : DE X W a f) (hb : DE X W b g) : DE X W (.BinOp a op b pos) (lift2 p f g) := by
  obtain ⟨ta, pa, ra⟩ := ha
  obtain ⟨tb, pb, rb⟩ := hb
  exact ⟨_, pe_op ho pa pb, ref_opF hr ra rb⟩
theorem de_addX (ha : DE X W a f) (hb : DE X W b g) : DE X W (.BinOp a .Add b pos) (lift2 addK f g) := by
  refine de_opF (opR_or op_add (opR_or op_add_str (opR_or op_cat op_catT))) (AnsF.or fun d e z q => ?_) ha hb
  unfold addK at q
  split at q
  · exact ⟨iop0 (· + ·), q, .inl ans_iop0.f⟩
  · exact ⟨sAdd, q, .inr (AnsF.or fun d e z q => ⟨sAdd, q, .inl ans_sadd.f⟩)⟩
  · exact ⟨pCat, q, .inr (AnsF.or fun d e z q => ⟨pCat, q, .inr (AnsF.or fun d e z q => ⟨pCat, q, .inl ansF_cat⟩)⟩)⟩
  · exact ⟨pCatT, q, .inr (AnsF.or fun d e z q => ⟨pCatT, q, .inr (AnsF.or fun d e z q => ⟨pCatT, q, .inr ansF_catT⟩)⟩)⟩
  · cases q
end
def repS (x : Str) (n : Nat) : Str := ⟨(List.replicate n x.cps.toList).flatten.toArray⟩
@[simp] noncomputable def mulK : D → D → Option D
  | .int i, .int j => if CMul i j then some (.int (i * j)) else none
  | .lst xs, .int k => if Rs k ∧ xs.length * k.toNat ≤ sizeLine then some (.lst (List.replicate k.toNat xs).flatten) else none
  | .str x, .int k => if 0 < k ∧ k < 1000 ∧ x.length ≤ 1000 then some (.str (repS x k.toNat)) else none
  | _, _ => none
def pRepS : D → D → Option D
  | .str x, .int k => if 0 < k ∧ k < 1000 ∧ x.length ≤ 1000 then some (.str (repS x k.toNat)) else none
  | _, _ => none
noncomputable def pRep : D → D → Option D
  | .lst xs, .int k => if Rs k ∧ xs.length * k.toNat ≤ sizeLine then some (.lst (List.replicate k.toNat xs).flatten) else none
  | _, _ => none
theorem ansF_rep {K : PySem.W.Frag} {mg : MG} : AnsF K mg rRep pRep := fun w x y d e z Q s rx ry q k => by
  unfold pRep at q
  split at q
  · split at q
    · rename_i hz
      cases q
      cases rx with
      | lst h1 l1 s1 =>
        refine ⟨_, _, _, rfl, ry.int_inv, s.sub _ _ h1, hz.1.1, hz.1.2, by rw [s1.len]; exact hz.2, fun p hp => ?_⟩
        have hl := hz.2
        rw [← s1.len] at hl
        obtain ⟨w', q1, q2, q3, q4, A, r⟩ := fz_lst s hp (by simpa [Nat.mul_comm] using hl) (s1.rep _)
        rw [← q4]; exact k w' _ q1 q2 q3 A r
    · cases q
  · cases q
theorem rep_eq (x : Str) (n : Nat) : (⟨(List.replicate n x.cps).foldl (· ++ ·) #[]⟩ : Str) = repS x n := by
  unfold repS
  congr 1
  have : ∀ (n : Nat) (acc : Array Nat), (List.replicate n x.cps).foldl (· ++ ·) acc = acc ++ (List.replicate n x.cps.toList).flatten.toArray := by
    intro n
    induction n with
    | zero => intro acc; simp
    | succ n ih =>
      intro acc
      rw [List.replicate_succ, List.foldl_cons, ih, List.replicate_succ, List.flatten_cons, Array.append_assoc]
      congr 1
      apply Array.ext'
      simp
  rw [this]; simp
theorem op_repS {X : Cx} : OpR X (binaryOp .Mult) (fun a b H Q => ∃ x k, a = .str x ∧ b = .int k ∧ (0 < k ∧ k < 1000 ∧ x.length ≤ 1000) ∧ Q (.str (repS x k.toNat)) H) := by
  intro pins s σ H a b v u Q I rx ry h
  obtain ⟨x, k, rfl, rfl, ⟨h1, h2, h3⟩, q⟩ := h
  obtain ⟨t, rfl⟩ := rx
  obtain ⟨t', rfl⟩ := ry
  refine PySem.P.mul_str (by simp; omega) (fun _ _ => ?_) (fun _ _ => ?_) ?_
  · have hk : (1000 : Int) ≤ (2 ^ 63 - 1) / k := Int.le_ediv_of_mul_le h1 (by omega)
    omega
  · have : x.length * k.toNat ≤ 1000 * 1000 := Nat.mul_le_mul h3 (by omega)
    have hs : sizeLine = 16777216 := sizeLine_eq
    simp only [Builtin.Str.tooLong]
    have : ¬ x.length * k.toNat > sizeLine := by omega
    simpa using this
  · rw [if_neg (by omega)]
    split
    · rename_i hh
      have : repS x k.toNat = x := by
        simp only [Bool.or_eq_true, beq_iff_eq] at hh
        unfold repS
        rcases hh with hh | hh
        · subst hh; simp
        · have : x.cps.toList = [] := by
            have : x.cps.toList.length = 0 := by
              have h' : x.cps.size = 0 := hh
              simpa using h'
            exact List.eq_nil_of_length_eq_zero this
          cases x with
          | mk c => simp at this; subst this; simp
      rw [this] at q
      exact ⟨.str x, H, I, ⟨_, rfl⟩, q⟩
    · rw [rep_eq]
      have hl : (repS x k.toNat).length ≤ sizeLine := by
        have e : (repS x k.toNat).length = k.toNat * x.length := by
          show ((List.replicate k.toNat x.cps.toList).flatten.toArray).size = _
          simp; rfl
        have : k.toNat * x.length ≤ 1000 * 1000 := Nat.mul_le_mul (by omega) h3
        have hs : sizeLine = 16777216 := sizeLine_eq
        omega
      exact ⟨hl, .str _, H, I.tok _, ⟨_, rfl⟩, q⟩
theorem ansF_repS {K : PySem.W.Frag} {mg : MG} : Ans2 K mg (fun a b H Q => ∃ x k, a = .str x ∧ b = .int k ∧ (0 < k ∧ k < 1000 ∧ x.length ≤ 1000) ∧ Q (.str (repS x k.toNat)) H) pRepS := fun w x y d e z Q s rx ry q k => by
  unfold pRepS at q
  split at q
  · split at q
    · cases q; exact ⟨_, _, rx.str_inv, ry.int_inv, by assumption, k _ fun _ _ => .str _⟩
    · cases q
  · cases q
theorem de_mulX {X : Cx} {W : WB} {a b : Expr} {f g : DEx} {pos : Pos} (ha : DE X W a f) (hb : DE X W b g) : DE X W (.BinOp a .Mult b pos) (lift2 mulK f g) := by
  refine de_opF (opR_or op_mul (opR_or op_rep op_repS)) (AnsF.or fun d e z q => ?_) ha hb
  unfold mulK at q
  split at q
  · exact ⟨iop CMul (· * ·), q, .inl ans_iop.f⟩
  · exact ⟨pRep, q, .inr (AnsF.or fun d e z q => ⟨pRep, q, .inl ansF_rep⟩)⟩
  · exact ⟨pRepS, q, .inr (AnsF.or fun d e z q => ⟨pRepS, q, .inr ansF_repS.f⟩)⟩
  · cases q
@[simp] def kSl : D → Option Int → Option Int → Option D
  | .lst ds, lo, hi => some (.lst (cutD ds lo hi))
  | .str z, lo, hi => if z.length ≤ sizeLine then some (.str (cutS z lo hi)) else none
  | .tup ds, lo, hi => if HT.sIx ds.length 0 lo = 0 ∧ HT.sIx ds.length ds.length hi = ds.length then none else some (.tup (cutD ds lo hi))
  | _, _, _ => none
theorem de_slice {X : Cx} {W : WB} {e : Expr} {lo hi : Option Expr} {f l h : DEx} {p2 pos : Pos} (he : DE X W e f) (hl : DB X W lo l) (hh : DB X W hi h) : DE X W (.Subscript e (.Slice lo hi none p2) pos) (slX kSl f l h) := by
  obtain ⟨te, pe, re⟩ := he
  obtain ⟨tl, pl, rl⟩ := hl
  obtain ⟨th, ph, rh⟩ := hh
  refine ⟨_, pe_slice (sl_list.or (sl_str.or sl_tup)) pe pl ph, fun w Q s q => ?_⟩
  refine ref_sl (P := OkR X.K (MGx X W.b) W w Q) (k := kSl) s re rl rh q (fun _ _ _ z => z) (fun z => z) fun w3 v d z lo hi e3 a3 r3 hz q3 => ?_
  cases d with
  | lst ds =>
    cases hz
    obtain ⟨a, vs, rfl, hs, hl, rs⟩ := r3.lst_inv a3.s
    · refine .inl ⟨_, _, rfl, SqL.of hs, fun p hp => ?_⟩
      obtain ⟨w', k1, k2, k3, k4, A, r⟩ := fz_lst a3.s hp (Nat.le_trans (cutV_length _ lo hi) hl) (rs.cut lo hi)
      rw [← k4]; exact q3 w' _ k1 k2 (k3.trans e3) (a3.trans A) r
  | str y =>
    have hz' : (if y.length ≤ sizeLine then some (D.str (cutS y lo hi)) else none) = some z := hz
    by_cases hh : y.length ≤ sizeLine
    · rw [if_pos hh] at hz'
      cases hz'
      exact .inr (.inl ⟨y, r3.str_inv, hh, q3 w3 _ rfl rfl e3 a3 (.str _)⟩)
    · rw [if_neg hh] at hz'; cases hz'
  | tup ds =>
    have hz' : (if HT.sIx ds.length 0 lo = 0 ∧ HT.sIx ds.length ds.length hi = ds.length then none else some (D.tup (cutD ds lo hi))) = some z := hz
    by_cases hh : HT.sIx ds.length 0 lo = 0 ∧ HT.sIx ds.length ds.length hi = ds.length
    · rw [if_pos hh] at hz'; cases hz'
    · rw [if_neg hh] at hz'
      cases hz'
      obtain ⟨a, vs, rfl, hs, hl, rs⟩ := r3.tup_inv a3.s
      · refine .inr (.inr ⟨_, _, rfl, hs, by rw [rs.len]; exact hh, fun p hp => ?_⟩)
        obtain ⟨w', k1, k2, k3, k4, A, r⟩ := fz_tup a3.s hp (Nat.le_trans (cutV_length _ lo hi) hl) (rs.cut lo hi)
        rw [← k4]; exact q3 w' _ k1 k2 (k3.trans e3) (a3.trans A) r
  | _ => cases hz
theorem takesF {X : Cx} {b : Low} : L2N.Takes X (WF b) := fun u s' h => by
  obtain ⟨_, _, _, _, _, _, _, _, _, _, _, _, _, _, _, _, h⟩ := h
  exact h.elim
theorem Room.u80 {k : Nat} {A : Around} (r : Room k A) : A.units + 80 < cLine := by have := r.un; omega
theorem Room.u65 {k : Nat} {A : Around} (r : Room k A) : A.units + 65 < cLine := by have := r.un; omega
def Cal (P : Program) (w : World) (K : PySem.W.Frag) (mg : Str → Option Value) (base : Heap) (k : Nat) (x : Str) (n : Nat) (den : Den) : Prop :=
  ∃ f fd ps, FnOk P w K mg base (L2N.CX P w) k f fd ps (spD K mg n den) ∧ mg x = some (.ref f) ∧ PySem.W.keepIn K (.ref f) = true ∧ Binds K fd ps []
def Dfn (K : PySem.W.Frag) (mg : Str → Option Value) (x : Str) (ps : List Str) (st : Stmt) : Prop := ∃ f fd, Fun K x x st f fd ∧ mg x = some (.ref f) ∧ Binds K fd ps []
theorem Cal.call {X : Cx} {W : WB} {k k' n : Nat} {den : Den} {x : Str} {p pos : Pos} {e : Expr} {es : List Expr} {fa : DEx} (C : Cal X.prog X.w X.K X.mg X.base k x n den) (hr : Room k' X.A) (hk : k ≤ k') (hg : Gl X x) (tk : L2N.Takes X W)
    (ha : DAn X W (e :: es) fa) (hn : (e :: es).length = n := by rfl) (hdb : (x == ("__debug__" : Str)) = false := by decide) (he : starEach (e :: es) X.env = (false, eval e X.env) :: starEach es X.env := by rfl) (hpl : (backTo pos (starEach es X.env)).any (·.1) = false := by rfl) :
    DE X W (.Call (.Name x p) (e :: es) [] pos) (callD den fa) := by
  obtain ⟨f, fd, ps, F, hm, kp, hb⟩ := C
  exact de_call F (hr.mono hk) hg hm kp hb tk ha hn hdb he hpl
theorem Cal.of {P : Program} {wd : World} {K : PySem.W.Frag} {mg : Str → Option Value} {base : Heap} {x : Str} {st : Stmt} {N ps : List Str} {k n m : Nat} {g : DSx} (Df : Dfn K mg x ps st) (S : FnScope N ps (defScope st)) (hn : n = N.length) (hm : m = ps.length)
    (hb : ∀ (f : Addr) (cdv : Value) (A : Around) (outer : List Env) (s : Shared) (H : Hp) (E : XK), Room k (A.deeper (PyProof.Rows.envOfC x (defScope st) s.heap.objs.size f cdv)) →
      DSs (cxOf (L2N.CX P wd) P wd K mg base N x (defScope st) f cdv A outer s H E) (WEx E) (defBody st) g) : Cal P wd K mg base (k + 1) x m (runD n g) := by
  obtain ⟨f, fd, F, hmg, hB⟩ := Df
  subst hm
  exact ⟨f, fd, ps, fn_D (funV_of F) S hn (hb f), hmg, F.kp, hB⟩
end DL
namespace DL
open PySem L2
section
variable {X : Cx} {W : WB} {x : Str} {pos : Pos}
end
theorem b_len : bootBuiltins "len" = some (.builtin "len") := by decide +kernel
theorem b_abs : bootBuiltins "abs" = some (.builtin "abs") := by decide +kernel
theorem b_max : bootBuiltins "max" = some (.builtin "max") := by decide +kernel
theorem b_min : bootBuiltins "min" = some (.builtin "min") := by decide +kernel
theorem b_all : bootBuiltins "all" = some (.builtin "all") := by decide +kernel
theorem b_any : bootBuiltins "any" = some (.builtin "any") := by decide +kernel
theorem b_int : bootBuiltins "int" = some (.type "int") := by decide +kernel
theorem b_bool : bootBuiltins "bool" = some (.type "bool") := by decide +kernel
theorem b_list : bootBuiltins "list" = some (.type "list") := by decide +kernel
theorem b_tuple : bootBuiltins "tuple" = some (.type "tuple") := by decide +kernel
def pInX (n : Bool) (d e : D) : Option D := (pInB d e).map fun b => .bl (if n then !b else b)
end DL
namespace DL
open PySem L2
def CPow2 (i j : Int) : Prop := 0 ≤ j ∧ j ≤ 1000 ∧ i.natAbs < 2 ^ 1000
instance (i j : Int) : Decidable (CPow2 i j) := by unfold CPow2; infer_instance
theorem op_powW {X : Cx} : OpR X (binaryOp .Pow) (rI CPow2 fun i j => .int (i ^ j.toNat)) := opI fun i j _ _ _ _ _ hc q => by
  refine PyProof.Rows.pow_int hc.1 ?_ q
  have h1 : Builtin.Int.intBits i ≤ 1000 := PyProof.Rows.intBits_le hc.2.2
  have h2 := hc.1
  have h3 := hc.2.1
  have : (Builtin.Int.intBits i : Int) * j ≤ 1000 * 1000 := Int.mul_le_mul (by omega) h3 h2 (by omega)
  omega
@[simp] def pPowW := iop CPow2 (fun i j => i ^ j.toNat)
theorem de_powW {X : Cx} {W : WB} {a b : Expr} {f g : DEx} {pos : Pos} (ha : DE X W a f) (hb : DE X W b g) : DE X W (.BinOp a .Pow b pos) (lift2 pPowW f g) := de_bin op_powW ans_iop ha hb.v
def putD (kvs : List (Key × D)) (k : Key) (d : D) : List (Key × D) :=
  if (kvs.any fun kv => decide (kv.1 = k)) = true then kvs.map (fun kv => if kv.1 = k then (kv.1, d) else kv) else kvs ++ [(k, d)]
def getK (kvs : List (Key × D)) (k : Key) : Option D := (kvs.find? fun kv => decide (kv.1 = k)).map (·.2)
section
variable {K : PySem.W.Frag} {mg : MG} {G : Hp} {ι : List Addr}
theorem RepK.any : ∀ {vs : List (Key × V)} {ds : List (Key × D)} (k : Key), RepK K mg G ι vs ds → (vs.any fun kv => decide (kv.1 = k)) = ds.any fun kv => decide (kv.1 = k)
  | _, _, _, .nil => rfl
  | _, _, k, .cons r rs => by simp only [List.any_cons, RepK.any k rs]
theorem RepK.mapSet {v : V} {d : D} (k : Key) (r : Rep K mg G ι v d) : ∀ {vs : List (Key × V)} {ds : List (Key × D)}, RepK K mg G ι vs ds → RepK K mg G ι (vs.map (fun kv => if kv.1 = k then (kv.1, v) else kv)) (ds.map (fun kv => if kv.1 = k then (kv.1, d) else kv))
  | _, _, .nil => .nil
  | _, _, .cons (k := k') (v := v') (d := d') r' rs => by
    simp only [List.map_cons]
    by_cases e : k' = k
    · simp only [e, if_true]; exact .cons r (RepK.mapSet k r rs)
    · simp only [e, if_false]; exact .cons r' (RepK.mapSet k r rs)
theorem RepK.append : ∀ {vs ws : List (Key × V)} {ds es : List (Key × D)}, RepK K mg G ι vs ds → RepK K mg G ι ws es → RepK K mg G ι (vs ++ ws) (ds ++ es)
  | _, _, _, _, .nil, s => s
  | _, _, _, _, .cons r t, s => .cons r (RepK.append t s)
theorem RepK.put {v : V} {d : D} {k : Key} {vs : List (Key × V)} {ds : List (Key × D)} (h : RepK K mg G ι vs ds) (r : Rep K mg G ι v d) : RepK K mg G ι (putK vs k v) (putD ds k d) := by
  unfold putK putD
  rw [h.any k]
  split
  · exact h.mapSet k r
  · exact h.append (.cons r .nil)
theorem RepK.len : ∀ {vs : List (Key × V)} {ds : List (Key × D)}, RepK K mg G ι vs ds → vs.length = ds.length
  | _, _, .nil => rfl
  | _, _, .cons _ r => by simp [RepK.len r]
theorem RepK.get {k : Key} : ∀ {vs : List (Key × V)} {ds : List (Key × D)}, RepK K mg G ι vs ds → (∀ d, getK ds k = some d → ∃ v, valV vs k = some v ∧ Rep K mg G ι v d) ∧ (getK ds k = none → valV vs k = none)
  | _, _, .nil => ⟨fun d h => by simp [getK] at h, fun _ => rfl⟩
  | _, _, .cons (k := k') (v := v') (d := d') r' rs => by
    obtain ⟨h1, h2⟩ := RepK.get (k := k) rs
    by_cases e : k' = k
    · refine ⟨fun d h => ?_, fun h => ?_⟩
      · simp [getK, List.find?_cons, e] at h
        subst h
        exact ⟨v', valV_pos e, r'⟩
      · simp [getK, List.find?_cons, e] at h
    · refine ⟨fun d h => ?_, fun h => ?_⟩
      · rw [valV_neg e]
        exact h1 d (by simpa [getK, List.find?_cons, e] using h)
      · rw [valV_neg e]
        exact h2 (by simpa [getK, List.find?_cons, e] using h)
end
@[simp] def D.key : D → Option Key
  | .int i => some (.inl i)
  | .str s => some (.inr s)
  | _ => none
theorem Rep.key {K : PySem.W.Frag} {mg : MG} {G : Hp} {ι : List Addr} {v : V} {d : D} {k : Key} (r : Rep K mg G ι v d) (h : d.key = some k) : v = kV k := by
  cases d with
  | int i => cases h; exact r.int_inv
  | str i => cases h; exact r.str_inv
  | _ => cases h
inductive RepPr (K : PySem.W.Frag) (mg : MG) (G : Hp) (ι : List Addr) : List (V × V) → List D → Prop
  | nil : RepPr K mg G ι [] []
  | cons {x y : V} {a b : D} {ps : List (V × V)} {ds : List D} : Rep K mg G ι x a → Rep K mg G ι y b → RepPr K mg G ι ps ds → RepPr K mg G ι ((x, y) :: ps) (a :: b :: ds)
theorem RepPr.mono {K : PySem.W.Frag} {mg : MG} {G G' : Hp} {ι ι' : List Addr} (e : Same G G') (i : LeI ι ι') : ∀ {ps : List (V × V)} {ds : List D}, RepPr K mg G ι ps ds → RepPr K mg G' ι' ps ds
  | _, _, .nil => .nil
  | _, _, .cons a b r => .cons (a.mono e i) (b.mono e i) (RepPr.mono e i r)
def OkPr (K : PySem.W.Frag) (mg : MG) (W : WB) (w : Ws) (Q : List (V × V) → Hp → Prop) : R → Prop
  | .ok (.tup ds) ρ st => ∀ (w' : Ws) (ps : List (V × V)), w'.ρ = ρ → w'.st = st → w'.σ = w.σ → Aft K mg w w' → RepPr K mg w'.G w'.ι ps ds → Q ps w'.H
  | .ok _ _ _ => False
  | .exc c ρ st => ∀ (w' : Ws) (cls : Value) (dx : Option Addr), w'.ρ = ρ → w'.st = st → w'.σ = w.σ → Aft K mg w w' → ExcAt K mg w' c cls dx → W cls dx w'.σ w'.H
  | .bad => False
section
variable {K : PySem.W.Frag} {mg : MG} {W : WB}
theorem OkPr.aft {Q : List (V × V) → Hp → Prop} {w w1 : Ws} {r : R} (h : OkPr K mg W w Q r) (a : Aft K mg w w1) (e : w1.σ = w.σ) : OkPr K mg W w1 Q r := by
  cases r with
  | ok d ρ st =>
    cases d with
    | tup ds => exact fun w' v h1 h2 h3 h4 h5 => h w' v h1 h2 (h3.trans e) (a.trans h4) h5
    | _ => exact h
  | exc c ρ st => exact fun w' cls dx h1 h2 h3 h4 h5 => h w' cls dx h1 h2 (h3.trans e) (a.trans h4) h5
  | bad => exact h
end
section
variable {X : Cx} {W : WB} {k v : Expr} {ks : List (Option Expr)} {vs : List Expr} {f g h : DEx} {pos : Pos}
end
theorem Cal.none {P : Program} {wd : World} {K : PySem.W.Frag} {mg : Str → Option Value} {base : Heap} {x : Str} {st : Stmt} {ps : List Str} {k m : Nat} (Df : Dfn K mg x ps st) (hm : m = ps.length) : Cal P wd K mg base k x m (fun _ _ => .bad) := by
  obtain ⟨f, fd, F, hmg, hB⟩ := Df
  subst hm
  refine ⟨f, fd, ps, ⟨fun vs H Q E h => h.1, fun A outer s H args us vs Q E _ _ _ _ h => ?_⟩, hmg, F.kp, hB⟩
  obtain ⟨_, w, ds, _, _, _, _, _, ok⟩ := h
  exact ok.elim
end DL
namespace DL
open PySem L2
theorem Law.of {P : Program} {wd : World} {K : PySem.W.Frag} {mg : Str → Option Value} {base : Heap} {x : Str} {st : Stmt} {N : List Str} {k n : Nat} {g : DSx} (S : FnScope N [x] (defScope st)) (hn : n = N.length)
    (hb : ∀ (f : Addr) (cdv : Value) (A : Around) (outer : List Env) (s : Shared) (H : Hp) (E : XK), Room k (A.deeper (PyProof.Rows.envOfC "law" (defScope st) s.heap.objs.size f cdv)) →
      DSs (cxOf (L2N.CX P wd) P wd K mg base N "law" (defScope st) f cdv A outer s H E) (WEx E) (defBody st) g) :
    ∀ {f : Addr} {fd : FuncData}, Fun K "law" "law" st f fd → FnOk P wd K mg base (L2N.CX P wd) (k + 1) f fd [x] (spD K mg 1 (runD n g)) := fun F => fn_D (funV_of F) S hn (hb _)
def spLaw (K : PySem.W.Frag) : Sp := fun vs H Q _ => ∃ (a : Addr) (ns : List Int), vs = [.ref a] ∧ SqL K H a (ns.map V.int) ∧ ns.length ≤ 63 ∧ ∀ H', Q (.bl true) H'
theorem reps_ints {K : PySem.W.Frag} {mg : MG} {G : Hp} {ι : List Addr} : ∀ ns : List Int, Reps K mg G ι (ns.map V.int) (ns.map D.int)
  | [] => .nil
  | n :: ns => .cons (.int n) (reps_ints ns)
end DL
namespace DL
open PySem L2
@[simp] theorem kitB_NoneType_str : kitB "NoneType" "str" = some false := by decide
@[simp] theorem kitB_NoneType_list : kitB "NoneType" "list" = some false := by decide
@[simp] theorem kitB_NoneType_tuple : kitB "NoneType" "tuple" = some false := by decide
@[simp] theorem kitB_NoneType_bool : kitB "NoneType" "bool" = some false := by decide
@[simp] theorem kitB_NoneType_int : kitB "NoneType" "int" = some false := by decide
@[simp] theorem kitB_NoneType_dict : kitB "NoneType" "dict" = some false := by decide
@[simp] theorem kitB_bool_str : kitB "bool" "str" = some false := by decide
@[simp] theorem kitB_bool_list : kitB "bool" "list" = some false := by decide
@[simp] theorem kitB_bool_tuple : kitB "bool" "tuple" = some false := by decide
@[simp] theorem kitB_bool_bool : kitB "bool" "bool" = some true := by decide
@[simp] theorem kitB_bool_int : kitB "bool" "int" = some true := by decide
@[simp] theorem kitB_bool_dict : kitB "bool" "dict" = some false := by decide
@[simp] theorem kitB_int_str : kitB "int" "str" = some false := by decide
@[simp] theorem kitB_int_list : kitB "int" "list" = some false := by decide
@[simp] theorem kitB_int_tuple : kitB "int" "tuple" = some false := by decide
@[simp] theorem kitB_int_bool : kitB "int" "bool" = some false := by decide
@[simp] theorem kitB_int_int : kitB "int" "int" = some true := by decide
@[simp] theorem kitB_int_dict : kitB "int" "dict" = some false := by decide
@[simp] theorem kitB_str_str : kitB "str" "str" = some true := by decide
@[simp] theorem kitB_str_list : kitB "str" "list" = some false := by decide
@[simp] theorem kitB_str_tuple : kitB "str" "tuple" = some false := by decide
@[simp] theorem kitB_str_bool : kitB "str" "bool" = some false := by decide
@[simp] theorem kitB_str_int : kitB "str" "int" = some false := by decide
@[simp] theorem kitB_str_dict : kitB "str" "dict" = some false := by decide
@[simp] theorem kitB_tuple_str : kitB "tuple" "str" = some false := by decide
@[simp] theorem kitB_tuple_list : kitB "tuple" "list" = some false := by decide
@[simp] theorem kitB_tuple_tuple : kitB "tuple" "tuple" = some true := by decide
@[simp] theorem kitB_tuple_bool : kitB "tuple" "bool" = some false := by decide
@[simp] theorem kitB_tuple_int : kitB "tuple" "int" = some false := by decide
@[simp] theorem kitB_tuple_dict : kitB "tuple" "dict" = some false := by decide
@[simp] theorem kitB_list_str : kitB "list" "str" = some false := by decide
@[simp] theorem kitB_list_list : kitB "list" "list" = some true := by decide
@[simp] theorem kitB_list_tuple : kitB "list" "tuple" = some false := by decide
@[simp] theorem kitB_list_bool : kitB "list" "bool" = some false := by decide
@[simp] theorem kitB_list_int : kitB "list" "int" = some false := by decide
@[simp] theorem kitB_list_dict : kitB "list" "dict" = some false := by decide
@[simp] theorem kitB_dict_str : kitB "dict" "str" = some false := by decide
@[simp] theorem kitB_dict_list : kitB "dict" "list" = some false := by decide
@[simp] theorem kitB_dict_tuple : kitB "dict" "tuple" = some false := by decide
@[simp] theorem kitB_dict_bool : kitB "dict" "bool" = some false := by decide
@[simp] theorem kitB_dict_int : kitB "dict" "int" = some false := by decide
@[simp] theorem kitB_dict_dict : kitB "dict" "dict" = some true := by decide
end DL
namespace DL
open PySem L2
theorem lcGo_inv {g : DGx} {c f : DEx} {vs : List Nat} {ρ : En} (I : Nat → Store → Prop) (P : Nat → D → Prop) : ∀ (ds acc : List D) (k : Nat) (st : Store),
    (∀ (i : Nat) d st, ds[i]? = some d → I (k + i) st → ∃ ρ1 ρ2 y st', g d ρ = some ρ1 ∧ c ρ1 st = .ok (.bl true) ρ1 st ∧ f ρ1 st = .ok y ρ2 st' ∧ wipeR ρ2 vs = ρ ∧ I (k + i + 1) st' ∧ P (k + i) y) → I k st →
    ∃ ys st', lcGo g c f vs ds acc ρ st = .ok (.lst (acc ++ ys)) ρ st' ∧ I (k + ds.length) st' ∧ ys.length = ds.length ∧ ∀ (i : Nat) y, ys[i]? = some y → P (k + i) y
  | [], acc, k, st, _, hi => ⟨[], st, by simp [lcGo], hi, rfl, by simp⟩
  | d :: ds, acc, k, st, h, hi => by
    obtain ⟨ρ1, ρ2, y, st1, h1, h2, h3, h4, h5, h6⟩ := h 0 d st rfl hi
    obtain ⟨ys, st2, q1, q2, q3, q4⟩ := lcGo_inv I P ds (acc ++ [y]) (k + 1) st1 (fun i d st hd hi => by
      have := h (i + 1) d st hd (by have e : k + (i + 1) = k + 1 + i := by omega
                                    rw [e]; exact hi)
      have e : k + (i + 1) = k + 1 + i := by omega
      rw [e] at this; exact this) h5
    refine ⟨y :: ys, st2, ?_, ?_, by simp [q3], fun i z hz => ?_⟩
    · simp only [lcGo, h1, h2, h3, h4, q1]; simp
    · have e : k + (d :: ds).length = k + 1 + ds.length := by simp; omega
      rw [e]; exact q2
    · cases i with
      | zero => cases hz; exact h6
      | succ i =>
        have := q4 i z hz
        have e : k + (i + 1) = k + 1 + i := by omega
        rw [e]; exact this
theorem forD_inv {g : DGx} {b : DSx} (I : Nat → En → Store → Prop) : ∀ (ds : List D) (k : Nat) (ρ : En) (st : Store),
    (∀ (i : Nat) d ρ st, ds[i]? = some d → I (k + i) ρ st → ∃ ρ1 ρ2 st2, g d ρ = some ρ1 ∧ (b ρ1 st = .nx ρ2 st2 ∨ b ρ1 st = .ct ρ2 st2) ∧ I (k + i + 1) ρ2 st2) → I k ρ st →
    ∃ ρ' st', forD g b ds ρ st = .nx ρ' st' ∧ I (k + ds.length) ρ' st'
  | [], k, ρ, st, _, hi => ⟨ρ, st, rfl, hi⟩
  | d :: ds, k, ρ, st, h, hi => by
    obtain ⟨ρ1, ρ2, st2, h1, h2, h3⟩ := h 0 d ρ st rfl hi
    obtain ⟨ρ', st', q1, q2⟩ := forD_inv I ds (k + 1) ρ2 st2 (fun i d ρ st hd hi => by
      have e : k + (i + 1) = k + 1 + i := by omega
      have := h (i + 1) d ρ st hd (by rw [e]; exact hi)
      rw [e] at this; exact this) h3
    refine ⟨ρ', st', ?_, ?_⟩
    · rcases h2 with h2 | h2 <;> simp only [forD, h1, h2, q1]
    · have e : k + (d :: ds).length = k + 1 + ds.length := by simp; omega
      rw [e]; exact q2
class Dt (α : Type) [DecidableEq α] where
  d : α → D
  py : α → PyData
  ok : α → Prop
  dep : Nat
  pyd : ∀ a, (d a).py = some (py a)
  eqv : ∀ a b, PyData.eqv (py a) (py b) = decide (a = b)
  lay : ∀ a, ok a → (py a).canLay0 = true
  dle : ∀ a, (py a).depth ≤ dep
def okS (s : Str) : Prop := ∀ c ∈ s.cps.toList, c < 0x110000
theorem okS_lay {s : Str} (h : okS s) : (PyData.str s).canLay0 = true := by
  simp only [PyData.canLay0, PySem.PyData.strOk]
  rw [Array.all_eq_true']
  intro c hc
  exact decide_eq_true (h c (by simpa using hc))
theorem dec_beq {α : Type} [BEq α] [LawfulBEq α] [DecidableEq α] (a b : α) : (a == b) = decide (a = b) := by rw [Bool.eq_iff_iff, beq_iff_eq, decide_eq_true_eq]
instance : Dt Int where
  d := .int
  py := .int
  ok _ := True
  dep := 0
  pyd _ := by simp [D.py]
  eqv a b := by simp only [PyData.eqv]; exact dec_beq a b
  lay _ _ := by simp [PyData.canLay0]
  dle _ := Nat.le_refl _
instance : Dt Bool where
  d := .bl
  py := .bool
  ok _ := True
  dep := 0
  pyd _ := by simp [D.py]
  eqv a b := by simp only [PyData.eqv]; exact dec_beq a b
  lay _ _ := by simp [PyData.canLay0]
  dle _ := Nat.le_refl _
instance : Dt Str where
  d := .str
  py := .str
  ok s := okS s
  dep := 0
  pyd _ := by simp [D.py]
  eqv a b := by simp only [PyData.eqv]; exact dec_beq a b
  lay _ h := okS_lay h
  dle _ := Nat.le_refl _
section
variable {α : Type} [DecidableEq α] [Dt α]
theorem pyAll_dt : ∀ xs : List α, pyAll (xs.map Dt.d) = some (xs.map Dt.py)
  | [] => by simp [pyAll]
  | x :: xs => by simp only [List.map_cons, pyAll, Dt.pyd, pyAll_dt xs]
theorem eqvAll_map : ∀ xs ys : List α, PyData.eqvAll (xs.map Dt.py) (ys.map Dt.py) = decide (xs = ys)
  | [], [] => by simp [PyData.eqvAll]
  | [], _ :: _ => by simp [PyData.eqvAll]
  | _ :: _, [] => by simp [PyData.eqvAll]
  | x :: xs, y :: ys => by
    rw [List.map_cons, List.map_cons, PyData.eqvAll, Dt.eqv x y, eqvAll_map xs ys, ← Bool.decide_and]
    exact decide_eq_decide.mpr (by rw [List.cons.injEq])
theorem layAll_map : ∀ xs : List α, (∀ x ∈ xs, Dt.ok x) → PyData.canLayAll0 (xs.map Dt.py) = true
  | [], _ => by simp [PyData.canLayAll0]
  | x :: xs, h => by simp [PyData.canLayAll0, Dt.lay x (h x (by simp)), layAll_map xs fun y hy => h y (by simp [hy])]
theorem depAll_map : ∀ xs : List α, PyData.depthAll (xs.map Dt.py) ≤ Dt.dep α
  | [] => Nat.zero_le _
  | x :: xs => by
    rw [List.map_cons, PyData.depthAll]
    exact Nat.max_le.mpr ⟨Dt.dle x, depAll_map xs⟩
instance : Dt (List α) where
  d xs := .lst (xs.map Dt.d)
  py xs := .list (xs.map Dt.py)
  ok xs := ∀ x ∈ xs, Dt.ok x
  dep := Dt.dep α + 1
  pyd xs := by simp [D.py, pyAll_dt]
  eqv xs ys := by simp only [PyData.eqv]; exact eqvAll_map xs ys
  lay xs h := by simp only [PyData.canLay0]; exact layAll_map xs h
  dle xs := by simp only [PyData.depth]; exact Nat.succ_le_succ (depAll_map xs)
theorem pEqB_dt {a b : α} (ha : Dt.ok a) (hb : Dt.ok b) (h : Dt.dep α ≤ 64 := by decide) : pEqB (Dt.d a) (Dt.d b) = some (decide (a = b)) := by
  have s1 : SeqAt.shaped (Dt.py a) = true := by unfold SeqAt.shaped; rw [Dt.lay a ha]; simpa using Nat.le_trans (Dt.dle a) h
  have s2 : SeqAt.shaped (Dt.py b) = true := by unfold SeqAt.shaped; rw [Dt.lay b hb]; simpa using Nat.le_trans (Dt.dle b) h
  simp [pEqB, Dt.pyd, s1, s2, Dt.eqv]
end
theorem pEqB_int (i j : Int) : pEqB (.int i) (.int j) = some (decide (i = j)) := pEqB_dt (a := i) (b := j) trivial trivial
theorem pEqB_bl (i j : Bool) : pEqB (.bl i) (.bl j) = some (decide (i = j)) := pEqB_dt (a := i) (b := j) trivial trivial
@[simp] theorem pEq_int (i j : Int) : pEq (.int i) (.int j) = some (.bl (decide (i = j))) := by unfold pEq; rw [pEqB_int]; rfl
@[simp] theorem pNe_int (i j : Int) : pNe (.int i) (.int j) = some (.bl (!decide (i = j))) := by unfold pNe; rw [pEqB_int]; rfl
@[simp] theorem pEq_bl (i j : Bool) : pEq (.bl i) (.bl j) = some (.bl (decide (i = j))) := by unfold pEq; rw [pEqB_bl]; rfl
@[simp] theorem pNe_bl (i j : Bool) : pNe (.bl i) (.bl j) = some (.bl (!decide (i = j))) := by unfold pNe; rw [pEqB_bl]; rfl
def mkS (cs : List Nat) : Str := ⟨cs.toArray⟩
theorem mkS_of (s : Str) : mkS s.cps.toList = s := by cases s; simp [mkS]
@[simp] theorem mkS_cps (cs : List Nat) : (mkS cs).cps.toList = cs := by simp [mkS]
@[simp] theorem mkS_len (cs : List Nat) : (mkS cs).length = cs.length := by simp [mkS, Str.length]
theorem mkS_inj {a b : List Nat} : mkS a = mkS b ↔ a = b := ⟨fun h => by have := congrArg (fun s => s.cps.toList) h; simpa using this, fun h => by rw [h]⟩
theorem mkS_app (a b : List Nat) : mkS a ++ mkS b = mkS (a ++ b) := by
  show (⟨a.toArray ++ b.toArray⟩ : Str) = ⟨(a ++ b).toArray⟩
  simp
theorem mkS_ext {a b : Str} (h : a.cps.toList = b.cps.toList) : a = b := by rw [← mkS_of a, ← mkS_of b, h]
theorem app_cps (a b : Str) : (a ++ b).cps.toList = a.cps.toList ++ b.cps.toList := by
  show (a.cps ++ b.cps).toList = _
  simp
theorem len_cps (a : Str) : a.length = a.cps.toList.length := by simp [Str.length]
theorem cutS_cps (z : Str) (lo hi : Option Int) : (cutS z lo hi).cps.toList = (z.cps.toList.drop (HT.sIx z.length 0 lo)).take (HT.sIx z.length z.length hi - HT.sIx z.length 0 lo) := by simp [cutS]
@[simp] theorem strL_map (xs : List Str) : strL (xs.map .str) = some xs := by
  induction xs with
  | nil => rfl
  | cons x xs ih => simp [ih]
theorem join0_cps (cs : List Str) : (Txt.join "" cs).cps.toList = (cs.map (·.cps.toList)).flatten := by
  show (Builtin.Str.glued "" cs).cps.toList = _
  rw [StrLaws.glued_eq_join]
  induction cs with
  | nil => rfl
  | cons a r ih =>
    cases r with
    | nil => simp [Str.join]
    | cons b r =>
      show (a ++ "" ++ Str.join "" (b :: r)).cps.toList = _
      rw [app_cps, app_cps, ih]
      have : ("" : Str).cps.toList = [] := by decide
      simp [this]
@[simp] theorem bools_map {α : Type} (l : List α) (f : α → Bool) : bools (l.map fun x => .bl (f x)) = some (l.map f) := by
  induction l with
  | nil => rfl
  | cons x xs ih => simp [ih]
@[simp] def lc1 (g : DGx) (f : DEx) (vs : List Nat) (d : D) (ρ : En) (st : Store) : R := match g d ρ with
  | none => .bad
  | some ρ => match f ρ st with
    | .ok y ρ st => .ok y (wipeR ρ vs) st
    | _ => .bad
theorem lc_inv {g : DGx} {f : DEx} {vs : List Nat} {ρ : En} (I : Nat → Store → Prop) (P : Nat → D → Prop) (ds : List D) (st : Store)
    (h : ∀ (i : Nat) d st, ds[i]? = some d → i < ds.length → I i st → ∃ y st', lc1 g f vs d ρ st = .ok y ρ st' ∧ I (i + 1) st' ∧ P i y) (h0 : I 0 st) :
    ∃ ys st', lcGo g yesD f vs ds [] ρ st = .ok (.lst ys) ρ st' ∧ I ds.length st' ∧ ys.length = ds.length ∧ ∀ (i : Nat) y, ys[i]? = some y → P i y := by
  obtain ⟨ys, st', q1, q2, q3, q4⟩ := lcGo_inv (g := g) (c := yesD) (f := f) (vs := vs) (ρ := ρ) I P ds [] 0 st (fun i d st hd hi => by
    rw [Nat.zero_add] at hi ⊢
    obtain ⟨y, st', e, h1, h2⟩ := h i d st hd (List.getElem?_eq_some_iff.mp hd).1 hi
    simp only [lc1] at e
    split at e
    · cases e
    · rename_i ρ1 e1
      split at e
      · rename_i y' ρ2 st2 e2
        cases e
        exact ⟨ρ1, ρ2, _, _, e1, rfl, e2, rfl, h1, h2⟩
      · cases e) h0
  refine ⟨ys, st', by simpa using q1, by simpa using q2, q3, fun i y hy => by simpa using q4 i y hy⟩
@[simp] def lc2 (g : DGx) (c f : DEx) (vs : List Nat) (d : D) (ρ : En) (st : Store) : R := match g d ρ with
  | none => .bad
  | some ρ => match c ρ st with
    | .ok (.bl true) ρ st => (match f ρ st with
      | .ok y ρ st => .ok (.tup [y]) (wipeR ρ vs) st
      | _ => .bad)
    | .ok (.bl false) ρ st => .ok (.tup []) (wipeR ρ vs) st
    | _ => .bad
theorem lcGo_cons {g : DGx} {c f : DEx} {vs : List Nat} {ρ : En} {st : Store} {d : D} {ds acc : List D} {ys : List D} {ρ' : En} {st' : Store} (h : lc2 g c f vs d ρ st = .ok (.tup ys) ρ' st') : lcGo g c f vs (d :: ds) acc ρ st = lcGo g c f vs ds (acc ++ ys) ρ' st' := by
  unfold lc2 at h
  show (match g d ρ with
    | none => R.bad
    | some ρ => match c ρ st with
      | .ok (.bl true) ρ st => (match f ρ st with
        | .ok y ρ st => lcGo g c f vs ds (acc ++ [y]) (wipeR ρ vs) st
        | _ => .bad)
      | .ok (.bl false) ρ st => lcGo g c f vs ds acc (wipeR ρ vs) st
      | _ => .bad) = _
  cases e1 : g d ρ with
  | none => simp [e1] at h
  | some ρ1 =>
    simp only [e1] at h ⊢
    cases e2 : c ρ1 st with
    | ok b ρ2 st2 =>
      cases b with
      | bl b =>
        cases b with
        | true =>
          simp only [e2] at h ⊢
          cases e3 : f ρ2 st2 with
          | ok y ρ3 st3 =>
            simp only [e3, R.ok.injEq, D.tup.injEq] at h ⊢
            obtain ⟨rfl, rfl, rfl⟩ := h
            rfl
          | exc _ _ _ => simp [e3] at h
          | bad => simp [e3] at h
        | false =>
          simp only [e2, R.ok.injEq, D.tup.injEq] at h ⊢
          obtain ⟨rfl, rfl, rfl⟩ := h
          simp
      | _ => simp [e2] at h
    | exc _ _ _ => simp [e2] at h
    | bad => simp [e2] at h
theorem join_chars (cs : List Nat) : Txt.join "" (cs.map fun c => mkS [c]) = mkS cs := by
  apply mkS_ext
  rw [join0_cps, mkS_cps]
  induction cs with
  | nil => rfl
  | cons c cs ih => rw [List.map_cons, List.map_cons, List.flatten_cons, ih]; simp
theorem lens_chars (cs : List Nat) : ((cs.map fun c => mkS [c]).map (·.length)).sum = cs.length := by
  induction cs with
  | nil => rfl
  | cons c cs ih => rw [List.map_cons, List.map_cons, List.sum_cons, ih]; simp; omega
theorem of_all {α : Type} {f : α → D} {P : α → Prop} : ∀ {ys : List D}, (∀ y ∈ ys, ∃ c, P c ∧ y = f c) → ∃ cs : List α, ys = cs.map f ∧ ∀ c ∈ cs, P c
  | [], _ => ⟨[], rfl, fun _ h => by cases h⟩
  | y :: ys, h => by
    obtain ⟨c, hc, rfl⟩ := h y (List.mem_cons_self ..)
    obtain ⟨cs, e, h'⟩ := of_all (f := f) (P := P) fun y hy => h y (List.mem_cons_of_mem _ hy)
    refine ⟨c :: cs, by rw [e]; rfl, fun x hx => ?_⟩
    rcases List.mem_cons.mp hx with rfl | hx
    · exact hc
    · exact h' x hx
theorem all_of_get {ys : List D} {P : D → Prop} (h : ∀ (i : Nat) y, ys[i]? = some y → P y) : ∀ y ∈ ys, P y := fun y hy => by
  obtain ⟨i, hi, e⟩ := List.getElem_of_mem hy
  exact h i y (by rw [List.getElem?_eq_getElem hi, e])
theorem join_fit (cs : List Nat) (h : cs.length ≤ 1000000) : pJoin (.str "") (.lst (cs.map fun c => .str (mkS [c]))) = some (.str (mkS cs)) := by
  have e : (cs.map fun c => D.str (mkS [c])) = (cs.map fun c => mkS [c]).map D.str := by rw [List.map_map]; rfl
  have h0 : ("" : Str).length = 0 := by decide
  simp only [pJoin, kOf, e, strL_map, lens_chars, h0, join_chars]
  rw [if_pos (by omega)]
@[simp] theorem ixN_nat (n k : Nat) : ixN n (k : Int) = if k < n then some k else none := by
  unfold ixN
  rw [if_pos (by omega)]
  by_cases h : k < n
  · rw [if_pos h, if_pos (by omega)]; rfl
  · rw [if_neg h, if_neg (by omega)]
@[simp] theorem atI_nat {α : Type} (xs : List α) (k : Nat) : atI xs (k : Int) = xs[k]? := by
  unfold atI
  rw [ixN_nat]
  by_cases h : k < xs.length
  · simp [h]
  · simp [h]
@[simp] theorem atI_zero {α : Type} (xs : List α) : atI xs 0 = xs[0]? := atI_nat xs 0
@[simp] theorem atI_one {α : Type} (xs : List α) : atI xs 1 = xs[1]? := atI_nat xs 1
@[simp] theorem atI_2 {α : Type} (xs : List α) : atI xs 2 = xs[2]? := atI_nat xs 2
@[simp] theorem atI_3 {α : Type} (xs : List α) : atI xs 3 = xs[3]? := atI_nat xs 3
@[simp] theorem atI_4 {α : Type} (xs : List α) : atI xs 4 = xs[4]? := atI_nat xs 4
@[simp] theorem atI_5 {α : Type} (xs : List α) : atI xs 5 = xs[5]? := atI_nat xs 5
@[simp] theorem atI_6 {α : Type} (xs : List α) : atI xs 6 = xs[6]? := atI_nat xs 6
theorem lc2_of1 {g : DGx} {f : DEx} {vs : List Nat} {ρ ρ' : En} {st st' : Store} {d y : D} (h : lc1 g f vs d ρ st = .ok y ρ' st') : lc2 g yesD f vs d ρ st = .ok (.tup [y]) ρ' st' := by
  unfold lc1 at h
  unfold lc2
  cases e1 : g d ρ with
  | none => simp [e1] at h
  | some ρ1 =>
    simp only [e1, yesD_s] at h ⊢
    cases e3 : f ρ1 st with
    | ok y ρ3 st3 =>
      simp only [e3, R.ok.injEq] at h ⊢
      obtain ⟨rfl, rfl, rfl⟩ := h
      exact ⟨rfl, rfl, rfl⟩
    | exc _ _ _ => simp [e3] at h
    | bad => simp [e3] at h
theorem lc_fmC' {α : Type} {g : DGx} {c e : DEx} {vs : List Nat} {ρ : En} {st : Store} (f F : α → D) (B : α → Bool) : ∀ (cs : List α) (acc : List D), (∀ x ∈ cs, lc2 g c e vs (f x) ρ st = .ok (.tup (if B x then [F x] else [])) ρ st) →
    lcGo g c e vs (cs.map f) acc ρ st = .ok (.lst (acc ++ (cs.filter B).map F)) ρ st
  | [], acc, _ => by simp [lcGo]
  | d :: ds, acc, h => by
    rw [List.map_cons, lcGo_cons (h d (List.mem_cons_self ..)), lc_fmC' f F B ds _ fun d hd => h d (List.mem_cons_of_mem _ hd)]
    cases e : B d <;> simp [e]
theorem lc_fmC {α : Type} {g : DGx} {c e : DEx} {vs : List Nat} {ρ : En} {st : Store} (f F : α → D) (B : α → Bool) (cs : List α) (h : ∀ x ∈ cs, lc2 g c e vs (f x) ρ st = .ok (.tup (if B x then [F x] else [])) ρ st) :
    lcGo g c e vs (cs.map f) [] ρ st = .ok (.lst ((cs.filter B).map F)) ρ st := by simpa using lc_fmC' f F B cs [] h
theorem lc_mapC' {α : Type} {g : DGx} {e : DEx} {vs : List Nat} {ρ : En} {st : Store} (f F : α → D) : ∀ (cs : List α) (acc : List D), (∀ x ∈ cs, lc1 g e vs (f x) ρ st = .ok (F x) ρ st) →
    lcGo g yesD e vs (cs.map f) acc ρ st = .ok (.lst (acc ++ cs.map F)) ρ st
  | [], acc, _ => by simp [lcGo]
  | d :: ds, acc, h => by
    rw [List.map_cons, lcGo_cons (lc2_of1 (h d (List.mem_cons_self ..))), lc_mapC' f F ds _ fun d hd => h d (List.mem_cons_of_mem _ hd)]
    simp
theorem lc_mapC {α : Type} {g : DGx} {e : DEx} {vs : List Nat} {ρ : En} {st : Store} (f F : α → D) (cs : List α) (h : ∀ x ∈ cs, lc1 g e vs (f x) ρ st = .ok (F x) ρ st) :
    lcGo g yesD e vs (cs.map f) [] ρ st = .ok (.lst (cs.map F)) ρ st := by simpa using lc_mapC' f F cs [] h
@[simp] theorem pInX_char (n : Bool) (c : Nat) (z : Str) : pInX n (.str ⟨#[c]⟩) (.str z) = some (.bl (if n then !decide (c ∈ z.cps.toList) else decide (c ∈ z.cps.toList))) := by simp [pInX, pInB]
@[simp] theorem pAll_map {α : Type} (l : List α) (f : α → Bool) : pAll (.lst (l.map fun x => .bl (f x))) = some (.bl (l.all f)) := by
  simp only [pAll, bools_map, Option.map_some]
  congr 2
  induction l with
  | nil => rfl
  | cons x xs ih => simp
end DL
namespace DL
open PySem L2
section
variable {K : PySem.W.Frag} {mg : MG} {w : Ws}
theorem Aft.kill (s : Sts K mg w) {l : Nat} {a : Addr} {c : Cell} {o : HO} (h0 : w.st[l]? = some c) (hd : c ≠ .dead) (h1 : w.ι[l]? = some a) (ha : w.H a = some o) :
    Aft K mg w { w with G := upd w.G a o, st := w.st.set l .dead } := by
  have own : Liv w l a := ⟨c, h0, hd, h1⟩
  have ga : w.G a = none := s.mtG own.mt
  have sg := same_upd (o := o) ga
  have sub' : Same (upd w.G a o) w.H := fun b u e => by
    by_cases h : b = a
    · subst h; rw [upd_same] at e; rw [ha]; exact e
    · rw [upd_ne h] at e; exact s.sub _ _ e
  have lv : ∀ k b, Liv { w with G := upd w.G a o, st := w.st.set l .dead } k b → Liv w k b ∧ k ≠ l := fun k b h => by
    obtain ⟨c', q1, q2, q3⟩ := h
    rcases getElem?_set_ite q1 with ⟨_, e, _⟩ | ⟨ne, e⟩
    · exact absurd e q2
    · exact ⟨⟨c', e, q2, q3⟩, ne⟩
  have gne : ∀ b, b ≠ a → w.G b = none → upd w.G a o b = none := fun b hb e => by rw [upd_ne hb]; exact e
  refine ⟨⟨s.lowG.trans sg, s.lowI, sub', s.ln, by simpa using s.len, fun k c' b q1 q2 => ?_, fun k k' b q1 q2 => s.inj k k' b (lv k b q1).1 (lv k' b q2).1, fun i x h => ?_, fun i k b q1 q2 => s.sep i k b q1 (lv k b q2).1, s.dis⟩, sg, LeI.refl _, fun _ _ h _ => h, fun b h => ?_, fun b h => ?_, fun _ h => h⟩
  · rcases getElem?_set_ite q1 with ⟨_, e2, _⟩ | ⟨ne, e⟩
    · subst e2; trivial
    · exact (s.cel k c' b e q2).keep (w' := { w with G := upd w.G a o, st := w.st.set l .dead }) sg (LeI.refl _) (fun n => ⟨gne b (fun q : b = a => ne (s.inj k l b ⟨c', e, n, q2⟩ (q ▸ own))) (s.mtG (.inl ⟨k, c', e, n, q2⟩)), fun _ e => e⟩) sub'
  · refine (s.slo i x h).keep (w' := { w with G := upd w.G a o, st := w.st.set l .dead }) sg (LeI.refl _) fun b ⟨es, e3⟩ h2 => ?_
    have o2 : OwnS w i b := ⟨es, by rw [h, e3], h2⟩
    exact ⟨gne b (fun q : b = a => s.sep i l b o2 (q ▸ own)) (s.mtG o2.mt), fun _ e => e⟩
  · rcases h with ⟨k, h⟩ | h
    · exact .inl (.inl ⟨k, (lv k b h).1⟩)
    · exact .inl (.inr h)
  · by_cases e : b = a
    · subst e; exact .inr (.inl own.mt)
    · refine .inl ?_
      have h' : upd w.G a o b ≠ none := h
      rwa [upd_ne e] at h'
theorem Aft.newCellG {w0 : Ws} (A : Aft K mg w0 w) {a : Addr} {c : Cell} (hf : w0.H a = none) (hl : Loose w a) (hc : c ≠ .dead) (r : CellAt K mg w a c) :
    Aft K mg w0 { w with ι := w.ι ++ [a], st := w.st ++ [c] } := by
  have s := A.s
  have le := leI_append w.ι a
  have lv : ∀ l b, Liv { w with ι := w.ι ++ [a], st := w.st ++ [c] } l b → (l = w.st.length ∧ b = a) ∨ Liv w l b := fun l b h => by
    obtain ⟨c, h1, h2, h3⟩ := h
    rcases getElem?_append_one h1 with h1 | ⟨h1, _⟩
    · rcases getElem?_append_one h3 with h3 | ⟨h3, _⟩
      · exact .inr ⟨c, h1, h2, h3⟩
      · have := (List.getElem?_eq_some_iff.mp h1).1
        rw [s.len] at this; omega
    · rcases getElem?_append_one h3 with h3 | ⟨_, h3⟩
      · have := (List.getElem?_eq_some_iff.mp h3).1
        rw [← s.len] at this; omega
      · exact .inl ⟨h1, h3⟩
  refine ⟨⟨s.lowG, s.lowI.trans le, s.sub, s.ln, by simp [s.len], fun l c b h1 h2 => ?_, fun l l' b h1 h2 => ?_, fun i x h => ?_, fun i l b h1 h2 => ?_, s.dis⟩, A.g, A.i.trans le, A.kp, fun b h => ?_, A.gn, A.al⟩
  · rcases getElem?_append_one h1 with h1 | ⟨h1, e⟩
    · rcases getElem?_append_one h2 with h2 | ⟨h2, _⟩
      · exact (s.cel l c b h1 h2).keep (w' := { w with ι := w.ι ++ [a], st := w.st ++ [_] }) (Same.refl _) le (fun n => ⟨s.mtG (.inl ⟨l, c, h1, n, h2⟩), fun _ e => e⟩) s.sub
      · have := (List.getElem?_eq_some_iff.mp h1).1
        rw [s.len] at this; omega
    · rcases getElem?_append_one h2 with h2 | ⟨_, h3⟩
      · have := (List.getElem?_eq_some_iff.mp h2).1
        rw [← s.len] at this; omega
      · subst e; subst h3
        exact r.keep (w' := { w with ι := w.ι ++ [_], st := w.st ++ [_] }) (Same.refl _) le (fun _ => ⟨hl.1, fun _ e => e⟩) s.sub
  · rcases lv l b h1 with ⟨e1, e⟩ | q1 <;> rcases lv l' b h2 with ⟨e2, e'⟩ | q2
    · rw [e1, e2]
    · subst e; exact (hl.2 (.inl ⟨l', q2⟩)).elim
    · subst e'; exact (hl.2 (.inl ⟨l, q1⟩)).elim
    · exact s.inj l l' b q1 q2
  · exact (s.slo i x h).keep (w' := { w with ι := w.ι ++ [a], st := w.st ++ [c] }) (Same.refl _) le fun b ⟨es, e⟩ h2 => ⟨s.mtG (.inr ⟨i, es, by rw [h, e], h2⟩), fun _ e => e⟩
  · rcases lv l b h2 with ⟨_, e⟩ | q2
    · subst e; exact hl.2 (.inr ⟨i, h1⟩)
    · exact s.sep i l b h1 q2
  · rcases h with ⟨l, h⟩ | h
    · rcases lv l b h with ⟨_, e⟩ | q
      · subst e; exact .inr hf
      · exact A.nw b (.inl ⟨l, q⟩)
    · exact A.nw b (.inr h)
end
mutual
def frz : D → Store → Option (D × Store)
  | .ref l, st => match st[l]? with
    | some (.lst ds) => some (.lst ds, st.set l .dead)
    | some (.dct ds) => some (.dct ds, st.set l .dead)
    | some (.ins c fs) => some (.ins c fs, st.set l .dead)
    | _ => none
  | .tup ds, st => match frzs ds st with
    | some (ds', st') => some (.tup ds', st')
    | none => none
  | .lst ds, st => match frzs ds st with
    | some (ds', st') => some (.lst ds', st')
    | none => none
  | d, st => some (d, st)
def frzs : List D → Store → Option (List D × Store)
  | [], st => some ([], st)
  | d :: ds, st => match frz d st with
    | some (d', st') => (match frzs ds st' with
      | some (ds', st'') => some (d' :: ds', st'')
      | none => none)
    | none => none
end
section
variable {K : PySem.W.Frag} {mg : MG}
def FrzOk (K : PySem.W.Frag) (mg : MG) (w w' : Ws) (st' : Store) : Prop := w'.ρ = w.ρ ∧ w'.σ = w.σ ∧ w'.H = w.H ∧ w'.st = st' ∧ Aft K mg w w'
theorem FrzOk.refl {w : Ws} (s : Sts K mg w) : FrzOk K mg w w w.st := ⟨rfl, rfl, rfl, rfl, .refl s⟩
theorem FrzOk.trans {w w1 w2 : Ws} {st1 st2 : Store} (a : FrzOk K mg w w1 st1) (b : FrzOk K mg w1 w2 st2) : FrzOk K mg w w2 st2 :=
  ⟨b.1.trans a.1, b.2.1.trans a.2.1, b.2.2.1.trans a.2.2.1, b.2.2.2.1, a.2.2.2.2.trans b.2.2.2.2⟩
theorem frz_ref {w : Ws} (s : Sts K mg w) {v : V} {l : Nat} {d' : D} {st' : Store} (r : Rep K mg w.G w.ι v (.ref l)) (h : frz (.ref l) w.st = some (d', st')) : ∃ w', FrzOk K mg w w' st' ∧ Rep K mg w'.G w'.ι v d' := by
  cases r with
  | ref hi =>
    rename_i a
    rw [frz] at h
    split at h
    · rename_i ds e
      cases h
      obtain ⟨_, vs, e1, e2, e3⟩ := s.cel l _ a e hi
      have A := Aft.kill s e (by simp) hi e1
      exact ⟨{ w with G := upd w.G a (.lst vs), st := w.st.set l .dead }, ⟨rfl, rfl, rfl, rfl, A⟩, .lst upd_same e2 (e3.mono A.g A.i)⟩
    · rename_i ds e
      cases h
      obtain ⟨_, vs, e1, e3⟩ := s.cel l _ a e hi
      have A := Aft.kill s e (by simp) hi e1
      exact ⟨{ w with G := upd w.G a (.dK vs), st := w.st.set l .dead }, ⟨rfl, rfl, rfl, rfl, A⟩, .dct (.inl upd_same) (e3.mono A.g A.i)⟩
    · rename_i c fs e
      cases h
      obtain ⟨_, C, dx, vs, e0, e1, e2, e3, e4⟩ := s.cel l _ a e hi
      have A := Aft.kill s e (by simp) hi e1
      exact ⟨{ w with G := upd w.G a (.ins C dx vs), st := w.st.set l .dead }, ⟨rfl, rfl, rfl, rfl, A⟩, .ins e0 upd_same (A.g _ _ e3) (e4.mono A.g A.i)⟩
    · cases h
mutual
theorem frz_ok : ∀ (d : D) {w : Ws} {v : V} {d' : D} {st' : Store}, Sts K mg w → Rep K mg w.G w.ι v d → frz d w.st = some (d', st') → ∃ w', FrzOk K mg w w' st' ∧ Rep K mg w'.G w'.ι v d'
  | .ref l, w, v, d', st', s, r, h => frz_ref s r h
  | .tup ds, w, v, d', st', s, r, h => by
    cases r with
    | tup h1 h2 h3 =>
      rw [frz] at h
      split at h
      · rename_i ds' st2 e
        cases h
        obtain ⟨w', F, rs⟩ := frzs_ok ds s h3 e
        exact ⟨w', F, .tup (SqT.mono F.2.2.2.2.g h1) h2 rs⟩
      · cases h
  | .lst ds, w, v, d', st', s, r, h => by
    cases r with
    | lst h1 h2 h3 =>
      rw [frz] at h
      split at h
      · rename_i ds' st2 e
        cases h
        obtain ⟨w', F, rs⟩ := frzs_ok ds s h3 e
        exact ⟨w', F, .lst (F.2.2.2.2.g _ _ h1) h2 rs⟩
      · cases h
  | .non, w, v, d', st', s, r, h => by simp [frz] at h; obtain ⟨rfl, rfl⟩ := h; exact ⟨w, .refl s, r⟩
  | .bl _, w, v, d', st', s, r, h => by simp [frz] at h; obtain ⟨rfl, rfl⟩ := h; exact ⟨w, .refl s, r⟩
  | .int _, w, v, d', st', s, r, h => by simp [frz] at h; obtain ⟨rfl, rfl⟩ := h; exact ⟨w, .refl s, r⟩
  | .str _, w, v, d', st', s, r, h => by simp [frz] at h; obtain ⟨rfl, rfl⟩ := h; exact ⟨w, .refl s, r⟩
  | .dct _, w, v, d', st', s, r, h => by simp [frz] at h; obtain ⟨rfl, rfl⟩ := h; exact ⟨w, .refl s, r⟩
  | .lsk _, w, v, d', st', s, r, h => by simp [frz] at h; obtain ⟨rfl, rfl⟩ := h; exact ⟨w, .refl s, r⟩
  | .dlk _, w, v, d', st', s, r, h => by simp [frz] at h; obtain ⟨rfl, rfl⟩ := h; exact ⟨w, .refl s, r⟩
  | .ins _ _, w, v, d', st', s, r, h => by simp [frz] at h; obtain ⟨rfl, rfl⟩ := h; exact ⟨w, .refl s, r⟩
  | .glb _, w, v, d', st', s, r, h => by simp [frz] at h; obtain ⟨rfl, rfl⟩ := h; exact ⟨w, .refl s, r⟩
  | .typ _, w, v, d', st', s, r, h => by simp [frz] at h; obtain ⟨rfl, rfl⟩ := h; exact ⟨w, .refl s, r⟩
theorem frzs_ok : ∀ (ds : List D) {w : Ws} {vs : List V} {ds' : List D} {st' : Store}, Sts K mg w → Reps K mg w.G w.ι vs ds → frzs ds w.st = some (ds', st') → ∃ w', FrzOk K mg w w' st' ∧ Reps K mg w'.G w'.ι vs ds'
  | [], w, vs, ds', st', s, r, h => by
    cases r
    simp [frzs] at h; obtain ⟨rfl, rfl⟩ := h; exact ⟨w, .refl s, .nil⟩
  | d :: ds, w, vs, ds', st', s, r, h => by
    cases r with
    | cons r1 r2 =>
      rw [frzs] at h
      split at h
      · rename_i d1 st1 e1
        split at h
        · rename_i ds2 st2 e2
          cases h
          obtain ⟨w1, F1, q1⟩ := frz_ok d s r1 e1
          have A1 := F1.2.2.2.2
          rw [← F1.2.2.2.1] at e2
          obtain ⟨w2, F2, q2⟩ := frzs_ok ds A1.s (r2.mono A1.g A1.i) e2
          have A2 := F2.2.2.2.2
          exact ⟨w2, F1.trans F2, .cons (q1.mono A2.g A2.i) q2⟩
        · cases h
      · cases h
end
end
@[simp] def fzE (f : DEx) (ρ : En) (st : Store) : R := (f ρ st).bind fun d ρ st => match frz d st with
  | some (d', st') => .ok d' ρ st'
  | none => .bad
section
variable {X : Cx} {W : WB} {e : Expr} {f : DEx}
theorem DE.fzE (h : DE X W e f) : DE X W e (DL.fzE f) := by
  obtain ⟨t, p, r⟩ := h
  refine ⟨t, p, fun w Q s q => ?_⟩
  refine r.bindR s q fun w1 v d s1 e1 a1 rp q1 => ?_
  cases hz : frz d w1.st with
  | none => simp only [hz] at q1; exact q1.elim
  | some p =>
    obtain ⟨d', st'⟩ := p
    simp only [hz] at q1
    obtain ⟨w2, ⟨h1, h2, h3, h4, h5⟩, r2⟩ := frz_ok d s1 rp hz
    have := q1 w2 v h1 h4 h2 h5 r2
    rwa [h3] at this
end
@[simp] def cellE (f : DEx) (ρ : En) (st : Store) : R := (f ρ st).bind fun d ρ st => match d with
  | .lst ds => .ok (.ref st.length) ρ (st ++ [.lst ds])
  | _ => .bad
theorem DO.cell {X : Cx} {W : WB} {e : Expr} {f : DEx} (h : DO X W e f) : DE X W e (cellE f) := by
  obtain ⟨⟨t, p, r⟩, hl⟩ := h
  refine ⟨t, p, fun w Q s q => r w Q s ?_⟩
  unfold cellE at q
  cases e1 : f w.ρ w.st with
  | ok d ρ st =>
    rw [e1] at q
    obtain ⟨ds, rfl⟩ := hl _ _ _ _ _ e1
    intro w' a vs h1 h2 h3 A fr lo ha hz rp
    subst h1; subst h2
    have A1 := A.newCell fr lo ha hz rp
    exact q { w' with ι := w'.ι ++ [a], st := w'.st ++ [.lst ds] } (.ref a) rfl rfl h3 A1 (cellRep A)
  | exc c ρ st => rw [e1] at q; exact q
  | bad => rw [e1] at q; exact q
end DL
namespace DL
open PySem L2
@[simp] def insOf (st : Store) : D → Option (Str × List (Str × D))
  | .ins c fs => some (c, fs)
  | .ref l => match st[l]? with
    | some (.ins c fs) => some (c, fs)
    | _ => none
  | _ => none
section
variable {K : PySem.W.Frag} {mg : MG}
theorem insOf_inv {w : Ws} (s : Sts K mg w) {v : V} {d : D} {c : Str} {fs : List (Str × D)} (r : Rep K mg w.G w.ι v d) (h : insOf w.st d = some (c, fs)) :
    ∃ a C dx vs, v = .ref a ∧ mg c = some (.ref C) ∧ w.H a = some (.ins C dx vs) ∧ RepF K mg w.G w.ι vs fs := by
  unfold insOf at h
  split at h
  · cases h
    cases r with
    | ins h1 h2 h3 h4 => exact ⟨_, _, _, _, rfl, h1, s.sub _ _ h2, h4⟩
  · split at h
    · rename_i e
      cases h
      cases r with
      | ref hi =>
        obtain ⟨_, C, dx, vs, e0, e1, _, _, e4⟩ := s.cel _ _ _ e hi
        exact ⟨_, _, _, _, rfl, e0, e1, e4⟩
    · cases h
  · cases h
theorem RepF.lookup {G : Hp} {ι : List Addr} {f : Str} : ∀ {vs : List (Str × V)} {fs : List (Str × D)}, RepF K mg G ι vs fs → (∀ d, fs.lookup f = some d → ∃ v, vs.lookup f = some v ∧ Rep K mg G ι v d) ∧ (fs.lookup f = none → vs.lookup f = none)
  | _, _, .nil => ⟨fun _ h => by simp at h, fun _ => rfl⟩
  | _, _, .cons (k := k) r rs => by
    by_cases h : f = k
    · subst h
      refine ⟨fun d e => ?_, fun e => ?_⟩
      · simp only [List.lookup_cons, beq_self_eq_true] at e ⊢
        cases e; exact ⟨_, rfl, r⟩
      · simp [List.lookup_cons] at e
    · have hb : (f == k) = false := beq_eq_false_iff_ne.mpr h
      simp only [List.lookup_cons, hb]
      exact RepF.lookup rs
theorem RepF.len {G : Hp} {ι : List Addr} : ∀ {vs : List (Str × V)} {fs : List (Str × D)}, RepF K mg G ι vs fs → vs.length = fs.length
  | _, _, .nil => rfl
  | _, _, .cons r rs => by simp [RepF.len rs]
end
@[simp] def putFD (f : Str) (d : D) : List (Str × D) → List (Str × D)
  | [] => [(f, d)]
  | (g, x) :: r => if g = f then (g, d) :: r else (g, x) :: putFD f d r
theorem RepF.put {K : PySem.W.Frag} {mg : MG} {G : Hp} {ι : List Addr} {f : Str} {v : V} {d : D} (r : Rep K mg G ι v d) : ∀ {vs : List (Str × V)} {fs : List (Str × D)}, RepF K mg G ι vs fs → RepF K mg G ι (putF f v vs) (putFD f d fs)
  | _, _, .nil => .cons r .nil
  | _, _, .cons (k := k) (v := x) (d := y) (vs := vs) (ds := fs) q qs => by
    show RepF K mg G ι (if k = f then (k, v) :: vs else (k, x) :: putF f v vs) (if k = f then (k, d) :: fs else (k, y) :: putFD f d fs)
    by_cases h : k = f
    · rw [if_pos h, if_pos h]; exact .cons r qs
    · rw [if_neg h, if_neg h]; exact .cons q (RepF.put r qs)
@[simp] def fldD (cs : List Str) (f : Str) (g : DEx) (ρ : En) (st : Store) : R := (g ρ st).bind fun d ρ st => match insOf st d with
  | some (c, fs) => if c ∈ cs then (match fs.lookup f with
    | some z => .ok z ρ st
    | none => .bad) else .bad
  | none => .bad
def Hld (K : PySem.W.Frag) (mg : Str → Option Value) (cs : List Str) (f : Str) : Prop := ∀ c ∈ cs, ∀ C, mg c = some (.ref C) → Cls K C ∧ NoAttr K C f
theorem de_fld {X : Cx} {W : WB} {e : Expr} {g : DEx} {cs : List Str} {f : Str} {pos : Pos} (hc : Hld X.K X.mg cs f) (he : DE X W e g) (hb : attributeBase e f X.env (eval e X.env) = eval e X.env := by rfl) : DE X W (.Attribute e f pos) (fldD cs f g) := by
  obtain ⟨t, p, r⟩ := he
  refine ⟨_, pe_fld p hb, fun w Q s q => ?_⟩
  refine r.bindR s q fun w1 v d s1 e1 a1 rp q1 => ?_
  cases hz : insOf w1.st d with
  | none => simp only [hz] at q1; exact q1.elim
  | some cf =>
    obtain ⟨c, fs⟩ := cf
    simp only [hz] at q1
    obtain ⟨a, C, dx, vs, rfl, hm, ha, rf⟩ := insOf_inv s1 rp hz
    by_cases hin : c ∈ cs
    · rw [if_pos hin] at q1
      cases hl : fs.lookup f with
      | none => simp only [hl] at q1; exact q1.elim
      | some z =>
        simp only [hl] at q1
        obtain ⟨u, hu, ru⟩ := rf.lookup.1 z hl
        exact ⟨a, C, dx, vs, u, rfl, ha, (hc c hin C hm).1, (hc c hin C hm).2, hu, q1 w1 u rfl rfl rfl (Aft.refl s1) ru⟩
    · rw [if_neg hin] at q1; exact q1.elim
@[simp] def setFldD (cs : List Str) (f : Str) (i : Nat) (g : DEx) (ρ0 : En) (st0 : Store) : Fl := thenF g (fun d ρ st => match ρ[i]? with
  | some (.val (.ref l)) => (match st[l]? with
    | some (.ins c fs) => if c ∈ cs ∧ fs.length < 1000 then .nx ρ (st.set l (.ins c (putFD f d fs))) else .bad
    | _ => .bad)
  | _ => .bad) ρ0 st0
theorem ds_fld {X : Cx} {W : WB} {e : Expr} {g : DEx} {cs : List Str} {f x : Str} {i : Nat} {np pos pos' : Pos} (hc : Hld X.K X.mg cs f) (he : DE X W e g)
    (hN : X.N[i]? = some x := by rfl) (hv : Vis X.env.scope x := by first | exact Or.inl rfl | exact Or.inr (Or.inl rfl) | exact Or.inr (Or.inr rfl)) (hd : (x == ("__debug__" : Str)) = false := by decide) (hcd : (x == ("__classdict__" : Str)) = false := by decide)
    (hs : swapsWith e (some (.Attribute (.Name x np) f pos')) pos.line X.env = pure false := by rfl) : DS X W (.Assign [.Attribute (.Name x np) f pos'] e pos) (setFldD cs f i g) := by
  obtain ⟨t, p, r⟩ := he
  refine ⟨_, ps_fld (pv i hN hv hd hcd) p hs, fun w E s q => ?_⟩
  refine r.bindF s q fun w1 v d s1 e1 a1 rp q1 => ?_
  show tVar i w.σ w1.H _
  rw [← e1]
  split at q1
  · rename_i l hρ
    split at q1
    · rename_i c fs hst
      split at q1
      · rename_i hh
        obtain ⟨u, hu, ru⟩ := s1.slo i _ hρ
        cases ru with
        | ref hi =>
          rename_i a
          obtain ⟨g0, C, dx, vs, e0, h1, h2, h3, rf⟩ := s1.cel l _ a hst hi
          refine ⟨.ref a, hu, a, C, dx, vs, rfl, h1, (hc c hh.1 C e0).1, (hc c hh.1 C e0).2, by rw [rf.len]; exact hh.2, ?_⟩
          have nad : dx ≠ a := fun q => by rw [q, g0] at h3; cases h3
          have A := Aft.mutCell s1 (o := .ins C dx (putF f v vs)) (c := .ins c (putFD f d fs)) hst (by simp) hi (by simp)
            ⟨g0, C, dx, putF f v vs, e0, upd_same, by show upd w1.H a _ dx = _; rw [upd_ne nad]; exact h2, h3, rf.put rp⟩
          exact q1 { w1 with H := upd w1.H a (.ins C dx (putF f v vs)), st := w1.st.set l (.ins c (putFD f d fs)) } rfl rfl A
      · exact q1.elim
    · exact q1.elim
  · exact q1.elim
def MCal (P : Program) (w : World) (K : PySem.W.Frag) (mg : Str → Option Value) (base : Heap) (k : Nat) (c m : Str) (n : Nat) (den : Den) (dds : List D) : Prop :=
  ∃ C f fd ps ds dvs, mg c = some (.ref C) ∧ Cls K C ∧ Meth K C m f ∧ FnOk P w K mg base (L2N.CX P w) k f fd ps (spD K mg n den) ∧ Binds K fd ps ds ∧ Vals dvs ds ∧ ∀ b G ι, Reps K ⟨mg, b⟩ G ι dvs dds
@[simp] def methD (c m : Str) (den : Den) (dds : List D) (g fa : DEx) (ρ : En) (st : Store) : R := (g ρ st).bind fun d ρ st => match insOf st d with
  | some (c', fs) => if c' = c ∧ fs.lookup m = none then (fa ρ st).bind fun a ρ st => (match a with
    | .tup ds => (match den (d :: (ds ++ dds)) st with
      | .ok r _ st' => .ok r ρ st'
      | .exc c _ st' => .exc c ρ st'
      | .bad => .bad)
    | _ => .bad) else .bad
  | none => .bad
theorem passes_const {X : Cx} {E : XK} {b : Low} (tk : L2N.Takes X (WEb b E)) : Passes (L2N.CX X.prog X.w) X E := fun pins σ H s e s' I c => L2N.passAt tk σ pins H s e s' I c
theorem ref_meth {K : PySem.W.Frag} {mg : Str → Option Value} {E : XK} {b : Low} {ta : TE} {t : TA} {C : Addr} {c m : Str} {n : Nat} {den : Den} {dvs : List V} {dds : List D} {g fa : DEx} (hm : mg c = some (.ref C)) (hd : ∀ G ι, Reps K ⟨mg, b⟩ G ι dvs dds) (ra : RefE K ⟨mg, b⟩ (WEb b E) ta g) (rt : RefA K ⟨mg, b⟩ (WEb b E) t fa)
    (hl : ∀ ρ st d ρ' st', fa ρ st = .ok d ρ' st' → ∃ ds, d = .tup ds ∧ ds.length + dds.length + 1 = n) : RefE K ⟨mg, b⟩ (WEb b E) (tMeth C m (spD K mg n den) dvs E ta t) (methD c m den dds g fa) := fun w Q s q => by
  refine ra.bindR s q fun w1 v d s1 e1 a1 rp q1 => ?_
  cases hz : insOf w1.st d with
  | none => simp only [hz] at q1; exact q1.elim
  | some cf =>
    obtain ⟨c', fs⟩ := cf
    simp only [hz] at q1
    by_cases hh : c' = c ∧ fs.lookup m = none
    · rw [if_pos hh] at q1
      obtain ⟨rfl, hlk⟩ := hh
      obtain ⟨a, C', dx, vs, rfl, hm', ha, rf⟩ := insOf_inv s1 rp hz
      have hm' := hm.symm.trans hm'
      cases hm'
      refine ⟨a, dx, vs, rfl, ha, rf.lookup.2 hlk, ?_⟩
      rw [← e1]
      refine rt.bind (P := OkR K ⟨mg, b⟩ (WEb b E) w1 Q) s1 q1 (fun d ρ st n => by cases d <;> first | rfl | exact absurd rfl (n _)) (fun _ _ _ z => z) (fun z => z) fun w2 us ds e2 a2 r2 ee q2 => ?_
      have l : us.length + dvs.length + 1 = n := by
        obtain ⟨ds', e', l⟩ := hl _ _ _ _ _ ee
        cases e'
        rw [r2.len, (hd w.G w.ι).len]; exact l
      refine sp_at (W := WEb b E) (σ := w2.σ) a2.s (by simp; omega) (.cons (rp.mono a2.g a2.i) (r2.append (hd _ _))) rfl ?_
      exact OkR.aft q2 a2 e2
    · rw [if_neg hh] at q1; exact q1.elim
theorem MCal.call {X : Cx} {E : XK} {b : Low} {k k' n : Nat} {den : Den} {c m : Str} {dds : List D} {o e : Expr} {es : List Expr} {g fa : DEx} {apos pos : Pos} {pl : Sem Bool} (M : MCal X.prog X.w X.K X.mg X.base k c m n den dds) (hr : Room k' X.A) (hk : k ≤ k') (tk : L2N.Takes X (WEb b E)) (ho : DE X (WEb b E) o g) (ha : DAn X (WEb b E) (e :: es) fa)
    (hn : (e :: es).length + dds.length + 1 = n := by rfl) (hst : starEach (e :: es) X.env = (false, eval e X.env) :: starEach es X.env := by rfl) (hpl : (backTo pos (starEach es X.env)).any (·.1) = false := by rfl)
    (ht : eval (.Call (.Attribute o m apos) (e :: es) [] pos) X.env = (do let ov ← eval o X.env; standAt apos.atName; let (f, first) ← holding [ov] (getMethod ov m pl); callWith pos f first (backTo pos (starEach (e :: es) X.env)) (backToKw pos (keywordEach [] X.env))) := by rfl) :
    DE X (WEb b E) (.Call (.Attribute o m apos) (e :: es) [] pos) (methD c m den dds g fa) := by
  obtain ⟨C, f, fd, ps, ds, dvs, hm, hC, hM, F, hB, hV, hD⟩ := M
  obtain ⟨to, po, ro⟩ := ho
  obtain ⟨⟨ta, pa, ra⟩, hl⟩ := ha
  refine ⟨_, pe_meth (pl := pl) po hC hM F (hr.mono hk) hB hV (passes_const tk) pa hst hpl ht, ref_meth hm (hD _) ro ra fun ρ st d ρ' st' h => ?_⟩
  obtain ⟨ds, e1, e2⟩ := hl _ _ _ _ _ h
  exact ⟨ds, e1, by rw [e2]; exact hn⟩
theorem MCal.call0 {X : Cx} {E : XK} {b : Low} {k k' n : Nat} {den : Den} {c m : Str} {dds : List D} {o : Expr} {g : DEx} {apos pos : Pos} {pl : Sem Bool} (M : MCal X.prog X.w X.K X.mg X.base k c m n den dds) (hr : Room k' X.A) (hk : k ≤ k') (tk : L2N.Takes X (WEb b E)) (ho : DE X (WEb b E) o g)
    (hn : dds.length + 1 = n := by rfl)
    (ht : eval (.Call (.Attribute o m apos) [] [] pos) X.env = (do let ov ← eval o X.env; standAt apos.atName; let (f, first) ← holding [ov] (getMethod ov m pl); callWith pos f first (backTo pos (starEach [] X.env)) (backToKw pos (keywordEach [] X.env))) := by rfl) :
    DE X (WEb b E) (.Call (.Attribute o m apos) [] [] pos) (methD c m den dds g aNil) := by
  obtain ⟨C, f, fd, ps, ds, dvs, hm, hC, hM, F, hB, hV, hD⟩ := M
  obtain ⟨to, po, ro⟩ := ho
  refine ⟨_, pe_meth0 (pl := pl) po hC hM F (hr.mono hk) hB hV (passes_const tk) ht, ref_meth (t := tNil) hm (hD _) ro (fun w Q s q => q w [] rfl rfl rfl (Aft.refl s) .nil) fun ρ st d ρ' st' h => ?_⟩
  cases h
  exact ⟨[], rfl, by rw [← hn]; simp⟩
def KCal (P : Program) (w : World) (K : PySem.W.Frag) (mg : Str → Option Value) (base : Heap) (k : Nat) (c : Str) (n : Nat) (den : Den) (dds : List D) : Prop :=
  ∃ C f fd ps ds dvs, mg c = some (.ref C) ∧ Mk K C f ∧ FnOk P w K mg base (L2N.CX P w) k f fd ps (spD K mg n den) ∧ Binds K fd ps ds ∧ Vals dvs ds ∧ ∀ b G ι, Reps K ⟨mg, b⟩ G ι dvs dds
@[simp] def makeD (c : Str) (den : Den) (dds : List D) (fa : DEx) (ρ : En) (st : Store) : R := (fa ρ st).bind fun a ρ st => match a with
  | .tup ds => (match den (.ref st.length :: (ds ++ dds)) (st ++ [.ins c []]) with
    | .ok .non _ st' => .ok (.ref st.length) ρ st'
    | .exc x _ st' => .exc x ρ st'
    | _ => .bad)
  | _ => .bad
theorem ref_make {K : PySem.W.Frag} {mg : Str → Option Value} {E : XK} {b : Low} {t : TA} {C : Addr} {c : Str} {n : Nat} {den : Den} {dvs : List V} {dds : List D} {fa : DEx} (hm : mg c = some (.ref C)) (hd : ∀ G ι, Reps K ⟨mg, b⟩ G ι dvs dds) (rt : RefA K ⟨mg, b⟩ (WEb b E) t fa)
    (hl : ∀ ρ st d ρ' st', fa ρ st = .ok d ρ' st' → ∃ ds, d = .tup ds ∧ ds.length + dds.length + 1 = n) : RefE K ⟨mg, b⟩ (WEb b E) (tMake C (spD K mg n den) dvs E t) (makeD c den dds fa) := fun w Q s q => by
  refine rt.bind (P := OkR K ⟨mg, b⟩ (WEb b E) w Q) s q (fun d ρ st n => by cases d <;> first | rfl | exact absurd rfl (n _)) (fun _ _ _ z => z) (fun z => z) fun w2 us ds e2 a2 r2 ee q2 => ?_
  intro x dx hx hdx hne
  have l : us.length + dvs.length + 1 = n := by
    obtain ⟨ds', e', l⟩ := hl _ _ _ _ _ ee
    cases e'
    rw [r2.len, (hd w.G w.ι).len]; exact l
  have A1 := Aft.alloc (o := .own x) a2.s hdx
  let w3 : Ws := { w2 with G := upd w2.G dx (.own x), H := upd w2.H dx (.own x) }
  have hx3 : w3.H x = none := by show upd w2.H dx (.own x) x = none; rw [upd_ne (Ne.symm hne)]; exact hx
  have A2 : Aft K ⟨mg, b⟩ w3 { w3 with H := upd w3.H x (.ins C dx []) } := Aft.loose (o := .ins C dx []) A1.s hx3
  have lo : Loose { w3 with H := upd w3.H x (.ins C dx []) } x := Sts.looseAt (o := .ins C dx []) A1.s hx3
  have ce : CellAt K ⟨mg, b⟩ { w3 with H := upd w3.H x (.ins C dx []) } x (.ins c []) := by
    refine ⟨lo.1, C, dx, [], hm, upd_same, ?_, ?_, .nil⟩
    · show upd w3.H x _ dx = _
      rw [upd_ne hne]; exact upd_same
    · exact upd_same
  have A3 := Aft.newCellG A2 hx3 lo (by simp) ce
  have A13 := A1.trans A3
  let w4 : Ws := { w3 with H := upd w3.H x (.ins C dx []), ι := w3.ι ++ [x], st := w3.st ++ [.ins c []] }
  have A13' : Aft K ⟨mg, b⟩ w2 w4 := A13
  have rx : Rep K ⟨mg, b⟩ w4.G w4.ι (.ref x) (.ref w2.st.length) := .ref (by show (w2.ι ++ [x])[w2.st.length]? = some x; rw [a2.s.len]; simp)
  refine sp_at (W := WEb b E) (σ := w4.σ) (w := w4) A13'.s (by simp; omega) (.cons rx ((r2.mono A13'.g A13'.i).append (hd _ _))) rfl ?_
  show OkR K ⟨mg, b⟩ (WEb b E) w4 _ (match den (.ref w2.st.length :: (ds ++ dds)) (w2.st ++ [.ins c []]) with | .ok r _ st' => R.ok r w4.ρ st' | .exc c _ st' => .exc c w4.ρ st' | .bad => .bad)
  have q3 : OkR K ⟨mg, b⟩ (WEb b E) w Q (match den (.ref w2.st.length :: (ds ++ dds)) (w2.st ++ [.ins c []]) with | .ok .non _ st' => .ok (.ref w2.st.length) w2.ρ st' | .exc x _ st' => .exc x w2.ρ st' | _ => .bad) := q2
  cases e : den (.ref w2.st.length :: (ds ++ dds)) (w2.st ++ [.ins c []]) with
  | ok r ρ' st' =>
    rw [e] at q3
    cases r with
    | non =>
      intro w' v h1 h2 h3 A r
      cases r
      exact ⟨rfl, q3 w' (.ref x) h1 h2 (h3.trans e2) (a2.trans (A13'.trans A)) (rx.mono A.g A.i)⟩
    | _ => exact q3.elim
  | exc x' ρ' st' =>
    rw [e] at q3
    intro w' cls dx' h1 h2 h3 A r
    exact q3 w' cls dx' h1 h2 (h3.trans e2) (a2.trans (A13'.trans A)) r
  | bad => rw [e] at q3; exact q3.elim
theorem KCal.call {X : Cx} {E : XK} {b : Low} {k k' n : Nat} {den : Den} {c : Str} {dds : List D} {e : Expr} {es : List Expr} {fa : DEx} {p pos : Pos} (M : KCal X.prog X.w X.K X.mg X.base k c n den dds) (hr : Room k' X.A) (hk : k + 1 ≤ k') (hg : Gl X c) (tk : L2N.Takes X (WEb b E)) (ha : DAn X (WEb b E) (e :: es) fa)
    (hn : (e :: es).length + dds.length + 1 = n := by rfl) (hdb : (c == ("__debug__" : Str)) = false := by decide) (hst : starEach (e :: es) X.env = (false, eval e X.env) :: starEach es X.env := by rfl) (hpl : (backTo pos (starEach es X.env)).any (·.1) = false := by rfl) :
    DE X (WEb b E) (.Call (.Name c p) (e :: es) [] pos) (makeD c den dds fa) := by
  obtain ⟨C, f, fd, ps, ds, dvs, hm, hM, F, hB, hV, hD⟩ := M
  obtain ⟨⟨ta, pa, ra⟩, hl⟩ := ha
  refine ⟨_, pe_make hM F (hr.mono hk) hg hm hB hV (passes_const tk) pa hdb hst hpl, ref_make hm (hD _) ra fun ρ st d ρ' st' h => ?_⟩
  obtain ⟨ds, e1, e2⟩ := hl _ _ _ _ _ h
  exact ⟨ds, e1, by rw [e2]; exact hn⟩
theorem KCal.call0 {X : Cx} {E : XK} {b : Low} {k k' n : Nat} {den : Den} {c : Str} {dds : List D} {p pos : Pos} (M : KCal X.prog X.w X.K X.mg X.base k c n den dds) (hr : Room k' X.A) (hk : k + 1 ≤ k') (hg : Gl X c) (tk : L2N.Takes X (WEb b E))
    (hn : dds.length + 1 = n := by rfl) (hdb : (c == ("__debug__" : Str)) = false := by decide) : DE X (WEb b E) (.Call (.Name c p) [] [] pos) (makeD c den dds aNil) := by
  obtain ⟨C, f, fd, ps, ds, dvs, hm, hM, F, hB, hV, hD⟩ := M
  refine ⟨_, pe_make0 hM F (hr.mono hk) hg hm hB hV (passes_const tk) hdb, ref_make (t := tNil) hm (hD _) (fun w Q s q => q w [] rfl rfl rfl (Aft.refl s) .nil) fun ρ st d ρ' st' h => ?_⟩
  cases h
  exact ⟨[], rfl, by rw [← hn]; simp⟩
end DL
namespace DL
open PySem L2
@[simp] def mutED (k : MutK) (g f : DEx) (ρ : En) (st : Store) : R := (g ρ st).bind fun d ρ st => match d with
  | .ref l => (match st[l]? with
    | some (.lst _) => (f ρ st).bind fun a ρ st => (match a with
      | .tup args => (match st[l]? with
        | some (.lst ds) => (match k ds args with
          | some (ds', z) => .ok z ρ (st.set l (.lst ds'))
          | none => .bad)
        | _ => .bad)
      | _ => .bad)
    | _ => .bad)
  | _ => .bad
section
variable {K : PySem.W.Frag} {mg : MG} {W : WB}
theorem refE_mutE {tg : TE} {t : TA} {g f : DEx} {k : MutK} {r : V → List V → Hp → VK → Prop} (hg : RefE K mg W tg g) (ha : RefA K mg W t f) (hr : AnsM K mg r k) : RefE K mg W (tBM K "list" r tg t) (mutED k g f) := fun w Q s q => by
  refine hg.bindR s q fun w0 v d s0 e0 a0 r0 q0 => ?_
  split at q0
  · rename_i l
    split at q0
    · rename_i ds0 hst
      cases r0 with
      | ref hi =>
        rename_i a
        obtain ⟨_, vs, e1, e2, e3⟩ := s0.cel l _ a hst hi
        refine .inl ⟨rfl, vs, .inl (.inl e1)⟩ |> fun z => ⟨z, ?_⟩
        rw [← e0]
        refine ha.bind (P := OkR K mg W w0 Q) s0 q0 (fun d ρ st n => by cases d <;> first | rfl | exact absurd rfl (n _)) (fun _ _ _ z => z) (fun z => z) fun w1 xs args e3 a1 r1 _ q1 => ?_
        cases hl : w1.st[l]? with
        | none => simp only [hl] at q1; exact q1.elim
        | some c1 =>
          cases c1 with
          | lst ds =>
            simp only [hl] at q1
            cases hk : k ds args with
            | none => simp only [hk] at q1; exact q1.elim
            | some p =>
              obtain ⟨ds', z⟩ := p
              simp only [hk] at q1
              have hi1 := a1.i _ _ hi
              obtain ⟨ga, vs1, f1, f2, f3⟩ := a1.s.cel l _ a hl hi1
              refine hr w1.G w1.H w1.ι a vs1 xs ds args ds' z Q f1 f2 f3 r1 hk fun vs' v hz rr rv => ?_
              have A := Aft.mutCell a1.s (o := .lst vs') (c := .lst ds') hl (by simp) hi1 (by simp) ⟨ga, vs', upd_same, hz, rr⟩
              exact q1 { w1 with H := upd w1.H a (.lst vs'), st := w1.st.set l (.lst ds') } v rfl rfl e3 (a1.trans A) rv
          | _ => simp only [hl] at q1; exact q1.elim
    · exact q0.elim
  · exact q0.elim
end
section
variable {X : Cx} {W : WB} {name : Str} {id : String} {r : V → List V → Hp → VK → Prop} {k : MutK} {e o : Expr} {es : List Expr} {f g : DEx} {apos cpos : Pos}
theorem de_mutE (slot : Slot "list" name id) (hty : typeOf (.builtin id) = pure (.type "method_descriptor")) (hm : MtR X id r) (hr : AnsM X.K (MGx X W.b) r k) (ho : DE X W o g) (ha : DAn X W (e :: es) f)
    (hbase : attributeBase o name X.env (eval o X.env) = eval o X.env := by rfl)
    (hfew : ((backTo cpos (starEach (e :: es) X.env)).all (fun x => !x.1) && (backToKw cpos (keywordEach [] X.env)).all (fun x => x.1.isSome) && decide ((e :: es).length + ([] : List Keyword).length + (if ([] : List Keyword).isEmpty then 0 else 1) < 30)) = true := by rfl)
    (hline : (apos.endLine == cpos.line) = true := by rfl) (hs : starEach (e :: es) X.env = (false, eval e X.env) :: starEach es X.env := by rfl) (hplain : (backTo cpos (starEach es X.env)).any (·.1) = false := by rfl) :
    DE X W (.Call (.Attribute o name apos) (e :: es) [] cpos) (mutED k g f) := by
  obtain ⟨⟨t, pt, rt⟩, _⟩ := ha
  obtain ⟨to, po, ro⟩ := ho
  exact ⟨_, pe_bm PySem.F.plainAttrs_list slot hty hm po pt hbase hfew hline hs hplain, refE_mutE ro rt hr⟩
end
end DL
namespace DL
open PySem L2
@[simp] def smD (p : Str → List D → Option D) (g f : DEx) (ρ : En) (st : Store) : R := (g ρ st).bind fun d ρ st => match d with
  | .str z => (f ρ st).bind fun a ρ st => (match a with
    | .tup args => (match p z args with
      | some d => .ok d ρ st
      | none => .bad)
    | _ => .bad)
  | _ => .bad
def AnsS (K : PySem.W.Frag) (mg : MG) (r : V → List V → Hp → VK → Prop) (p : Str → List D → Option D) : Prop :=
  ∀ (w : Ws) (z : Str) (xs : List V) (args : List D) (d : D) (Q : VK), Sts K mg w → Reps K mg w.G w.ι xs args → p z args = some d → (∀ (w' : Ws) v, w'.ρ = w.ρ → w'.st = w.st → w'.σ = w.σ → Aft K mg w w' → Rep K mg w'.G w'.ι v d → Q v w'.H) → r (.str z) xs w.H Q
section
variable {K : PySem.W.Frag} {mg : MG} {W : WB}
theorem refE_sm {tg : TE} {t : TA} {g f : DEx} {p : Str → List D → Option D} {r : V → List V → Hp → VK → Prop} (hg : RefE K mg W tg g) (ha : RefA K mg W t f) (hr : AnsS K mg r p) : RefE K mg W (tBM K "str" r tg t) (smD p g f) := fun w Q s q => by
  refine hg.bindR s q fun w0 v d s0 e0 a0 r0 q0 => ?_
  cases d with
  | str z =>
    cases r0
    refine ⟨rfl, ?_⟩
    rw [← e0]
    refine ha.bind (P := OkR K mg W w0 Q) s0 q0 (fun d ρ st n => by cases d <;> first | rfl | exact absurd rfl (n _)) (fun _ _ _ z => z) (fun z => z) fun w1 xs args e3 a1 r1 _ q1 => ?_
    cases hk : p z args with
    | none => simp only [hk] at q1; exact q1.elim
    | some y =>
      simp only [hk] at q1
      exact hr w1 z xs args y Q a1.s r1 hk fun w' v h1 h2 h3 A rv => q1 w' v h1 h2 (h3.trans e3) (a1.trans A) rv
  | _ => exact q0.elim
end
section
variable {X : Cx} {W : WB} {name : Str} {id : String} {r : V → List V → Hp → VK → Prop} {p : Str → List D → Option D} {e o : Expr} {es : List Expr} {f g : DEx} {apos cpos : Pos}
theorem de_sm (slot : Slot "str" name id) (hty : typeOf (.builtin id) = pure (.type "method_descriptor")) (hm : MtR X id r) (hr : AnsS X.K (MGx X W.b) r p) (ho : DE X W o g) (ha : DAn X W (e :: es) f)
    (hbase : attributeBase o name X.env (eval o X.env) = eval o X.env := by rfl)
    (hfew : ((backTo cpos (starEach (e :: es) X.env)).all (fun x => !x.1) && (backToKw cpos (keywordEach [] X.env)).all (fun x => x.1.isSome) && decide ((e :: es).length + ([] : List Keyword).length + (if ([] : List Keyword).isEmpty then 0 else 1) < 30)) = true := by rfl)
    (hline : (apos.endLine == cpos.line) = true := by rfl) (hs : starEach (e :: es) X.env = (false, eval e X.env) :: starEach es X.env := by rfl) (hplain : (backTo cpos (starEach es X.env)).any (·.1) = false := by rfl) :
    DE X W (.Call (.Attribute o name apos) (e :: es) [] cpos) (smD p g f) := by
  obtain ⟨⟨t, pt, rt⟩, _⟩ := ha
  obtain ⟨to, po, ro⟩ := ho
  exact ⟨_, pe_bm PySem.F.plainAttrs_str slot hty hm po pt hbase hfew hline hs hplain, refE_sm ro rt hr⟩
end
@[simp] def sIndex (z : Str) : List D → Option D
  | [.str b] => (match Builtin.Str.occurrences z b 0 z.length 1 with
    | i :: _ => some (.int (i : Nat))
    | [] => none)
  | _ => none
theorem ansS_index {K : PySem.W.Frag} {mg : MG} : AnsS K mg (fun x xs H Q => ∃ a b i rest, x = .str a ∧ xs = [.str b] ∧ Builtin.Str.occurrences a b 0 a.length 1 = i :: rest ∧ Q (.int (i : Nat)) H) sIndex := fun w z xs args d Q s r h q => by
  unfold sIndex at h
  split at h
  · rename_i b
    split at h
    · rename_i i rest e
      cases h
      cases r with
      | cons r1 r2 =>
        cases r1
        cases r2
        exact ⟨z, b, i, rest, rfl, rfl, e, q w _ rfl rfl rfl (Aft.refl s) (.int _)⟩
    · cases h
  · cases h
end DL
namespace DL
open PySem L2
def lc2Go (g : DGx) (c fi1 : DEx) (g1 : DGx) (c1 f : DEx) (vs vs1 : List Nat) : List D → List D → En → Store → R
  | [], acc => fun ρ st => .ok (.lst acc) ρ st
  | d :: ds, acc => fun ρ st => match g d ρ with
    | none => .bad
    | some ρ => match c ρ st with
      | .ok (.bl true) ρ st => (match fi1 ρ st with
        | .ok (.lst es) ρ st => if acc.length + es.length ≤ sizeLine then (match lcGo g1 c1 f vs1 es acc (wipeR ρ vs1) st with
          | .ok (.lst acc') ρ st => lc2Go g c fi1 g1 c1 f vs vs1 ds acc' (wipeR ρ vs) st
          | _ => .bad) else .bad
        | _ => .bad)
      | .ok (.bl false) ρ st => lc2Go g c fi1 g1 c1 f vs vs1 ds acc (wipeR ρ vs) st
      | _ => .bad
@[simp] def lc2D (fi : DEx) (g : DGx) (c fi1 : DEx) (g1 : DGx) (c1 f : DEx) (vs vs1 : List Nat) (ρ : En) (st : Store) : R := (fi ρ st).bind fun d ρ st => match d with
  | .lst ds => lc2Go g c fi1 g1 c1 f vs vs1 ds [] (wipeR ρ vs) st
  | _ => .bad
section
variable {K : PySem.W.Frag} {mg : MG} {W : WB}
theorem lc2Go_isL {g : DGx} {c fi1 : DEx} {g1 : DGx} {c1 f : DEx} {vs vs1 : List Nat} : ∀ (ds acc : List D) (ρ : En) (st : Store) (d : D) (ρ' : En) (st' : Store), lc2Go g c fi1 g1 c1 f vs vs1 ds acc ρ st = .ok d ρ' st' → ∃ es, d = .lst es
  | [], acc, ρ, st, d, ρ', st', h => by cases h; exact ⟨acc, rfl⟩
  | x :: ds, acc, ρ, st, d, ρ', st', h => by
    unfold lc2Go at h
    split at h
    · cases h
    · split at h
      · split at h
        · split at h
          · split at h
            · exact lc2Go_isL ds _ _ _ _ _ _ h
            · cases h
          · cases h
        · cases h
      · exact lc2Go_isL ds _ _ _ _ _ _ h
      · cases h
theorem lc2D_isL {fi : DEx} {g : DGx} {c fi1 : DEx} {g1 : DGx} {c1 f : DEx} {vs vs1 : List Nat} : IsL (lc2D fi g c fi1 g1 c1 f vs vs1) := fun ρ st d ρ' st' h => by
  unfold lc2D at h
  cases e : fi ρ st with
  | ok d1 ρ1 st1 =>
    rw [e] at h
    simp only [R.bind] at h
    split at h
    · exact lc2Go_isL _ _ _ _ _ _ _ h
    · cases h
  | exc x ρ1 st1 => rw [e] at h; cases h
  | bad => rw [e] at h; cases h
def iOf (K : PySem.W.Frag) (mg : MG) (W : WB) (f : DEx) : TI := fun σ H Q => ∃ w, w.σ = σ ∧ w.H = H ∧ Sts K mg w ∧ OkI K mg W w Q (f w.ρ w.st)
theorem DI.pi {X : Cx} {W : WB} {tg e : Expr} {f : DEx} (h : DI X W tg e f) : PI X tg e (iOf X.K (MGx X W.b) W f) := by
  obtain ⟨t, p, r⟩ := h
  refine ⟨fun pins s σ H Q I q => ?_⟩
  obtain ⟨w, rfl, rfl, sw, ok⟩ := q
  exact p.run pins s _ _ Q I (r w Q sw ok)
theorem wipe_idem {σ : L2.St} {us us' : List Nat} (hh : ∀ i ∈ us', i ∈ us) : wipe (wipe σ us') us = wipe σ us := by
  induction us' with
  | nil => rfl
  | cons v us' ih =>
    show wipe ((wipe σ us').set v none) us = _
    rw [wipe_set (hh v (by simp)), ih fun i hi => hh i (by simp [hi])]
theorem refO_lc2 {wi : TI} {is is1 vs vs1 : List Nat} {fi : DEx} {g : DGx} {c fi1 : DEx} {g1 : DGx} {c1 f : DEx} (hi : RefI K mg W wi fi) (hsub : ∀ i ∈ is, i ∈ vs) (hsub1 : ∀ i ∈ is1, i ∈ vs1) (hv : ∀ i ∈ vs1, i ∈ vs) :
    RefO K mg W (tLc2 wi (gOf K mg is g) (ttOf K mg (WF mg.b) c) (iOf K mg (WF mg.b) fi1) (gOf K mg is1 g1) (ttOf K mg (WF mg.b) c1) (tOf K mg (WF mg.b) f) vs vs1) (lc2D fi g c fi1 g1 c1 f vs vs1) := fun w Q s q => by
  refine hi.bindO s (fun d ρ st n => by cases d <;> first | rfl | (simp at n)) q fun w1 J d0 ds gd e1 a1 ei it og q1 => ?_
  cases d0 with
  | lst ds' => ?_
  | _ => exact q1.elim
  simp only [D.iter, Option.some.injEq, Prod.mk.injEq] at ei
  obtain ⟨ee, rfl⟩ := ei
  subst ee
  rename List DL.D => ds
  obtain ⟨Gd, Y, wk, hG', hY'⟩ := it
  have hG := fun w2 F => hG' w2 F trivial
  have hY := fun i w2 x H' d hd F y => hY' i w2 x H' d hd F trivial y
  intro D hD
  have fr : w.H D = none := a1.al D hD
  have A0 := Aft.loose (o := .lst []) a1.s hD
  have L0 := a1.s.looseAt (o := .lst []) hD
  let Pv : Nat → Hp → Prop := fun i H => ∃ (w2 : Ws) (ρ2 : En) (av : List V) (ad : List DL.D), Aft K mg w1 w2 ∧ w2.σ = wipe w.σ vs ∧ w2.ρ = wipeR ρ2 vs ∧ w2.H = H ∧ Loose w2 D ∧ w2.H D = some (.lst av) ∧ Reps K mg w2.G w2.ι av ad ∧ av.length ≤ sizeLine ∧
    OkO K mg W w Q (lc2Go g c fi1 g1 c1 f vs vs1 (ds.drop i) ad w2.ρ w2.st)
  refine ⟨fun i m H => m = ds.length - i ∧ i ≤ ds.length ∧ Pv i H, ⟨ds.length, by simp, Nat.zero_le _, ?_⟩, ?_⟩
  · have A1 := Aft.wiped A0.s vs
    exact ⟨{ w1 with H := upd w1.H D (.lst []), ρ := wipeR w1.ρ vs, σ := wipe w1.σ vs }, w1.ρ, [], [], A0.trans A1, by rw [← e1], rfl, rfl, (A1.still L0 upd_same).1, upd_same, .nil, Nat.zero_le _, q1⟩
  rintro i m H ⟨rfl, hil, w2, ρ2, av, ad, A, hσ, hρ, rfl, hL, hav, hr, hle, q2⟩
  have hGd := hG w2 A.fz
  by_cases hl : i < ds.length
  · refine .inr ⟨wk.goes i _ hl hGd, Pv (i + 1), fun H' p' => ⟨ds.length - (i + 1), by omega, rfl, hl, p'⟩, fun x H' y0 => ?_⟩
    have y := wk.yields i _ x H' hl hGd y0
    have hd : ds[i]? = some ds[i] := List.getElem?_eq_getElem hl
    obtain ⟨G', A3, r3⟩ := hY i w2 x H' _ hd A.fz y
    have ed : ds.drop i = ds[i] :: ds.drop (i + 1) := List.drop_eq_getElem_cons hl
    rw [ed] at q2
    unfold lc2Go at q2
    cases z : g ds[i] w2.ρ with
    | none => simp only [z] at q2; exact q2.elim
    | some ρ' =>
      simp only [z] at q2
      have e2 : ({ w2 with G := G', H := H' } : Ws).σ = wipe w.σ vs := hσ
      refine ⟨{ w2 with G := G', H := H' }, ds[i], ρ', hσ, rfl, A3.s, r3, z, fun σ' hw A4 => ?_⟩
      have hwσ : wipe σ' vs = wipe w.σ vs := by rw [hw vs hsub, e2]; exact wipe_idem fun _ h => h
      refine ⟨hwσ, ?_⟩
      have A5 := A3.trans A4
      have A15 := A.trans A5
      refine ⟨{ w2 with ρ := ρ', σ := σ', G := G', H := H' }, rfl, rfl, A5.s, ?_⟩
      obtain ⟨L5, h5⟩ := A5.still hL hav
      show OkT K mg (WF mg.b) _ _ (c ρ' w2.st)
      cases ec : c ρ' w2.st with
      | ok d ρ6 st6 =>
        rw [ec] at q2
        cases d with
        | bl b =>
          intro w6 h1 h2 h3 A6
          subst h1; subst h2
          obtain ⟨L6, h6⟩ := A6.still L5 h5
          have h3' : w6.σ = σ' := h3
          cases b with
          | false =>
            refine iteF ?_
            have A7 := Aft.wiped A6.s vs
            exact ⟨{ w6 with ρ := wipeR w6.ρ vs, σ := wipe w6.σ vs }, w6.ρ, av, ad, (A15.trans A6).trans A7, by rw [h3']; exact hwσ, rfl, rfl, (A7.still L6 h6).1, h6, hr.mono (A5.g.trans A6.g) (A5.i.trans A6.i), hle, q2⟩
          | true =>
            refine iteT ?_
            refine ⟨w6, h3, rfl, A6.s, ?_⟩
            simp only at q2
            cases ei : fi1 w6.ρ w6.st with
            | exc x ρ8 st8 => rw [ei] at q2; exact q2.elim
            | bad => rw [ei] at q2; exact q2.elim
            | ok d8 ρ8 st8 =>
              rw [ei] at q2
              cases d8 with
              | lst es =>
                intro w8 J1 k1 k2 k3 A8 it1 _
                subst k1; subst k2
                obtain ⟨L8, h8⟩ := A8.still L6 h6
                have hr8 := hr.mono (A5.g.trans (A6.g.trans A8.g)) (A5.i.trans (A6.i.trans A8.i))
                have A18 := A15.trans (A6.trans A8)
                obtain ⟨Gd1, Y1, wk1, hG1', hY1'⟩ := it1
                have hG1 := fun w2 F => hG1' w2 F trivial
                have hY1 := fun i w2 x H' d hd F y => hY1' i w2 x H' d hd F trivial y
                have hz : ad.length + es.length ≤ sizeLine := by
                  by_cases h : ad.length + es.length ≤ sizeLine
                  · exact h
                  · simp only [if_neg h] at q2; exact q2.elim
                simp only [if_pos hz] at q2
                let Pv1 : Nat → Hp → Prop := fun j H => ∃ (w9 : Ws) (ρ9 : En) (bv : List V) (bd : List DL.D), Aft K mg w1 w9 ∧ Frz K mg w8 w9 ∧ w9.σ = wipe σ' vs1 ∧ w9.H = H ∧ Loose w9 D ∧ w9.H D = some (.lst bv) ∧ Reps K mg w9.G w9.ι bv bd ∧ bv.length ≤ ad.length + j ∧
                  OkO K mg W w Q (match lcGo g1 c1 f vs1 (es.drop j) bd w9.ρ w9.st with | .ok (.lst acc') ρ st => lc2Go g c fi1 g1 c1 f vs vs1 (ds.drop (i + 1)) acc' (wipeR ρ vs) st | _ => .bad)
                refine ⟨fun j k H => k = es.length - j ∧ j ≤ es.length ∧ Pv1 j H, ⟨es.length, by simp, Nat.zero_le _, ?_⟩, ?_⟩
                · have A9 := Aft.wiped A8.s vs1
                  exact ⟨{ w8 with ρ := wipeR w8.ρ vs1, σ := wipe w8.σ vs1 }, w8.ρ, av, ad, A18.trans A9, A9.fz, by show wipe w8.σ vs1 = _; rw [k3, h3'], rfl, (A9.still L8 h8).1, h8, hr8, by rw [hr.len]; omega, q2⟩
                rintro j k H ⟨rfl, hjl, w9, ρ9, bv, bd, A9, F9, hσ9, rfl, L9, hbv, hrb, hble, q3⟩
                have hGd1 := hG1 w9 F9
                by_cases hlj : j < es.length
                · refine .inr ⟨wk1.goes j _ hlj hGd1, Pv1 (j + 1), fun H' p' => ⟨es.length - (j + 1), by omega, rfl, hlj, p'⟩, fun x1 H1' y1 => ?_⟩
                  have y2 := wk1.yields j _ x1 H1' hlj hGd1 y1
                  obtain ⟨G9, B3, s3⟩ := hY1 j w9 x1 H1' _ (List.getElem?_eq_getElem hlj) F9 y2
                  have ed1 : es.drop j = es[j] :: es.drop (j + 1) := List.drop_eq_getElem_cons hlj
                  rw [ed1] at q3
                  unfold lcGo at q3
                  cases z1 : g1 es[j] w9.ρ with
                  | none => simp only [z1] at q3; exact q3.elim
                  | some ρ'' =>
                    simp only [z1] at q3
                    have e9 : ({ w9 with G := G9, H := H1' } : Ws).σ = wipe σ' vs1 := hσ9
                    refine ⟨{ w9 with G := G9, H := H1' }, es[j], ρ'', hσ9, rfl, B3.s, s3, z1, fun σ3 hw3 B4 => ?_⟩
                    have hwσ3 : wipe σ3 vs1 = wipe σ' vs1 := by rw [hw3 vs1 hsub1, e9]; exact wipe_idem fun _ h => h
                    refine ⟨hwσ3, ?_⟩
                    have B5 := B3.trans B4
                    have B95 := A9.trans B5
                    refine ⟨{ w9 with ρ := ρ'', σ := σ3, G := G9, H := H1' }, rfl, rfl, B5.s, ?_⟩
                    obtain ⟨M5, m5⟩ := B5.still L9 hbv
                    show OkT K mg (WF mg.b) _ _ (c1 ρ'' w9.st)
                    cases ec1 : c1 ρ'' w9.st with
                    | ok d1 ρ6' st6' =>
                      rw [ec1] at q3
                      cases d1 with
                      | bl b1 =>
                        intro w12 n1 n2 n3 B6
                        subst n1; subst n2
                        obtain ⟨M6, m6⟩ := B6.still M5 m5
                        have n3' : w12.σ = σ3 := n3
                        cases b1 with
                        | false =>
                          refine iteF ?_
                          have B7 := Aft.wiped B6.s vs1
                          exact ⟨{ w12 with ρ := wipeR w12.ρ vs1, σ := wipe w12.σ vs1 }, w12.ρ, bv, bd, (B95.trans B6).trans B7, F9.trans ((B5.trans B6).trans B7).fz, by rw [n3']; exact hwσ3, rfl, (B7.still M6 m6).1, m6, hrb.mono (B5.g.trans B6.g) (B5.i.trans B6.i), by omega, q3⟩
                        | true =>
                          refine iteT ?_
                          refine ⟨w12, n3, rfl, B6.s, ?_⟩
                          simp only at q3
                          cases ef : f w12.ρ w12.st with
                          | ok y' ρ8' st8' =>
                            rw [ef] at q3
                            intro w14 yv k1 k2 k3' B8 r8
                            subst k1; subst k2
                            obtain ⟨M8, m8⟩ := B8.still M6 m6
                            refine ⟨bv, m8, by omega, ?_⟩
                            have B18 := B95.trans (B6.trans B8)
                            have C9 := B18.looseUpd (o := .lst (bv ++ [yv])) hD M8
                            have M9 : Loose { w14 with H := upd w14.H D (.lst (bv ++ [yv])) } D := M8
                            have C10 := Aft.wiped C9.s vs1
                            have F14 : Frz K mg w8 w14 := F9.trans ((B5.trans (B6.trans B8))).fz
                            have F15 : Frz K mg w8 { w14 with H := upd w14.H D (.lst (bv ++ [yv])) } := ⟨C9.s, F14.g, F14.i⟩
                            refine ⟨{ w14 with H := upd w14.H D (.lst (bv ++ [yv])), ρ := wipeR w14.ρ vs1, σ := wipe w14.σ vs1 }, w14.ρ, bv ++ [yv], bd ++ [y'], C9.trans C10, F15.trans C10.fz, ?_, rfl, (C10.still M9 upd_same).1, upd_same, ?_, by simp; omega, q3⟩
                            · show wipe w14.σ vs1 = _
                              rw [k3', n3']; exact hwσ3
                            · exact Reps.append (hrb.mono (B5.g.trans (B6.g.trans B8.g)) (B5.i.trans (B6.i.trans B8.i))) (.cons r8 .nil)
                          | exc x ρ8 st8 => rw [ef] at q3; exact q3.elim
                          | bad => rw [ef] at q3; exact q3.elim
                      | _ => exact q3.elim
                    | exc x ρ6 st6 => rw [ec1] at q3; exact q3.elim
                    | bad => rw [ec1] at q3; exact q3.elim
                · have e : j = es.length := by omega
                  subst e
                  refine .inl ⟨wk1.stops _ hGd1, ?_⟩
                  rw [List.drop_length] at q3
                  have B2 := Aft.wiped A9.s vs
                  exact ⟨{ w9 with ρ := wipeR w9.ρ vs, σ := wipe w9.σ vs }, w9.ρ, bv, bd, A9.trans B2, by show wipe w9.σ vs = _; rw [hσ9, wipe_idem hv]; exact hwσ, rfl, rfl, (B2.still L9 hbv).1, hbv, hrb, by omega, q3⟩
              | _ => exact q2.elim
        | _ => exact q2.elim
      | exc x ρ6 st6 => rw [ec] at q2; exact q2.elim
      | bad => rw [ec] at q2; exact q2.elim
  · have e : i = ds.length := by omega
    subst e
    refine .inl ⟨wk.stops _ hGd, ?_⟩
    rw [List.drop_length] at q2
    have A2 := A.unwipe hσ hρ
    refine q2 { w2 with σ := w.σ } D av rfl rfl rfl (a1.trans A2) fr ?_ hav hle hr
    refine ⟨hL.1, fun m => hL.2 ?_⟩
    rcases m with m | ⟨i, es, h1, h2⟩
    · exact .inl m
    · refine .inr ⟨i, es, h1, ?_⟩
      have h1' : w2.ρ[i]? = some (.ml es) := h1
      rw [hρ] at h1'
      rw [hσ, wipe_get_ne _ (wipeR_get ρ2 h1' (by simp)).1]
      exact h2
end
section
variable {X : Cx} {W : WB} {elt tg iter tg1 iter1 : Expr} {ifs ifs1 : List Expr} {scope : Scope} {own : List (Str × Nat)} {is is1 vs1 : List Nat} {pos : Pos} {fi : DEx} {g : DGx} {c fi1 : DEx} {g1 : DGx} {c1 f : DEx}
end
end DL
namespace DL
open PySem L2
@[simp] def par2D (i j : Nat) (f : DEx) (ρ0 : En) (st0 : Store) : Fl := thenF f (fun d ρ st => match d with
  | .tup [a, b] => .nx ((ρ.set i (.val a)).set j (.val b)) st
  | _ => .bad) ρ0 st0
theorem RefA.bindF {K : PySem.W.Frag} {mg : MG} {W : WB} {t : TA} {f : DEx} (h : RefA K mg W t f) {w : Ws} {E : Ends} {Q1 : List V → Hp → Prop} {r : D → En → Store → Fl} (s : Sts K mg w) (hd : ∀ d ρ st, (∀ b, d ≠ .tup b) → r d ρ st = .bad)
    (hP : OkF K mg W w E (thenF f r w.ρ w.st))
    (k : ∀ (w1 : Ws) (vs : List V) (ds : List D), w1.σ = w.σ → Aft K mg w w1 → Reps K mg w1.G w1.ι vs ds → OkF K mg W w1 E (r (.tup ds) w1.ρ w1.st) → Q1 vs w1.H) : t w.σ w.H Q1 := by
  unfold thenF at hP
  refine h w Q1 s ?_
  cases e : f w.ρ w.st with
  | ok d ρ st =>
    rw [e] at hP
    cases d with
    | tup b =>
      intro w' vs h1 h2 h3 h4 h5
      subst h1; subst h2
      exact k w' vs b h3 h4 h5 (OkF.aft hP h4)
    | _ =>
      simp only at hP
      rw [hd _ ρ st (by intro b q; cases q)] at hP
      exact hP.elim
  | exc c ρ st =>
    rw [e] at hP
    exact fun w' cls dx h1 h2 _ h4 h5 => hP w' cls dx h1 h2 h4 h5
  | bad => rw [e] at hP; exact hP
section
variable {X : Cx} {W : WB} {a b c : Expr} {x y z : Str} {i j l : Nat} {f : DEx} {px py pz pt pos : Pos} {kt k2 : Nat} {pt2 : Pos}
theorem ds_par (hc : X.calm = true) (hN : X.N.Nodup) (hi : X.N[i]? = some x) (hj : X.N[j]? = some y) (hij : i ≠ j) (hx : X.env.scope.names.lookup x = some .local) (hy : X.env.scope.names.lookup y = some .local) (ha : DA X W [a, b] f)
    (hw : swappedStores [.Tuple [.Name x px, .Name y py] kt pt] (.Tuple [a, b] k2 pt2) X.env = pure (some [x, y])) (hs : swapsWithSole [.Tuple [.Name x px, .Name y py] kt pt] (.Tuple [a, b] k2 pt2) pos.line X.env = pure false := by rfl) :
    DS X W (.Assign [.Tuple [.Name x px, .Name y py] kt pt] (.Tuple [a, b] k2 pt2) pos) (par2D i j f) := by
  obtain ⟨t, p, r⟩ := ha
  refine ⟨_, ps_par hc hN hi hj hij hx hy p hw hs, fun w E s q => ?_⟩
  refine r.bindF s (fun d ρ st n => by cases d <;> first | rfl | exact absurd rfl (n _)) q fun w1 vs ds e1 A rs q1 => ?_
  split at q1
  · rename_i d1 d2 hh
    cases hh
    obtain ⟨v1, v2, rfl, r1, r2⟩ := rs.inv2
    have A1 := Aft.setVal A.s (i := i) r1
    have A2 := Aft.setVal A1.s (i := j) (v := v2) (d := d2) r2
    refine ⟨v1, v2, rfl, ?_⟩
    have := q1 { w1 with ρ := (w1.ρ.set i (.val d1)).set j (.val d2), σ := (w1.σ.set i (some v1)).set j (some v2) } rfl rfl (A1.trans A2)
    rw [← e1]; exact this
  · exact q1.elim
end
section
variable {X : Cx} {W : WB} {elt tg iter tg1 iter1 : Expr} {ifs ifs1 : List Expr} {scope : Scope} {own : List (Str × Nat)} {is is1 vs1 : List Nat} {pos spos : Pos} {fi : DEx} {g : DGx} {c fi1 : DEx} {g1 : DGx} {c1 f : DEx}
theorem ps_lc2 {i : Nat} {y : Str} {py : Pos} (hc : X.calm = true) (hN : X.N.Nodup) (hy : X.N[i]? = some y) (hyl : X.env.scope.names.lookup y = some .local)
    (hsw : swapsWith (.ListComp elt [⟨tg, iter, ifs, 0⟩, ⟨tg1, iter1, ifs1, 0⟩] scope pos) (some (.Name y py)) spos.line X.env = pure true) (hi : DI X W tg iter fi) (ok : BlkOk X.N X.env.scope scope own) (hv : ∀ i ∈ vs1, i ∈ own.map (·.2)) (hsub : ∀ i ∈ is, i ∈ own.map (·.2)) (hsub1 : ∀ i ∈ is1, i ∈ vs1)
    (hg : ∀ (s : Shared) (H : Hp) (C : Addr) (cl : List (Str × Addr)) (fp : List Addr), DG (X.blk s H scope (PySem.compEnvC scope cl C X.env) fp) tg is g) (ht : ∀ (s : Shared) (H : Hp) (C : Addr) (cl : List (Str × Addr)) (fp : List Addr), DTs (X.blk s H scope (PySem.compEnvC scope cl C X.env) fp) W.b ifs c)
    (hi1 : ∀ (s : Shared) (H : Hp) (C : Addr) (cl : List (Str × Addr)) (fp : List Addr), DI (X.blk s H scope (PySem.compEnvC scope cl C X.env) fp) (WF W.b) tg1 iter1 fi1)
    (hg1 : ∀ (s : Shared) (H : Hp) (C : Addr) (cl : List (Str × Addr)) (fp : List Addr), DG (X.blk s H scope (PySem.compEnvC scope cl C X.env) fp) tg1 is1 g1) (ht1 : ∀ (s : Shared) (H : Hp) (C : Addr) (cl : List (Str × Addr)) (fp : List Addr), DTs (X.blk s H scope (PySem.compEnvC scope cl C X.env) fp) W.b ifs1 c1)
    (he : ∀ (s : Shared) (H : Hp) (C : Addr) (cl : List (Str × Addr)) (fp : List Addr), DE (X.blk s H scope (PySem.compEnvC scope cl C X.env) fp) (WF W.b) elt f) (hs : ∀ x, foldedSetIterable iter X.env x = pure x := by intro _; rfl) (hs1 : ∀ env x, foldedSetIterable iter1 env x = pure x := by intro _ _; rfl) :
    ∃ t, PS X (.Assign [.Name y py] (.ListComp elt [⟨tg, iter, ifs, 0⟩, ⟨tg1, iter1, ifs1, 0⟩] scope pos) spos) (tAsg t (gName i)) ∧ RefO X.K (MGx X W.b) W t (lc2D fi g c fi1 g1 c1 f (own.map (·.2)) vs1) := by
  obtain ⟨wi, pi, ri⟩ := hi
  exact ⟨_, ps_setLc2 hc hN hy hyl hsw pi ok hv (fun s H C cl fp => (hg s H C cl fp).pg W.b) (fun s H C cl fp => (ht s H C cl fp).pts) (fun s H C cl fp => (hi1 s H C cl fp).pi) (fun s H C cl fp => (hg1 s H C cl fp).pg W.b) (fun s H C cl fp => (ht1 s H C cl fp).pts) (fun s H C cl fp => (he s H C cl fp).pe) hs hs1, refO_lc2 ri hsub hsub1 hv⟩
theorem ds_lc2F {i : Nat} {st : Stmt} (h : ∃ t, PS X st (tAsg t (gName i)) ∧ RefO X.K (MGx X W.b) W t (lc2D fi g c fi1 g1 c1 f (own.map (·.2)) vs1)) : DS X W st (setD (lc2D fi g c fi1 g1 c1 f (own.map (·.2)) vs1) (gN i)) :=
  let ⟨_, p, r⟩ := h; ⟨_, p, refS_set (r.fz lc2D_isL) (refG_name i)⟩
end
end DL
namespace DL
open PySem L2
def Mfn (K : PySem.W.Frag) (mg : Str → Option Value) (c m qual : Str) (ps : List Str) (st : Stmt) (dds : List D) : Prop := ∃ C f fd ds dvs, mg c = some (.ref C) ∧ Cls K C ∧ Meth K C m f ∧ FunV K m qual st f fd ∧ Binds K fd ps ds ∧ Vals dvs ds ∧ ∀ b G ι, Reps K ⟨mg, b⟩ G ι dvs dds
theorem MCal.of {P : Program} {wd : World} {K : PySem.W.Frag} {mg : Str → Option Value} {base : Heap} {c m qual : Str} {st : Stmt} {N ps : List Str} {dds : List D} {k n j : Nat} {g : DSx} (M : Mfn K mg c m qual ps st dds) (S : FnScope N ps (defScope st)) (hn : n = N.length) (hj : j = ps.length)
    (hb : ∀ (f : Addr) (cdv : Value) (A : Around) (outer : List Env) (s : Shared) (H : Hp) (E : XK), Room k (A.deeper (PyProof.Rows.envOfC qual (defScope st) s.heap.objs.size f cdv)) →
      DSs (cxOf (L2N.CX P wd) P wd K mg base N qual (defScope st) f cdv A outer s H E) (WEx E) (defBody st) g) : MCal P wd K mg base (k + 1) c m j (runD n g) dds := by
  obtain ⟨C, f, fd, ds, dvs, h1, h2, h3, h4, h5, h6, h7⟩ := M
  subst hj
  exact ⟨C, f, fd, ps, ds, dvs, h1, h2, h3, fn_D h4 S hn (hb f), h5, h6, h7⟩
def Kfn (K : PySem.W.Frag) (mg : Str → Option Value) (c qual : Str) (ps : List Str) (st : Stmt) (dds : List D) : Prop := ∃ C f fd ds dvs, mg c = some (.ref C) ∧ Mk K C f ∧ FunV K "__init__" qual st f fd ∧ Binds K fd ps ds ∧ Vals dvs ds ∧ ∀ b G ι, Reps K ⟨mg, b⟩ G ι dvs dds
theorem KCal.of {P : Program} {wd : World} {K : PySem.W.Frag} {mg : Str → Option Value} {base : Heap} {c qual : Str} {st : Stmt} {N ps : List Str} {dds : List D} {k n j : Nat} {g : DSx} (M : Kfn K mg c qual ps st dds) (S : FnScope N ps (defScope st)) (hn : n = N.length) (hj : j = ps.length)
    (hb : ∀ (f : Addr) (cdv : Value) (A : Around) (outer : List Env) (s : Shared) (H : Hp) (E : XK), Room k (A.deeper (PyProof.Rows.envOfC qual (defScope st) s.heap.objs.size f cdv)) →
      DSs (cxOf (L2N.CX P wd) P wd K mg base N qual (defScope st) f cdv A outer s H E) (WEx E) (defBody st) g) : KCal P wd K mg base (k + 1) c j (runD n g) dds := by
  obtain ⟨C, f, fd, ds, dvs, h1, h3, h4, h5, h6, h7⟩ := M
  subst hj
  exact ⟨C, f, fd, ps, ds, dvs, h1, h3, fn_D h4 S hn (hb f), h5, h6, h7⟩
theorem DAn.da {X : Cx} {W : WB} {es : List Expr} {f : DEx} (h : DAn X W es f) : DA X W es f := h.1
theorem hld1 {K : PySem.W.Frag} {mg : Str → Option Value} {c f : Str} {C : Addr} (h : mg c = some (.ref C)) (hC : Cls K C) (n : NoAttr K C f) : Hld K mg [c] f := fun c' hc C' hm => by
  rw [List.mem_singleton.mp hc, h] at hm
  cases hm
  exact ⟨hC, n⟩
theorem funD_v {K : PySem.W.Frag} {x qual : Str} {st : Stmt} {dvs : List V} {kws : List (Str × V)} {f : Addr} {fd : FuncData} (F : FunD K x qual (defArgs st) (defBody st) (defScope st) dvs kws f fd) : FunV K x qual st f fd := by
  obtain ⟨oc, od, dV, kV, doc, pm, an, cdv, ct, osl, e, lk, hcd, _⟩ := F.ex
  exact ⟨oc, od, dV, kV, doc, pm, an, cdv, ct, osl, e, lk, hcd⟩
theorem vals_nil {ds : List Value} (h : Vals [] ds) : ds = [] := by cases h; rfl
end DL
namespace DL
open PySem L2
section
variable {X : Cx} {W : WB} {e a b : Expr} {f g : DEx} {pos : Pos}
end
theorem walk_zipT {K : PySem.W.Frag} {a b : Addr} {xs ys : List V} {n : Nat} (hn : n = min xs.length ys.length) : Walk (RZ.ItzT K a b) n (fun H => SqT K H a xs ∧ SqT K H b ys) (YPair (fun i => xs[i]?) (fun i => ys[i]?)) := by
  subst hn
  refine ⟨fun i _ hi q => ?_, fun _ q => ⟨xs, ys, q.1, q.2, by omega⟩, fun i H v H' _ q y => ?_⟩
  · have h1 : i < xs.length := by omega
    have h2 : i < ys.length := by omega
    exact ⟨xs, ys, xs[i], ys[i], q.1, q.2, by simp [h1], by simp [h2]⟩
  · obtain ⟨T, x, z, h1, h2, h3, h4, h5⟩ := y
    exact ⟨T, x, z, h1, h2, h3, h4 xs q.1, h5 ys q.2⟩
end DL
namespace DL
open PySem L2
def rNil (K : PySem.W.Frag) (neg : Bool) : R2 := fun x y H Q => ∃ (a b : Addr) (xs : List V), x = .ref a ∧ y = .ref b ∧ SqL K H a xs ∧ SqL K H b [] ∧ Q (.bl (if neg then !xs.isEmpty else xs.isEmpty)) H
section
variable {X : Cx}
theorem op_neNil (hu : X.A.units < cLine) : OpR X (compareOp .NotEq) (rNil X.K true) := fun pins s σ H x y v u Q I rx ry h => by
  obtain ⟨a, b, xs, rfl, rfl, ha, hb, q⟩ := h
  cases rx
  cases ry
  obtain ⟨its, r, p, _⟩ := I.list ha
  obtain ⟨its2, r2, p2, _⟩ := I.list hb
  cases r2
  obtain ⟨o, n, e1, e2, e3, e4⟩ := p
  obtain ⟨o2, n2, f1, f2, f3, f4⟩ := p2
  show wpAny (model X.prog X.w) X.A (richCompare .NotEq (.ref a) (.ref b)) (EP X pins σ Q) X.xe s
  have fin : ∀ k : Bool, k = !xs.isEmpty → EP X pins σ Q (.bool k) s := fun k hk => ⟨.bl k, H, I, rfl, by rw [hk]; exact q⟩
  cases r with
  | nil => exact SeqAt.RcNeAt.lists (e := fun _ => true) ⟨o, e1, e2, n, e4⟩ ⟨o2, f1, f2, n2, f4⟩ rfl hu (fun j h => absurd h (Nat.not_lt_zero _)) _ _ _ _ (fin _ rfl)
  | cons h t => exact SeqAt.RcNeAt.lists_lengths ⟨o, e1, e2, n, e4⟩ ⟨o2, f1, f2, n2, f4⟩ rfl hu _ _ _ _ (fin _ rfl)
end
theorem empty_reps {K : PySem.W.Frag} {mg : MG} {G : Hp} {ι : List Addr} {vs : List V} {ds : List D} (h : Reps K mg G ι vs ds) : vs.isEmpty = ds.isEmpty := by cases h <;> rfl
@[simp] def nilP (neg : Bool) (p : DPx) (ρ : En) (st : Store) : R := match p ρ st with
  | some (.lst ds) => .ok (.bl (if neg then !ds.isEmpty else ds.isEmpty)) ρ st
  | _ => .bad
section
variable {X : Cx} {W : WB} {a : Expr} {p : DPx} {pos lpos : Pos}
theorem ref_nil {K : PySem.W.Frag} {mg : MG} {neg : Bool} {ta : TE} (ra : RefPv K mg ta p) : RefE K mg W (tOp (rNil K neg) ta (tLst tNil)) (nilP neg p) := fun w Q s q => by
  unfold nilP at q
  split at q
  · rename_i ds hp
    refine ra w _ _ s hp fun v rv => ?_
    obtain ⟨a, vs, rfl, h1, _, rs⟩ := rv.lst_inv s
    show ([] : List V).length ≤ sizeLine ∧ _
    refine ⟨Nat.zero_le _, fun l hl => ?_⟩
    have hne : a ≠ l := fun e => by rw [e, hl] at h1; cases h1
    have A := Aft.alloc (o := .lst []) s hl
    refine ⟨a, l, vs, rfl, rfl, SqL.of (by rw [upd_ne hne]; exact h1), SqL.of upd_same, ?_⟩
    rw [empty_reps rs]
    exact q { w with G := upd w.G l (.lst []), H := upd w.H l (.lst []) } _ rfl rfl rfl A (.bl _)
  · exact q.elim
theorem dt_neNil (hu : X.A.units < cLine) (ha : DPv X a p) (hm : behindInMarks .NotEq (.List [] lpos) = false := by rfl) : DT X W (.Compare a [.NotEq] [.List [] lpos] pos) (nilP true p) := let ⟨_, pa, ra⟩ := ha; ⟨_, pt_cmpR (op_neNil hu) pa (pe_lst pa_nil) hm, (ref_nil (ra _)).v.test⟩
end
end DL
namespace DL
open PySem PySem.Spec PyProof.Rows PySem.SeqAt L2
section
variable {X : Cx} {CX : CXT} {k : Nat} {f C : Addr} {fd : FuncData} {ps : List Str} {sp : Sp} {dvs : List V} {ds : List Value} {E : XK} {b : Low}
theorem run_at {A' : Around} {pins : List (Addr × Obj)} {σ : L2.St} {H : Hp} {s : Shared} {Q : VK} {us : List Value} {vs : List V} (F : FnOk X.prog X.w X.K X.mg X.base CX k f fd ps sp) (hr : Room k A') (hf : A'.frames = X.A.frames) (hb : Binds X.K fd ps ds) (hd : Vals dvs ds) (hx : Passes CX X E)
    (I : Inv X pins σ H s) (r : Vals vs us) (h : sp (vs ++ dvs) H Q E) : wpAny (model X.prog X.w) A' (call (.ref f) us) (EP X pins σ Q) X.xe s := by
  have r2 : Vals (vs ++ dvs) (us ++ ds) := r.append hd
  have hl : (us ++ ds).length = ps.length := by rw [← r2.length]; exact F.len _ _ _ _ h
  have e0 : Env0 X.prog X.w X.K X.mg X.base A' X.stack s H := by
    have e := I.env0
    exact ⟨by rw [hf]; exact e.frames, e.mod, e.bs, e.bsz, e.funs, e.frf, e.hok, e.bare⟩
  refine wpAny_call (codeAny_mono (F.run A' X.stack s H ⟨us, []⟩ (us ++ ds) (vs ++ dvs) Q E hr e0 (hb s us I.kIn hl) r2 h) fun r s' hq => ?_)
  cases r with
  | error e => exact hx pins σ H s e s' I hq
  | ok fl =>
    cases fl with
    | ret w => exact I.after hq
    | next => exact False.elim hq
    | brk => exact False.elim hq
    | cont => exact False.elim hq
def lenQ (Q : VK) : VK := fun v H => ∃ n : Int, v = .int n ∧ (0 ≤ n ∧ n < 2 ^ 63) ∧ Q (.int n) H
theorem call_lenI (hs : PySem.W.findIn X.K (.ref C) "__len__" = some (some (.ref f))) (hf : PySem.W.isFn X.K (.ref f) = true) (F : FnOk X.prog X.w X.K X.mg X.base CX k f fd ps sp) (hr : Room (k + 1) X.A) (hb : Binds X.K fd ps []) (hx : Passes CX X E) :
    CallR X (.builtin "len") (fun xs H Q => ∃ a dx fs, xs = [.ref a] ∧ H a = some (.ins C dx fs) ∧ sp [.ref a] H (lenQ Q) E) := fun pins s σ H xs us Q I rx h => by
  obtain ⟨a, dx, fs, rfl, ha, hsp⟩ := h
  cases rx with
  | cons r1 r2 =>
    cases r2
    cases r1
    obtain ⟨mA, J, _⟩ := ins_get I.hok ha
    obtain ⟨od, J, _⟩ := J.look
    obtain ⟨m, hF⟩ := I.fr
    refine PySem.W.len_K hF I.ok.mod.kin J hs hf (thn (run_at (us := [.ref a]) (vs := [.ref a]) F hr.in1 rfl hb .nil hx I (.cons rfl .nil) hsp) fun u s' ⟨v, H', I', rv, n, ev, hn, q⟩ => ?_)
    subst ev
    obtain ⟨t, rfl⟩ := rv
    exact ⟨hn, .int n, H', I'.tok _, ⟨_, rfl⟩, q⟩
end
@[simp] def dun1D (c : Str) (den : Den) (p : D → Option D) (g : DEx) (ρ : En) (st : Store) : R := (g ρ st).bind fun d ρ st => match insOf st d with
  | some (c', _) => if c' = c then (match den [d] st with
    | .ok r _ st' => (match p r with
      | some z => .ok z ρ st'
      | none => .bad)
    | .exc c _ st' => .exc c ρ st'
    | .bad => .bad) else .bad
  | none => .bad
def NatL (n : Int) : Prop := 0 ≤ n ∧ n < 2 ^ 63
noncomputable instance (n : Int) : Decidable (NatL n) := Classical.propDecidable _
@[simp] noncomputable def pNat : D → Option D
  | .int n => if NatL n then some (.int n) else none
  | _ => none
section
variable {X : Cx} {E : XK} {b : Low} {k k' : Nat} {den : Den} {c : Str} {e e2 : Expr} {g h : DEx} {p pos : Pos}
theorem de_lenI (M : MCal X.prog X.w X.K X.mg X.base k c "__len__" 1 den []) (hr : Room k' X.A) (hk : k + 1 ≤ k') (tk : L2N.Takes X (WEb b E)) (hg : Gl X "len") (hm : X.mg "len" = none) (ha : DE X (WEb b E) e g)
    (he : starEach [e] X.env = (false, eval e X.env) :: starEach [] X.env := by rfl) (hpl : (backTo pos (starEach [] X.env)).any (·.1) = false := by rfl) : DE X (WEb b E) (.Call (.Name "len" p) [e] [] pos) (dun1D c den pNat g) := by
  obtain ⟨C, f, fd, ps, ds, dvs, hmc, hC, hM, F, hB, hV, hD⟩ := M
  obtain ⟨ta, pa, ra⟩ := ha
  have hD0 := hD Low.no (fun _ => none) []
  cases hD0
  cases hV
  refine ⟨_, pe_callB (call_lenI hM.at_ hM.fn F (hr.mono hk) hB (passes_const tk)) hg hm PySem.boot_len (pa_cons pa pa_nil he) (by decide) (by decide) he hpl, fun w Q s q => ?_⟩
  refine ra.bindR s q fun w1 v d s1 e1 a1 rp q1 => ?_
  cases hz : insOf w1.st d with
  | none => simp only [hz] at q1; exact q1.elim
  | some cf =>
    obtain ⟨c', fs⟩ := cf
    simp only [hz] at q1
    by_cases hh : c' = c
    · rw [if_pos hh] at q1
      subst hh
      obtain ⟨a, C', dx, vs, rfl, hm', ha, rf⟩ := insOf_inv s1 rp hz
      have hm' := hmc.symm.trans hm'
      cases hm'
      refine ⟨a, dx, vs, rfl, ha, ?_⟩
      refine sp_at (W := WEb b E) (σ := w1.σ) s1 rfl (.cons rp .nil) rfl ?_
      show OkR X.K (MGx X b) (WEb b E) w1 _ (match den [d] w1.st with | .ok r _ st' => R.ok r w1.ρ st' | .exc c _ st' => .exc c w1.ρ st' | .bad => .bad)
      cases ee : den [d] w1.st with
      | ok r ρ' st' =>
        rw [ee] at q1
        cases r with
        | int n =>
          simp only [pNat] at q1
          by_cases hn : NatL n
          · rw [if_pos hn] at q1
            intro w' v h1 h2 h3 A r
            cases r
            exact ⟨n, rfl, hn, q1 w' (.int n) h1 h2 h3 A (.int n)⟩
          · rw [if_neg hn] at q1; exact q1.elim
        | _ => exact q1.elim
      | exc x' ρ' st' =>
        rw [ee] at q1
        exact q1
      | bad => rw [ee] at q1; exact q1.elim
    · rw [if_neg hh] at q1; exact q1.elim
end
structure IsO (K : PySem.W.Frag) (mg : Str → Option Value) (c : Str) : Prop where
  ex : ∃ C, mg c = some (.ref C) ∧ Cls K C ∧ PySem.W.findIn K (.ref C) "__class__" = some (some (.builtin "object.__class__")) ∧ PySem.W.specialIn K (.builtin "object.__class__") "__get__" = some (some (.builtin "getset_descriptor.__get__")) ∧
    PySem.W.takesIn K (.builtin "object.__class__") = some true ∧ PySem.W.mroIn K C (.type "object") = some true ∧ ((PySem.W.clsIn K C).isSome && PySem.W.typeIn K (.ref C) == some (.type "type")) = true
end DL
namespace DL
open PySem L2
def rOrd (K : PySem.W.Frag) (g : PyData → PyData → Bool) : R2 := fun x y H Q => ∃ d e, Dp K H x d ∧ Dp K H y e ∧ PySem.W.alike d e = true ∧ d ≠ .none ∧ d.depth ≤ 64 ∧ Q (.bl (g d e)) H
section
variable {X : Cx}
theorem op_ltA (hu : X.A.units + 64 < cLine) : OpR X (compareOp .Lt) (rOrd X.K fun d e => PySem.W.dataLt d e) := fun pins s σ H x y v u Q I rx ry h => by
  obtain ⟨d, e, hd, he, ha, hn, hl, q⟩ := h
  obtain ⟨as, r1⟩ := Dp.reads I d x v hd rx
  obtain ⟨bs, r2⟩ := Dp.reads I e y u he ry
  exact PySem.W.lt_data r1 r2 ha hn (by omega) ⟨.bl _, H, I, rfl, q⟩
theorem op_gtA (hu : X.A.units + 64 < cLine) : OpR X (compareOp .Gt) (rOrd X.K fun d e => PySem.W.dataLt e d) := fun pins s σ H x y v u Q I rx ry h => by
  obtain ⟨d, e, hd, he, ha, hn, hl, q⟩ := h
  obtain ⟨as, r1⟩ := Dp.reads I d x v hd rx
  obtain ⟨bs, r2⟩ := Dp.reads I e y u he ry
  exact PySem.W.gt_data r1 r2 ha hn (by omega) ⟨.bl _, H, I, rfl, q⟩
theorem op_geA (hu : X.A.units + 64 < cLine) : OpR X (compareOp .GtE) (rOrd X.K fun d e => !PySem.W.dataLt d e) := fun pins s σ H x y v u Q I rx ry h => by
  obtain ⟨d, e, hd, he, ha, hn, hl, q⟩ := h
  obtain ⟨as, r1⟩ := Dp.reads I d x v hd rx
  obtain ⟨bs, r2⟩ := Dp.reads I e y u he ry
  exact PySem.W.ge_data r1 r2 ha hn (by omega) ⟨.bl _, H, I, rfl, q⟩
end
@[simp] def notNone : PyData → Bool
  | .none => false
  | _ => true
theorem notNone_ne {p : PyData} (h : notNone p = true) : p ≠ .none := fun e => by rw [e] at h; cases h
def ordB (g : PyData → PyData → Bool) (d e : D) : Option D := match d.py, e.py with
  | some p, some q => if PySem.W.alike p q = true ∧ notNone p = true ∧ p.depth ≤ 64 then some (.bl (g p q)) else none
  | _, _ => none
theorem ans_ord {K : PySem.W.Frag} {mg : MG} {g : PyData → PyData → Bool} : Ans2 K mg (rOrd K g) (ordB g) := fun w x y d e z Q s rx ry q k => by
  unfold ordB at q
  split at q
  · rename_i p p' e1 e2
    split at q
    · rename_i hh
      cases q
      exact ⟨p, p', (rx.h s).dp e1, (ry.h s).dp e2, hh.1, notNone_ne hh.2.1, hh.2.2, k _ (fun _ _ => .bl _)⟩
    · cases q
  · cases q
@[simp] def ordX (h : Int → Int → Bool) (g : PyData → PyData → Bool) : D → D → Option D
  | .int i, .int j => some (.bl (h i j))
  | d, e => ordB g d e
theorem ans_ordX {K : PySem.W.Frag} {mg : MG} {h : Int → Int → Bool} {g : PyData → PyData → Bool} (hg : ∀ i j, g (.int i) (.int j) = h i j) : Ans2 K mg (rOrd K g) (ordX h g) := fun w x y d e z Q s rx ry q k => by
  unfold ordX at q
  split at q
  · rename_i i j
    cases q
    rw [← hg] at k
    exact ⟨.int i, .int j, (rx.h s).dp (by simp [D.py]), (ry.h s).dp (by simp [D.py]), by simp [PySem.W.alike], by simp, by simp [PyData.depth], k _ (fun _ _ => .bl _)⟩
  · exact ans_ord w x y d e z Q s rx ry q k
abbrev pLtX := ordX (fun i j => decide (i < j)) (fun d e => PySem.W.dataLt d e)
abbrev pGtX := ordX (fun i j => decide (j < i)) (fun d e => PySem.W.dataLt e d)
abbrev pGeX := ordX (fun i j => decide (j ≤ i)) (fun d e => !PySem.W.dataLt d e)
theorem ans_ltX {K : PySem.W.Frag} {mg : MG} : Ans2 K mg (rOrd K fun d e => PySem.W.dataLt d e) pLtX := ans_ordX fun i j => PySem.W.dataLt_int i j
theorem ans_gtX {K : PySem.W.Frag} {mg : MG} : Ans2 K mg (rOrd K fun d e => PySem.W.dataLt e d) pGtX := ans_ordX fun i j => PySem.W.dataLt_int j i
theorem ans_geX {K : PySem.W.Frag} {mg : MG} : Ans2 K mg (rOrd K fun d e => !PySem.W.dataLt d e) pGeX := ans_ordX fun i j => by
  show (!PySem.W.dataLt (.int i) (.int j)) = _
  rw [PySem.W.dataLt_int]
  by_cases h : i < j
  · rw [decide_eq_true h, decide_eq_false (by omega)]; rfl
  · rw [decide_eq_false h, decide_eq_true (by omega)]; rfl
end DL
class BK (σ : Type) where
  le : σ → σ → Bool
  emp : σ
  refl : ∀ s, le s s = true
  trans : ∀ a b c, le a b = true → le b c = true → le a c = true
  anti : ∀ a b, le a b = true → le b a = true → a = b
  emp_le : ∀ s, le emp s = true
namespace BK
section
variable {τ σ : Type} [DecidableEq τ] [DecidableEq σ] [BK σ]
theorem le_emp {s : σ} (h : s ≠ emp) : le s (emp : σ) = false := by
  cases e : le s (emp : σ) with
  | false => rfl
  | true => exact absurd (BK.anti _ _ e (BK.emp_le s)) h
theorem not_le {s t : σ} (h : le s t = false) (u : le s t = true) : False := by rw [h] at u; cases u
structure Up (U : σ → Bool) : Prop where
  up : ∀ s t, le s t = true → U s = true → U t = true
  ne : U emp = false
def heardF (U : σ → Bool) (d : τ) (rows : List (τ × σ)) : τ := rows.foldl (fun acc r => if U r.2 then r.1 else acc) d
@[simp] theorem heardF_nil (U : σ → Bool) (d : τ) : heardF U d [] = d := rfl
@[simp] theorem heardF_cons (U : σ → Bool) (d : τ) (r : τ × σ) (rows : List (τ × σ)) : heardF U d (r :: rows) = heardF U (if U r.2 then r.1 else d) rows := rfl
theorem heardF_app (U : σ → Bool) (d : τ) (A B : List (τ × σ)) : heardF U d (A ++ B) = heardF U (heardF U d A) B := by simp [heardF]
theorem heardF_hit {U : σ → Bool} : ∀ {B : List (τ × σ)} (x y : τ), (∃ r ∈ B, U r.2 = true) → heardF U x B = heardF U y B
  | [], _, _, h => by obtain ⟨r, h, _⟩ := h; cases h
  | r :: B, x, y, h => by
    cases e : U r.2 with
    | true => simp [e]
    | false =>
      obtain ⟨q, hq, hu⟩ := h
      rcases List.mem_cons.mp hq with rfl | hq
      · rw [e] at hu; cases hu
      · simp only [heardF_cons, e]; exact heardF_hit _ _ ⟨q, hq, hu⟩
theorem heardF_same {U : σ → Bool} {t : τ} : ∀ {B : List (τ × σ)} (x : τ), (∀ r ∈ B, r.1 = t) → heardF U x B = if B.any (fun r => U r.2) then t else x
  | [], x, _ => by simp
  | r :: B, x, h => by
    rw [heardF_cons, heardF_same _ fun q hq => h q (List.mem_cons_of_mem _ hq)]
    have := h r (List.mem_cons_self ..)
    cases e : U r.2 <;> cases e2 : B.any (fun r => U r.2) <;> simp [e, e2, this]
def Eqv (non : τ) (A B : List (τ × σ)) : Prop := ∀ U : σ → Bool, Up U → heardF U non A = heardF U non B
theorem Eqv.refl (non : τ) (A : List (τ × σ)) : Eqv non A A := fun _ _ => rfl
theorem Eqv.symm {non : τ} {A B : List (τ × σ)} (h : Eqv non A B) : Eqv non B A := fun U u => (h U u).symm
theorem Eqv.trans {non : τ} {A B C : List (τ × σ)} (h : Eqv non A B) (k : Eqv non B C) : Eqv non A C := fun U u => (h U u).trans (k U u)
abbrev Run (τ σ : Type) := τ × List σ
def flat (rs : List (Run τ σ)) : List (τ × σ) := rs.flatMap fun p => p.2.map fun s => (p.1, s)
@[simp] theorem flat_nil : flat ([] : List (Run τ σ)) = [] := rfl
@[simp] theorem flat_cons (p : Run τ σ) (rs : List (Run τ σ)) : flat (p :: rs) = (p.2.map fun s => (p.1, s)) ++ flat rs := by simp [flat]
theorem flat_app (a b : List (Run τ σ)) : flat (a ++ b) = flat a ++ flat b := by simp [flat]
def runsOf : List (τ × σ) → List (Run τ σ)
  | [] => []
  | (t, s) :: rest => match runsOf rest with
    | [] => [(t, [s])]
    | (t', lot) :: rs => if t = t' then (t, s :: lot) :: rs else (t, [s]) :: (t', lot) :: rs
theorem flat_runsOf : ∀ rows : List (τ × σ), flat (runsOf rows) = rows
  | [] => rfl
  | (t, s) :: rest => by
    have ih := flat_runsOf rest
    rw [runsOf]
    split
    · rename_i e; rw [e] at ih; simp at ih; simp [← ih]
    · rename_i t' lot rs e
      rw [e] at ih
      split
      · rename_i h; subst h; simp at ih; simp [ih]
      · simp at ih; simp [ih]
def Adj : List (Run τ σ) → Prop
  | [] => True
  | [_] => True
  | a :: b :: r => a.1 ≠ b.1 ∧ Adj (b :: r)
theorem runsOf_adj : ∀ rows : List (τ × σ), Adj (runsOf rows)
  | [] => trivial
  | (t, s) :: rest => by
    have ih := runsOf_adj rest
    rw [runsOf]
    split
    · trivial
    · rename_i t' lot rs e
      rw [e] at ih
      split
      · rename_i h; subst h
        cases rs with
        | nil => trivial
        | cons q r => exact ih
      · rename_i h; exact ⟨h, ih⟩
theorem runsOf_ne : ∀ rows : List (τ × σ), ∀ p ∈ runsOf rows, p.2 ≠ []
  | [], _, h => by cases h
  | (t, s) :: rest, p, h => by
    have ih := runsOf_ne rest
    rw [runsOf] at h
    split at h
    · simp at h; subst h; simp
    · rename_i t' lot rs e
      rw [e] at ih
      split at h
      · rcases List.mem_cons.mp h with rfl | h
        · simp
        · exact ih p (List.mem_cons_of_mem _ h)
      · rcases List.mem_cons.mp h with rfl | h
        · simp
        · exact ih p h
def hrR (non : τ) (U : σ → Bool) : List (Run τ σ) → τ
  | [] => non
  | p :: rr => if p.2.any U then p.1 else hrR non U rr
theorem heardF_flatR (non : τ) (U : σ → Bool) : ∀ rr : List (Run τ σ), heardF U non (flat rr.reverse) = hrR non U rr
  | [] => rfl
  | p :: rr => by
    rw [List.reverse_cons, flat_app, heardF_app, heardF_flatR non U rr, flat_cons, flat_nil, List.append_nil, heardF_same (t := p.1) _ (by simp), hrR]
    simp [List.any_map, Function.comp_def]
def RO (non : τ) : List (Run τ σ) → Prop
  | [] => True
  | p :: rr => p.2 ≠ [] ∧ (∀ s ∈ p.2, s ≠ emp) ∧ p.2.Pairwise (fun a b => le a b = false ∧ le b a = false) ∧ (∀ q ∈ rr, ∀ a ∈ q.2, ∀ b ∈ p.2, le a b = false) ∧
      (match rr with
        | [] => p.1 ≠ non
        | q :: _ => q.1 ≠ p.1) ∧ RO non rr
def cutU (U : σ → Bool) (lot : List σ) : σ → Bool := fun t => U t && !(lot.any fun b => le t b)
theorem cutU_up {U : σ → Bool} (h : Up U) (lot : List σ) : Up (cutU U lot) where
  up s t l u := by
    simp only [cutU, Bool.and_eq_true, Bool.not_eq_true'] at u ⊢
    refine ⟨h.up s t l u.1, ?_⟩
    rw [List.any_eq_false] at u ⊢
    intro b hb hl
    exact u.2 b hb (BK.trans _ _ _ l hl)
  ne := by simp [cutU, h.ne]
theorem cutU_self (U : σ → Bool) (lot : List σ) : lot.any (cutU U lot) = false := by
  rw [List.any_eq_false]
  intro s hs h
  simp only [cutU, Bool.and_eq_true, Bool.not_eq_true', List.any_eq_false] at h
  exact h.2 s hs (BK.refl s)
theorem any_congr' {α : Type} {l : List α} {p q : α → Bool} (h : ∀ x ∈ l, p x = q x) : l.any p = l.any q := by
  induction l with
  | nil => rfl
  | cons a l ih => simp only [List.any_cons, h a (List.mem_cons_self ..), ih fun x hx => h x (List.mem_cons_of_mem _ hx)]
theorem cutU_tail {non : τ} {U : σ → Bool} {lot : List σ} : ∀ {rr : List (Run τ σ)}, (∀ q ∈ rr, ∀ a ∈ q.2, ∀ b ∈ lot, le a b = false) → hrR non (cutU U lot) rr = hrR non U rr
  | [], _ => rfl
  | q :: rr, h => by
    have e : q.2.any (cutU U lot) = q.2.any U := any_congr' fun s hs => by
      have : (lot.any fun b => le s b) = false := by rw [List.any_eq_false]; exact fun b hb hl => not_le (h q (List.mem_cons_self ..) s hs b hb) hl
      simp [cutU, this]
    rw [hrR, hrR, e, cutU_tail fun q hq => h q (List.mem_cons_of_mem _ hq)]
def prin (t : σ) : σ → Bool := fun s => le t s
theorem prin_up {t : σ} (h : t ≠ emp) : Up (prin t) := ⟨fun s u l k => BK.trans _ _ _ k l, le_emp h⟩
def two (t q : σ) : σ → Bool := fun s => le t s || le q s
theorem two_up {t q : σ} (h : t ≠ emp) (k : q ≠ emp) : Up (two t q) := ⟨fun s u l z => by
  simp only [two, Bool.or_eq_true] at z ⊢
  exact z.imp (fun z => BK.trans _ _ _ z l) (fun z => BK.trans _ _ _ z l), by simp [two, le_emp h, le_emp k]⟩
theorem ro_non {non : τ} : ∀ {rr : List (Run τ σ)} {p : Run τ σ}, RO non (p :: rr) → ∃ U, Up U ∧ hrR non U (p :: rr) ≠ non
  | [], p, ⟨h1, h2, _, _, h5, _⟩ => by
    obtain ⟨s, hs⟩ := List.exists_mem_of_ne_nil _ h1
    refine ⟨prin s, prin_up (h2 s hs), ?_⟩
    have : p.2.any (prin s) = true := List.any_eq_true.mpr ⟨s, hs, BK.refl s⟩
    simp only [hrR, this]; exact h5
  | q :: rr, p, ⟨h1, h2, _, h4, _, h6⟩ => by
    obtain ⟨U, hU, hn⟩ := ro_non h6
    refine ⟨cutU U p.2, cutU_up hU _, ?_⟩
    rw [hrR, cutU_self, cutU_tail h4]
    exact hn
def notEmp : σ → Bool := fun t => !(le t (emp : σ))
theorem notEmp_up : Up (notEmp : σ → Bool) := ⟨fun s t l u => by
  simp only [notEmp, Bool.not_eq_true'] at u ⊢
  cases e : le t (emp : σ) with
  | false => rfl
  | true => exact (not_le u (BK.trans _ _ _ l e)).elim, by simp [notEmp, BK.refl]⟩
theorem ro_top {non : τ} {p : Run τ σ} {rr : List (Run τ σ)} (h : RO non (p :: rr)) : hrR non notEmp (p :: rr) = p.1 := by
  obtain ⟨h1, h2, _⟩ := h
  obtain ⟨s, hs⟩ := List.exists_mem_of_ne_nil _ h1
  have : p.2.any notEmp = true := List.any_eq_true.mpr ⟨s, hs, by simp [notEmp, le_emp (h2 s hs)]⟩
  simp [hrR, this]
theorem ro_apart {non : τ} {q : Run τ σ} {B : List (Run τ σ)} (h : RO non (q :: B)) {t : σ} (ht : t ≠ emp) (hd : (q.2.any fun b => le t b) = false) : ∃ U, Up U ∧ U t = true ∧ hrR non U (q :: B) ≠ q.1 := by
  rw [List.any_eq_false] at hd
  cases B with
  | nil =>
    obtain ⟨_, _, _, _, h5, _⟩ := h
    refine ⟨prin t, prin_up ht, BK.refl t, ?_⟩
    have : q.2.any (prin t) = false := List.any_eq_false.mpr hd
    simp only [hrR, this]
    exact fun e => h5 e.symm
  | cons q' B =>
    obtain ⟨_, _, _, h4, h5, h6⟩ := h
    obtain ⟨k1, k2, _⟩ := h6
    obtain ⟨Q, hQ⟩ := List.exists_mem_of_ne_nil _ k1
    refine ⟨two t Q, two_up ht (k2 Q hQ), by simp [two, BK.refl], ?_⟩
    have e1 : q.2.any (two t Q) = false := by
      rw [List.any_eq_false]
      intro b hb hz
      simp only [two, Bool.or_eq_true] at hz
      rcases hz with hz | hz
      · exact hd b hb hz
      · exact not_le (h4 q' (List.mem_cons_self ..) Q hQ b hb) hz
    have e2 : q'.2.any (two t Q) = true := List.any_eq_true.mpr ⟨Q, hQ, by simp [two, BK.refl]⟩
    simp only [hrR, e1, e2]
    exact h5
theorem pw_nodup {l : List σ} (h : l.Pairwise (fun a b => le a b = false ∧ le b a = false)) : l.Nodup := h.imp fun h e => by subst e; exact not_le h.1 (BK.refl _)
theorem pw_eq {l : List σ} (h : l.Pairwise (fun a b => le a b = false ∧ le b a = false)) {a b : σ} (ha : a ∈ l) (hb : b ∈ l) (l' : le a b = true) : a = b := by
  induction h with
  | nil => cases ha
  | cons h1 _ ih =>
    rcases List.mem_cons.mp ha with ea | ea <;> rcases List.mem_cons.mp hb with eb | eb
    · rw [ea, eb]
    · subst ea; exact (not_le (h1 b eb).1 l').elim
    · subst eb; exact (not_le (h1 a ea).2 l').elim
    · exact ih ea eb
theorem ro_uniq {non : τ} : ∀ {A B : List (Run τ σ)}, RO non A → RO non B → (∀ U, Up U → hrR non U A = hrR non U B) → A.length = B.length ∧ ∀ x ∈ A.zip B, x.1.1 = x.2.1 ∧ x.1.2.Perm x.2.2
  | [], [], _, _, _ => ⟨rfl, fun x h => by cases h⟩
  | [], q :: B, _, hb, h => by
    obtain ⟨U, hU, hn⟩ := ro_non hb
    exact absurd (h U hU).symm hn
  | p :: A, [], ha, _, h => by
    obtain ⟨U, hU, hn⟩ := ro_non ha
    exact absurd (h U hU) hn
  | p :: A, q :: B, ha, hb, h => by
    have ht : p.1 = q.1 := by rw [← ro_top ha, ← ro_top hb]; exact h _ notEmp_up
    have half : ∀ {p q : Run τ σ} {A B : List (Run τ σ)}, RO non (p :: A) → RO non (q :: B) → (∀ U, Up U → hrR non U (p :: A) = hrR non U (q :: B)) → p.1 = q.1 → ∀ t, t ≠ emp → (p.2.any fun b => le t b) = true → (q.2.any fun b => le t b) = true := by
      intro p q A B ha hb h ht t hne hp
      cases e : (q.2.any fun b => le t b) with
      | true => rfl
      | false =>
        exfalso
        obtain ⟨U, hU, hUt, hn⟩ := ro_apart hb hne e
        apply hn
        rw [← h U hU, ← ht, hrR]
        obtain ⟨b, hb1, hb2⟩ := List.any_eq_true.mp hp
        have : p.2.any U = true := List.any_eq_true.mpr ⟨b, hb1, hU.up _ _ hb2 hUt⟩
        simp [this]
    have d1 := half ha hb h ht
    have d2 := half hb ha (fun U u => (h U u).symm) ht.symm
    have sub : ∀ {l m : List σ}, (∀ s ∈ l, s ≠ emp) → (∀ s ∈ m, s ≠ emp) → l.Pairwise (fun a b => le a b = false ∧ le b a = false) → (∀ t, t ≠ emp → (l.any fun b => le t b) = true → (m.any fun b => le t b) = true) → (∀ t, t ≠ emp → (m.any fun b => le t b) = true → (l.any fun b => le t b) = true) → ∀ a ∈ l, a ∈ m := by
      intro l m n1 n2 hp f g a ha
      obtain ⟨b, hb1, hb2⟩ := List.any_eq_true.mp (f a (n1 a ha) (List.any_eq_true.mpr ⟨a, ha, BK.refl a⟩))
      obtain ⟨c, hc1, hc2⟩ := List.any_eq_true.mp (g b (n2 b hb1) (List.any_eq_true.mpr ⟨b, hb1, BK.refl b⟩))
      have e := pw_eq hp ha hc1 (BK.trans _ _ _ hb2 hc2)
      subst e
      rw [BK.anti _ _ hb2 hc2]; exact hb1
    obtain ⟨p1, p2, p3, p4, p5, p6⟩ := ha
    obtain ⟨q1, q2, q3, q4, q5, q6⟩ := hb
    have hperm : p.2.Perm q.2 := (List.perm_ext_iff_of_nodup (pw_nodup p3) (pw_nodup q3)).mpr fun a => ⟨sub p2 q2 p3 d1 d2 a, sub q2 p2 q3 d2 d1 a⟩
    have tl : ∀ U, Up U → hrR non U A = hrR non U B := fun U hU => by
      have hh := h (cutU U p.2) (cutU_up hU _)
      have z : q.2.any (cutU U p.2) = false := by
        rw [List.any_eq_false]
        intro s hs hz
        exact List.any_eq_false.mp (cutU_self U p.2) s (hperm.mem_iff.mpr hs) hz
      rw [hrR, hrR, cutU_self, z, cutU_tail p4, cutU_tail fun b hb a ha c hc => q4 b hb a ha c (hperm.mem_iff.mp hc)] at hh
      exact hh
    obtain ⟨r1, r2⟩ := ro_uniq p6 q6 tl
    refine ⟨by simp [r1], fun x hx => ?_⟩
    rw [List.zip_cons_cons] at hx
    rcases List.mem_cons.mp hx with rfl | hx
    · exact ⟨ht, hperm⟩
    · exact r2 x hx
end
end BK
namespace BK
section
variable {τ σ : Type} [DecidableEq τ] [DecidableEq σ] [BK σ]
theorem adj_app : ∀ {a b : List (Run τ σ)}, Adj (a ++ b) → Adj a ∧ Adj b
  | [], _, h => ⟨trivial, h⟩
  | [x], [], h => ⟨trivial, trivial⟩
  | [x], y :: b, h => ⟨trivial, h.2⟩
  | x :: y :: a, b, h => by
    have := adj_app (a := y :: a) (b := b) h.2
    exact ⟨⟨h.1, this.1⟩, this.2⟩
theorem adj_snoc : ∀ {a : List (Run τ σ)} {q p : Run τ σ}, Adj (a ++ [q] ++ [p]) → q.1 ≠ p.1
  | [], q, p, h => h.1
  | [x], q, p, h => h.2.1
  | x :: y :: a, q, p, h => adj_snoc (a := y :: a) h.2
theorem runsOf_flat : ∀ {rs : List (Run τ σ)}, Adj rs → (∀ p ∈ rs, p.2 ≠ []) → runsOf (flat rs) = rs
  | [], _, _ => rfl
  | (t, lot) :: rs, ha, hn => by
    have ih := runsOf_flat (rs := rs) (adj_app (a := [(t, lot)]) ha).2 fun p hp => hn p (List.mem_cons_of_mem _ hp)
    have hl : lot ≠ [] := hn _ (List.mem_cons_self ..)
    have hd : ∀ q r, rs = q :: r → t ≠ q.1 := fun q r e => by subst e; exact ha.1
    rw [flat_cons]
    clear hn ha
    induction lot with
    | nil => exact absurd rfl hl
    | cons s lot ih2 =>
      cases lot with
      | nil =>
        show runsOf ((t, s) :: flat rs) = _
        rw [runsOf, ih]
        cases rs with
        | nil => rfl
        | cons q r =>
          obtain ⟨t', l'⟩ := q
          have := hd _ _ rfl
          simp only [if_neg this]
      | cons s2 lot =>
        have := ih2 (by simp)
        show runsOf ((t, s) :: (((s2 :: lot).map fun s => (t, s)) ++ flat rs)) = _
        rw [runsOf, this]
        simp
structure RF (non : τ) (rs : List (Run τ σ)) : Prop where
  ne : ∀ p ∈ rs, p.2 ≠ []
  em : ∀ p ∈ rs, ∀ s ∈ p.2, s ≠ emp
  an : ∀ p ∈ rs, p.2.Pairwise (fun a b => le a b = false ∧ le b a = false)
  co : rs.Pairwise (fun p q => ∀ a ∈ p.2, ∀ b ∈ q.2, le a b = false)
  ad : Adj rs
  hd : rs.head?.map (·.1) ≠ some non
theorem rf_ro {non : τ} : ∀ {rr : List (Run τ σ)}, RF non rr.reverse → RO non rr
  | [], _ => trivial
  | p :: rr, h => by
    have e : (p :: rr).reverse = rr.reverse ++ [p] := by simp
    rw [e] at h
    have hp : p ∈ rr.reverse ++ [p] := by simp
    have hi : RF non rr → True := fun _ => trivial
    obtain ⟨c1, c2, c3⟩ := List.pairwise_append.mp h.co
    refine ⟨h.ne p hp, h.em p hp, h.an p hp, fun q hq a ha b hb => c3 q (by simpa using hq) p (by simp) a ha b hb, ?_, ?_⟩
    · cases rr with
      | nil =>
        have := h.hd
        simpa using this
      | cons q rr =>
        have := h.ad
        rw [List.reverse_cons] at this
        exact adj_snoc this
    · cases rr with
      | nil => trivial
      | cons q rr =>
        refine rf_ro ⟨fun p hp => h.ne p (List.mem_append_left _ hp), fun p hp => h.em p (List.mem_append_left _ hp), fun p hp => h.an p (List.mem_append_left _ hp), c1, (adj_app h.ad).1, ?_⟩
        have := h.hd
        rw [List.head?_append] at this
        cases e2 : (q :: rr).reverse with
        | nil => simp at e2
        | cons z zs => rw [e2] at this; simpa using this
theorem heard_runs (non : τ) (U : σ → Bool) (A : List (τ × σ)) : heardF U non A = hrR non U (runsOf A).reverse := by
  have := heardF_flatR non U (runsOf A).reverse
  rw [List.reverse_reverse, flat_runsOf] at this
  exact this
def PermR (A B : List (Run τ σ)) : Prop := A.length = B.length ∧ ∀ x ∈ A.zip B, x.1.1 = x.2.1 ∧ x.1.2.Perm x.2.2
theorem PermR.refl : ∀ A : List (Run τ σ), PermR A A
  | [] => ⟨rfl, fun x h => by cases h⟩
  | a :: A => ⟨rfl, fun x h => by
    rw [List.zip_cons_cons] at h
    rcases List.mem_cons.mp h with rfl | h
    · exact ⟨rfl, List.Perm.refl _⟩
    · exact (PermR.refl A).2 x h⟩
theorem rf_uniq {non : τ} {A B : List (τ × σ)} (ha : RF non (runsOf A)) (hb : RF non (runsOf B)) (h : Eqv non A B) : PermR (runsOf A).reverse (runsOf B).reverse := by
  refine ro_uniq (rf_ro (by rw [List.reverse_reverse]; exact ha)) (rf_ro (by rw [List.reverse_reverse]; exact hb)) fun U u => ?_
  rw [← heard_runs, ← heard_runs]
  exact h U u
theorem permR_eq {hle : σ → σ → Bool} (anti : ∀ a b, hle a b = true → hle b a = true → a = b) (ext : ∀ {l m : List σ}, l.Pairwise (fun a b => hle a b = true) → m.Pairwise (fun a b => hle a b = true) → l.Nodup → m.Nodup → (∀ x, x ∈ l ↔ x ∈ m) → l = m) :
    ∀ {A B : List (Run τ σ)}, PermR A B → (∀ p ∈ A, p.2.Pairwise (fun a b => hle a b = true)) → (∀ p ∈ B, p.2.Pairwise (fun a b => hle a b = true)) → (∀ p ∈ A, p.2.Nodup) → A = B
  | [], [], _, _, _, _ => rfl
  | [], _ :: _, h, _, _, _ => by have := h.1; simp at this
  | _ :: _, [], h, _, _, _ => by have := h.1; simp at this
  | p :: A, q :: B, h, ha, hb, hn => by
    have h0 := h.2 (p, q) (by simp)
    have e : p = q := by
      have n := hn p (List.mem_cons_self ..)
      exact Prod.ext h0.1 (ext (ha p (List.mem_cons_self ..)) (hb q (List.mem_cons_self ..)) n (h0.2.nodup_iff.mp n) fun x => h0.2.mem_iff)
    rw [e, permR_eq anti ext ⟨by have := h.1; simpa using this, fun x hx => h.2 x (by rw [List.zip_cons_cons]; exact List.mem_cons_of_mem _ hx)⟩ (fun p hp => ha p (List.mem_cons_of_mem _ hp)) (fun p hp => hb p (List.mem_cons_of_mem _ hp)) fun p hp => hn p (List.mem_cons_of_mem _ hp)]
structure Nf (non : τ) (hle : σ → σ → Bool) (A : List (τ × σ)) : Prop where
  rf : RF non (runsOf A)
  so : ∀ p ∈ runsOf A, p.2.Pairwise (fun a b => hle a b = true)
theorem nf_uniq {non : τ} {hle : σ → σ → Bool} (anti : ∀ a b, hle a b = true → hle b a = true → a = b) (ext : ∀ {l m : List σ}, l.Pairwise (fun a b => hle a b = true) → m.Pairwise (fun a b => hle a b = true) → l.Nodup → m.Nodup → (∀ x, x ∈ l ↔ x ∈ m) → l = m)
    {A B : List (τ × σ)} (ha : Nf non hle A) (hb : Nf non hle B) (h : Eqv non A B) : A = B := by
  have e := permR_eq anti ext (rf_uniq ha.rf hb.rf h) (fun p hp => ha.so p (List.mem_reverse.mp hp)) (fun p hp => hb.so p (List.mem_reverse.mp hp)) fun p hp => pw_nodup (ha.rf.an p (List.mem_reverse.mp hp))
  have e2 : runsOf A = runsOf B := List.reverse_inj.mp e
  rw [← flat_runsOf A, ← flat_runsOf B, e2]
def unc : List (τ × σ) → List (τ × σ)
  | [] => []
  | r :: rest => if decide (r.2 ≠ emp) && !(rest.any fun q => le r.2 q.2) then r :: unc rest else unc rest
theorem unc_heard {U : σ → Bool} (hU : Up U) : ∀ (rows : List (τ × σ)) (d : τ), heardF U d (unc rows) = heardF U d rows
  | [], _ => rfl
  | r :: rest, d => by
    rw [unc]
    split
    · rw [heardF_cons, heardF_cons, unc_heard hU rest]
    · rename_i h
      rw [unc_heard hU rest, heardF_cons]
      cases e : U r.2 with
      | false => simp
      | true =>
        have hne : r.2 ≠ emp := fun z => by rw [z, hU.ne] at e; cases e
        have : (rest.any fun q => le r.2 q.2) = true := by
          cases e2 : rest.any fun q => le r.2 q.2 with
          | true => rfl
          | false => exact absurd (by simp [hne, e2]) h
        obtain ⟨q, hq, hl⟩ := List.any_eq_true.mp this
        exact heardF_hit _ _ ⟨q, hq, hU.up _ _ hl e⟩
theorem unc_len : ∀ rows : List (τ × σ), (unc rows).length ≤ rows.length
  | [] => Nat.le_refl _
  | r :: rest => by
    rw [unc]
    have := unc_len rest
    split <;> simp <;> omega
theorem unc_eq : ∀ {rows : List (τ × σ)}, (unc rows).length = rows.length → unc rows = rows ∧ (∀ r ∈ rows, r.2 ≠ emp) ∧ rows.Pairwise (fun r q => le r.2 q.2 = false)
  | [], _ => ⟨rfl, fun _ h => (by cases h), .nil⟩
  | r :: rest, h => by
    rw [unc] at h ⊢
    split at h
    · rename_i hc
      simp only [Bool.and_eq_true, decide_eq_true_eq, Bool.not_eq_true'] at hc
      obtain ⟨e, h1, h2⟩ := unc_eq (rows := rest) (by simpa using h)
      rw [if_pos (by simp [hc.1, hc.2]), e]
      refine ⟨rfl, fun q hq => ?_, .cons (fun q hq => ?_) h2⟩
      · rcases List.mem_cons.mp hq with rfl | hq
        · exact hc.1
        · exact h1 q hq
      · have := List.any_eq_false.mp hc.2 q hq
        simpa using this
    · have := unc_len rest
      simp at h; omega
def thn (lot : List σ) : List σ := lot.filter fun one => !(lot.any fun other => decide (other ≠ one) && le one other)
theorem filter_lt {α : Type} {p q : α → Bool} : ∀ {l : List α}, (∀ x ∈ l, p x = true → q x = true) → (∃ x ∈ l, q x = true ∧ p x = false) → (l.filter p).length < (l.filter q).length
  | [], _, h => by obtain ⟨x, h, _⟩ := h; cases h
  | y :: l, h, k => by
    have sub : (l.filter p).length ≤ (l.filter q).length := by
      clear k
      have h' : ∀ x ∈ l, p x = true → q x = true := fun x hx => h x (List.mem_cons_of_mem _ hx)
      clear h
      induction l with
      | nil => exact Nat.le_refl _
      | cons z l ih =>
        have := ih fun x hx => h' x (List.mem_cons_of_mem _ hx)
        have hz := h' z (List.mem_cons_self ..)
        cases e1 : p z <;> cases e2 : q z <;> simp [List.filter_cons, e1, e2] <;> first | omega | (simp [e1, e2] at hz)
    obtain ⟨x, hx, hq, hp⟩ := k
    have hy := h y (List.mem_cons_self ..)
    rcases List.mem_cons.mp hx with rfl | hx
    · simp [List.filter_cons, hq, hp]; omega
    · have := filter_lt (fun x hx => h x (List.mem_cons_of_mem _ hx)) ⟨x, hx, hq, hp⟩
      cases e1 : p y <;> cases e2 : q y <;> simp [List.filter_cons, e1, e2] <;> first | omega | (simp [e1, e2] at hy)
theorem thn_above {lot : List σ} : ∀ (n : Nat) (s : σ), (lot.filter fun o => le s o).length ≤ n → s ∈ lot → ∃ m ∈ thn lot, le s m = true
  | 0, s, h, hs => by
    have : s ∈ lot.filter fun o => le s o := List.mem_filter.mpr ⟨hs, BK.refl s⟩
    have := List.length_pos_of_mem this
    omega
  | n + 1, s, h, hs => by
    cases e : lot.any fun other => decide (other ≠ s) && le s other with
    | false => exact ⟨s, List.mem_filter.mpr ⟨hs, by rw [e]; rfl⟩, BK.refl s⟩
    | true =>
      obtain ⟨o, ho, hc⟩ := List.any_eq_true.mp e
      simp only [Bool.and_eq_true, decide_eq_true_eq] at hc
      have lt : (lot.filter fun x => le o x).length < (lot.filter fun x => le s x).length := filter_lt (fun x _ hx => BK.trans _ _ _ hc.2 hx) ⟨s, hs, BK.refl s, by
        cases e2 : le o s with
        | false => rfl
        | true => exact absurd (BK.anti _ _ e2 hc.2) hc.1⟩
      obtain ⟨m, hm, hl⟩ := thn_above n o (by omega) ho
      exact ⟨m, hm, BK.trans _ _ _ hc.2 hl⟩
theorem thn_any {U : σ → Bool} (hU : Up U) (lot : List σ) : (thn lot).any U = lot.any U := by
  rw [Bool.eq_iff_iff, List.any_eq_true, List.any_eq_true]
  constructor
  · rintro ⟨x, hx, hu⟩; exact ⟨x, (List.mem_filter.mp hx).1, hu⟩
  · rintro ⟨x, hx, hu⟩
    obtain ⟨m, hm, hl⟩ := thn_above _ x (Nat.le_refl _) hx
    exact ⟨m, hm, hU.up _ _ hl hu⟩
def dropN (non : τ) : List (Run τ σ) → List (Run τ σ)
  | [] => []
  | p :: rs => if p.1 = non then rs else p :: rs
def hrF (U : σ → Bool) (d : τ) (rs : List (Run τ σ)) : τ := rs.foldl (fun acc p => if p.2.any U then p.1 else acc) d
theorem heardF_flat (U : σ → Bool) : ∀ (rs : List (Run τ σ)) (d : τ), heardF U d (flat rs) = hrF U d rs
  | [], _ => rfl
  | p :: rs, d => by
    rw [flat_cons, heardF_app, heardF_flat U rs, heardF_same (t := p.1) _ (by simp)]
    simp [hrF, List.any_map, Function.comp_def]
variable (srt : List σ → List σ)
def passR (non : τ) (rows : List (τ × σ)) : List (Run τ σ) := dropN non ((runsOf (unc rows)).map fun p => (p.1, srt (thn p.2)))
def pass (non : τ) (rows : List (τ × σ)) : List (τ × σ) := flat (passR srt non rows)
variable {srt}
variable (sp : ∀ l, (srt l).Perm l)
include sp
theorem dropN_heard {non : τ} {U : σ → Bool} (rs : List (Run τ σ)) : hrF U non (dropN non rs) = hrF U non rs := by
  cases rs with
  | nil => rfl
  | cons p rs =>
    rw [dropN]
    split
    · rename_i h; simp [hrF, h]
    · rfl
theorem pass_eqv (non : τ) (rows : List (τ × σ)) : Eqv non rows (pass srt non rows) := fun U hU => by
  rw [pass, heardF_flat, passR, dropN_heard sp, ← unc_heard hU rows]
  conv => lhs; rw [← flat_runsOf (unc rows)]
  rw [heardF_flat]
  generalize runsOf (unc rows) = rs
  generalize non = d
  induction rs generalizing d with
  | nil => rfl
  | cons p rs ih =>
    have : (srt (thn p.2)).any U = p.2.any U := by
      rw [← thn_any hU p.2, Bool.eq_iff_iff, List.any_eq_true, List.any_eq_true]
      exact ⟨fun ⟨x, hx, hu⟩ => ⟨x, (sp _).mem_iff.mp hx, hu⟩, fun ⟨x, hx, hu⟩ => ⟨x, (sp _).mem_iff.mpr hx, hu⟩⟩
    simp only [hrF, List.map_cons, List.foldl_cons, this]
    exact ih _
theorem thn_len (lot : List σ) : (srt (thn lot)).length ≤ lot.length := by rw [(sp _).length_eq]; exact List.length_filter_le ..
theorem flat_len (rs : List (Run τ σ)) : (flat rs).length = (rs.map fun p => p.2.length).sum := by
  induction rs with
  | nil => rfl
  | cons p rs ih => simp [ih]
theorem map_len : ∀ rs : List (Run τ σ), (flat (rs.map fun p => (p.1, srt (thn p.2)))).length ≤ (flat rs).length
  | [] => Nat.le_refl _
  | p :: rs => by
    have := map_len rs
    have := thn_len sp p.2
    simp; omega
theorem dropN_len {non : τ} (rs : List (Run τ σ)) : (flat (dropN non rs)).length ≤ (flat rs).length := by
  cases rs with
  | nil => exact Nat.le_refl _
  | cons p rs =>
    rw [dropN]
    split
    · simp
    · exact Nat.le_refl _
theorem pass_len (non : τ) (rows : List (τ × σ)) : (pass srt non rows).length ≤ rows.length := by
  have h1 := dropN_len sp (non := non) ((runsOf (unc rows)).map fun p => (p.1, srt (thn p.2)))
  have h2 := map_len sp (runsOf (unc rows))
  rw [flat_runsOf] at h2
  have h3 := unc_len rows
  unfold pass passR
  omega
theorem map_eq : ∀ {rs : List (Run τ σ)}, (flat (rs.map fun p => (p.1, srt (thn p.2)))).length = (flat rs).length → ∀ p ∈ rs, thn p.2 = p.2
  | [], _, _, h => by cases h
  | p :: rs, e, q, h => by
    have h1 := map_len sp rs
    have h2 := thn_len sp p.2
    simp at e
    rcases List.mem_cons.mp h with rfl | h
    · have : (thn q.2).length = q.2.length := by rw [← (sp _).length_eq]; omega
      exact List.filter_eq_self.mpr (List.length_filter_eq_length_iff.mp this)
    · exact map_eq (by omega) q h
theorem adj_map (f : List σ → List σ) : ∀ {rs : List (Run τ σ)}, Adj rs → Adj (rs.map fun p => (p.1, f p.2))
  | [], _ => trivial
  | [_], _ => trivial
  | a :: b :: r, h => ⟨h.1, adj_map f (rs := b :: r) h.2⟩
omit sp in
theorem mem_flat {rs : List (Run τ σ)} {p : Run τ σ} {s : σ} (hp : p ∈ rs) (hs : s ∈ p.2) : (p.1, s) ∈ flat rs := List.mem_flatMap.mpr ⟨p, hp, List.mem_map.mpr ⟨s, hs, rfl⟩⟩
omit sp in
theorem pw_flat : ∀ {rs : List (Run τ σ)} {R : σ → σ → Prop}, (flat rs).Pairwise (fun r q => R r.2 q.2) → rs.Pairwise (fun p q => ∀ a ∈ p.2, ∀ b ∈ q.2, R a b) ∧ ∀ p ∈ rs, p.2.Pairwise R
  | [], _, _ => ⟨.nil, fun _ h => by cases h⟩
  | p :: rs, R, h => by
    rw [flat_cons] at h
    obtain ⟨h1, h2, h3⟩ := List.pairwise_append.mp h
    obtain ⟨k1, k2⟩ := pw_flat h2
    refine ⟨.cons (fun q hq a ha b hb => h3 (p.1, a) (List.mem_map.mpr ⟨a, ha, rfl⟩) (q.1, b) (mem_flat hq hb)) k1, fun q hq => ?_⟩
    rcases List.mem_cons.mp hq with rfl | hq
    · have := List.pairwise_map.mp h1; exact this
    · exact k2 q hq
theorem pass_fix {non : τ} {hle : σ → σ → Bool} (so : ∀ l, (srt l).Pairwise (fun a b => hle a b = true)) {rows : List (τ × σ)} (h : (pass srt non rows).length = rows.length) : Nf non hle (pass srt non rows) := by
  have h1 := dropN_len sp (non := non) ((runsOf (unc rows)).map fun p => (p.1, srt (thn p.2)))
  have h2 := map_len sp (runsOf (unc rows))
  have h3 := unc_len rows
  rw [flat_runsOf] at h2
  unfold pass passR at h
  obtain ⟨e, em, pw⟩ := unc_eq (rows := rows) (by omega)
  have te := map_eq sp (rs := runsOf (unc rows)) (by rw [flat_runsOf]; omega)
  rw [e] at te
  have e3 : (runsOf rows).map (fun p => (p.1, srt (thn p.2))) = (runsOf rows).map fun p => (p.1, srt p.2) := List.map_congr_left fun p hp => by rw [te p hp]
  have hh : ∀ p rs, runsOf rows = p :: rs → p.1 ≠ non := fun p rs er hz => by
    have hn := runsOf_ne rows p (by rw [er]; simp)
    rw [e, e3, er] at h
    simp only [List.map_cons, dropN, hz, if_true] at h
    have g1 : (flat (rs.map fun p => (p.1, srt p.2))).length = (flat rs).length := by
      rw [flat_len sp, flat_len sp, List.map_map]
      congr 1
      exact List.map_congr_left fun q _ => (sp _).length_eq
    have g2 : (flat (p :: rs)).length = rows.length := by rw [← er, flat_runsOf]
    rw [flat_cons, List.length_append, List.length_map] at g2
    have : 0 < p.2.length := List.length_pos_iff.mpr hn
    omega
  have hp : passR srt non rows = (runsOf rows).map fun p => (p.1, srt p.2) := by
    unfold passR
    rw [e, e3]
    cases er : runsOf rows with
    | nil => rfl
    | cons p rs => simp only [List.map_cons, dropN, if_neg (hh p rs er)]
  have hr : runsOf (pass srt non rows) = (runsOf rows).map fun p => (p.1, srt p.2) := by
    unfold pass
    rw [hp]
    refine runsOf_flat (adj_map sp srt (runsOf_adj rows)) fun p hp => ?_
    obtain ⟨q, hq, rfl⟩ := List.mem_map.mp hp
    intro z
    have z' : srt q.2 = [] := z
    have := (sp q.2).length_eq
    rw [z'] at this
    exact runsOf_ne rows q hq (List.length_eq_zero_iff.mp this.symm)
  rw [← flat_runsOf rows] at pw em
  obtain ⟨w1, w2⟩ := pw_flat (R := fun a b => le a b = false) pw
  have th : ∀ p ∈ runsOf rows, p.2.Pairwise (fun a b => le a b = false ∧ le b a = false) := fun p hp => by
    have hw := w2 p hp
    have ht := te p hp
    have nd : p.2.Nodup := hw.imp fun h z => by subst z; exact not_le h (BK.refl _)
    refine (hw.and nd).imp_of_mem fun {a b} ha hb hh => ⟨hh.1, ?_⟩
    rw [← ht] at hb
    have := (List.mem_filter.mp hb).2
    rw [Bool.not_eq_true', List.any_eq_false] at this
    have := this a ha
    cases e5 : le b a with
    | false => rfl
    | true => exact absurd (by simp [e5, hh.2]) this
  refine ⟨?_, ?_⟩
  · rw [hr]
    refine ⟨fun p hp => ?_, fun p hp s hs => ?_, fun p hp => ?_, ?_, adj_map sp srt (runsOf_adj rows), ?_⟩
    · obtain ⟨q, hq, rfl⟩ := List.mem_map.mp hp
      intro z
      have z' : srt q.2 = [] := z
      have := (sp q.2).length_eq
      rw [z'] at this
      exact runsOf_ne rows q hq (List.length_eq_zero_iff.mp this.symm)
    · obtain ⟨q, hq, rfl⟩ := List.mem_map.mp hp
      exact em (q.1, s) (mem_flat hq ((sp _).mem_iff.mp hs))
    · obtain ⟨q, hq, rfl⟩ := List.mem_map.mp hp
      exact (sp q.2).symm.pairwise (th q hq) fun {a b} h => ⟨h.2, h.1⟩
    · rw [List.pairwise_map]
      exact w1.imp fun {p q} h a ha b hb => h a ((sp _).mem_iff.mp ha) b ((sp _).mem_iff.mp hb)
    · cases er : runsOf rows with
      | nil => simp
      | cons p rs => simpa using hh p rs er
  · rw [hr]
    intro p hp
    obtain ⟨q, hq, rfl⟩ := List.mem_map.mp hp
    exact so _
end
end BK
namespace BK
section
variable {τ σ : Type} [DecidableEq τ] [DecidableEq σ] [BK σ]
def redF (srt : List σ → List σ) (non : τ) : Nat → List (τ × σ) → List (τ × σ)
  | 0, rows => rows
  | n + 1, rows => if (pass srt non rows).length < rows.length then redF srt non n (pass srt non rows) else pass srt non rows
theorem redF_ok {srt : List σ → List σ} (sp : ∀ l, (srt l).Perm l) {non : τ} {hle : σ → σ → Bool} (so : ∀ l, (srt l).Pairwise (fun a b => hle a b = true)) : ∀ (n : Nat) (rows : List (τ × σ)), rows.length < n → Nf non hle (redF srt non n rows) ∧ Eqv non rows (redF srt non n rows) ∧ (redF srt non n rows).length ≤ rows.length
  | 0, _, h => by omega
  | n + 1, rows, h => by
    have h1 := pass_len sp non rows
    have h2 := pass_eqv sp non rows
    rw [redF]
    split
    · rename_i hl
      obtain ⟨k1, k2, k3⟩ := redF_ok sp so n (pass srt non rows) (by omega)
      exact ⟨k1, h2.trans k2, by omega⟩
    · rename_i hl
      exact ⟨pass_fix sp so (by omega), h2, h1⟩
def rb (pre : List (τ × σ)) (t : τ) : List (τ × σ) := pre.reverse.takeWhile fun r => decide (r.1 = t)
def ra (post : List (τ × σ)) (t : τ) : List (τ × σ) := post.takeWhile fun r => decide (r.1 = t)
def need (non : τ) (pre : List (τ × σ)) (r : τ × σ) (post : List (τ × σ)) : Bool :=
  decide (r.2 = emp) || post.any (fun q => le r.2 q.2) || ((decide ((rb pre r.1).length = pre.length) && decide (r.1 = non)) || ((rb pre r.1).any (fun q => le r.2 q.2) || (ra post r.1).any fun q => le r.2 q.2))
theorem takeWhile_all {α : Type} {p : α → Bool} : ∀ {l : List α}, (l.takeWhile p).length = l.length → ∀ x ∈ l, p x = true
  | [], _, _, h => by cases h
  | y :: l, h, x, hx => by
    rw [List.takeWhile_cons] at h
    split at h
    · rename_i hy
      rcases List.mem_cons.mp hx with rfl | hx
      · exact hy
      · exact takeWhile_all (by simpa using h) x hx
    · simp at h
theorem takeWhile_mem {α : Type} {p : α → Bool} : ∀ {l : List α} {x : α}, x ∈ l.takeWhile p → x ∈ l ∧ p x = true
  | [], _, h => by cases h
  | y :: l, x, h => by
    rw [List.takeWhile_cons] at h
    split at h
    · rename_i hy
      rcases List.mem_cons.mp h with rfl | h
      · exact ⟨List.mem_cons_self .., hy⟩
      · have := takeWhile_mem h; exact ⟨List.mem_cons_of_mem _ this.1, this.2⟩
    · cases h
theorem rb_split (pre : List (τ × σ)) (t : τ) : ∃ A, pre = A ++ (rb pre t).reverse := by
  refine ⟨(pre.reverse.dropWhile fun r => decide (r.1 = t)).reverse, ?_⟩
  have := List.takeWhile_append_dropWhile (p := fun r : τ × σ => decide (r.1 = t)) (l := pre.reverse)
  have h2 := congrArg List.reverse this
  rw [List.reverse_append, List.reverse_reverse] at h2
  exact h2.symm
theorem need_eqv {non : τ} {pre post : List (τ × σ)} {r : τ × σ} (h : need non pre r post = true) : Eqv non (pre ++ r :: post) (pre ++ post) := fun U hU => by
  rw [heardF_app, heardF_app, heardF_cons]
  cases e : U r.2 with
  | false => rfl
  | true =>
    simp only [if_true]
    simp only [need, Bool.or_eq_true, Bool.and_eq_true, decide_eq_true_eq] at h
    have hit : ∀ q ∈ post, le r.2 q.2 = true → heardF U r.1 post = heardF U (heardF U non pre) post := fun q hq hl => heardF_hit _ _ ⟨q, hq, hU.up _ _ hl e⟩
    rcases h with (h | h) | ⟨h, hn⟩ | h | h
    · rw [h, hU.ne] at e; cases e
    · obtain ⟨q, hq, hl⟩ := List.any_eq_true.mp h
      exact hit q hq hl
    · have : heardF U non pre = non := by
        rw [heardF_same (t := non) _ fun q hq => ?_]
        · split <;> rfl
        · have := takeWhile_all (p := fun q : τ × σ => decide (q.1 = r.1)) (l := pre.reverse) (by rw [List.length_reverse]; exact h) q (List.mem_reverse.mpr hq)
          rw [of_decide_eq_true this, hn]
      rw [this, hn]
    · obtain ⟨q, hq, hl⟩ := List.any_eq_true.mp h
      obtain ⟨A, eA⟩ := rb_split pre r.1
      have : heardF U non pre = r.1 := by
        conv => lhs; rw [eA]
        rw [heardF_app, heardF_same (t := r.1) _ fun z hz => ?_]
        · have : ((rb pre r.1).reverse.any fun r => U r.2) = true := List.any_eq_true.mpr ⟨q, List.mem_reverse.mpr hq, hU.up _ _ hl e⟩
          rw [this]; rfl
        · exact of_decide_eq_true (takeWhile_mem (List.mem_reverse.mp hz)).2
      rw [this]
    · obtain ⟨q, hq, hl⟩ := List.any_eq_true.mp h
      exact hit q (takeWhile_mem hq).1 hl
def needGo (non : τ) (pre : List (τ × σ)) : List (τ × σ) → Option Nat
  | [] => none
  | r :: post => if need non pre r post then some pre.length else needGo non (pre ++ [r]) post
theorem needGo_some {non : τ} : ∀ {rows pre : List (τ × σ)} {i : Nat}, needGo non pre rows = some i → i < (pre ++ rows).length ∧ Eqv non (pre ++ rows) ((pre ++ rows).eraseIdx i)
  | [], _, _, h => by cases h
  | r :: post, pre, i, h => by
    rw [needGo] at h
    split at h
    · rename_i hn
      cases h
      refine ⟨by simp, ?_⟩
      have : (pre ++ r :: post).eraseIdx pre.length = pre ++ post := by simp [List.eraseIdx_append_of_length_le]
      rw [this]
      exact need_eqv hn
    · have := needGo_some h
      simpa using this
def Red (non : τ) (rows : List (τ × σ)) : Prop := ∀ pre r post, rows = pre ++ r :: post → need non pre r post = false
theorem needGo_none {non : τ} : ∀ {rows pre : List (τ × σ)}, needGo non pre rows = none → ∀ a r post, rows = a ++ r :: post → need non (pre ++ a) r post = false
  | [], _, _, a, r, post, e => by cases a <;> cases e
  | r :: rest, pre, h, a, r', post, e => by
    rw [needGo] at h
    split at h
    · cases h
    · rename_i hn
      cases a with
      | nil => cases e; simpa using hn
      | cons x a =>
        cases e
        have := needGo_none h a r' post rfl
        simpa using this
theorem takeWhile_pre {α : Type} {p : α → Bool} {a b : List α} (h : ∀ x ∈ a, p x = true) : (a ++ b).takeWhile p = a ++ b.takeWhile p := by
  induction a with
  | nil => rfl
  | cons x a ih =>
    rw [List.cons_append, List.takeWhile_cons, h x (List.mem_cons_self ..), if_pos rfl, ih fun y hy => h y (List.mem_cons_of_mem _ hy)]; rfl
theorem red_rf {non : τ} {rows : List (τ × σ)} (h : Red non rows) : RF non (runsOf rows) := by
  have hf := flat_runsOf rows
  have em : ∀ r ∈ rows, r.2 ≠ emp := fun r hr => by
    obtain ⟨a, b, e⟩ := List.append_of_mem hr
    have := h a r b e
    intro z
    simp [need, z] at this
  have pw : rows.Pairwise (fun r q => le r.2 q.2 = false) := by
    suffices ∀ (b a : List (τ × σ)), rows = a ++ b → b.Pairwise (fun r q => le r.2 q.2 = false) from this rows [] rfl
    intro b
    induction b with
    | nil => intro a e; exact .nil
    | cons r b ih =>
      intro a e
      refine .cons (fun q hq => ?_) (ih (a ++ [r]) (by simp [e]))
      have := h a r b e
      simp only [need, Bool.or_eq_false_iff] at this
      have := List.any_eq_false.mp this.1.2 q hq
      simpa using this
  rw [← hf] at pw em
  obtain ⟨w1, w2⟩ := pw_flat (R := fun a b => le a b = false) pw
  refine ⟨runsOf_ne rows, fun p hp s hs => em (p.1, s) (mem_flat hp hs), fun p hp => ?_, w1, runsOf_adj rows, ?_⟩
  · -- within a run
    obtain ⟨A, B, e⟩ := List.append_of_mem hp
    suffices ∀ (b a : List σ), p.2 = a ++ b → b.Pairwise (fun x y => le x y = false ∧ le y x = false) from this p.2 [] rfl
    intro b
    induction b with
    | nil => intro a e; exact .nil
    | cons s b ih =>
      intro a ea
      refine .cons (fun y hy => ⟨?_, ?_⟩) (ih (a ++ [s]) (by simp [ea]))
      · have := w2 p hp
        rw [ea] at this
        exact (List.pairwise_cons.mp (List.pairwise_append.mp this).2.1).1 y hy
      · obtain ⟨c, d, ec⟩ := List.append_of_mem hy
        have er : rows = (flat A ++ (a.map fun s => (p.1, s)) ++ (p.1, s) :: (c.map fun s => (p.1, s))) ++ (p.1, y) :: ((d.map fun s => (p.1, s)) ++ flat B) := by
          rw [← hf, e, flat_app, flat_cons, ea, ec]
          simp
        have := h _ _ _ er
        simp only [need, Bool.or_eq_false_iff] at this
        have hm := List.any_eq_false.mp this.2.2.1 (p.1, s) (by
          unfold rb
          rw [List.reverse_append, List.reverse_cons, List.append_assoc, takeWhile_pre]
          · rw [List.singleton_append, List.takeWhile_cons]
            simp
          · intro x hx
            obtain ⟨z, _, rfl⟩ := List.mem_map.mp (List.mem_reverse.mp hx)
            simp)
        simpa using hm
  · cases er : runsOf rows with
    | nil => simp
    | cons p rs =>
      have hn := runsOf_ne rows p (by rw [er]; simp)
      cases ep : p.2 with
      | nil => exact absurd ep hn
      | cons s l =>
        have e2 : rows = [] ++ (p.1, s) :: ((l.map fun s => (p.1, s)) ++ flat rs) := by
          rw [← hf, er, flat_cons, ep]; rfl
        have := h _ _ _ e2
        simp only [need, Bool.or_eq_false_iff, Bool.and_eq_false_iff] at this
        have := this.2.1
        simp [rb] at this
        simpa using this
def lawF (non : τ) : Nat → List (τ × σ) → List (τ × σ)
  | 0, rows => rows
  | n + 1, rows => match needGo non [] rows with
    | none => rows
    | some i => lawF non n (rows.eraseIdx i)
theorem lawF_ok {non : τ} : ∀ (n : Nat) (rows : List (τ × σ)), rows.length < n → Red non (lawF non n rows) ∧ Eqv non rows (lawF non n rows)
  | 0, _, h => by omega
  | n + 1, rows, h => by
    rw [lawF]
    split
    · rename_i e
      refine ⟨fun pre r post er => ?_, Eqv.refl _ _⟩
      have := needGo_none e pre r post er
      simpa using this
    · rename_i i e
      obtain ⟨h1, h2⟩ := needGo_some e
      simp only [List.nil_append] at h1 h2
      have hl : (rows.eraseIdx i).length < n := by rw [List.length_eraseIdx_of_lt h1]; omega
      obtain ⟨k1, k2⟩ := lawF_ok n _ hl
      exact ⟨k1, h2.trans k2⟩
variable (hle : σ → σ → Bool)
def insR : List (τ × σ) → τ × σ → List (τ × σ)
  | [], r => [r]
  | q :: rest, r => if q.1 = r.1 ∧ hle q.2 r.2 = false then q :: insR rest r else r :: q :: rest
def insAll (rows : List (τ × σ)) : List (τ × σ) := (rows.foldl (insR hle) []).reverse
def insD : List σ → σ → List σ
  | [], s => [s]
  | x :: c, s => if hle x s = false then x :: insD c s else s :: x :: c
theorem insR_run {t : τ} {s : σ} {prev : List (τ × σ)} (hp : ∀ q r, prev = q :: r → q.1 ≠ t) : ∀ c : List σ, insR hle ((c.map fun s => (t, s)) ++ prev) (t, s) = ((insD hle c s).map fun s => (t, s)) ++ prev
  | [] => by
    cases prev with
    | nil => rfl
    | cons q r =>
      have := hp q r rfl
      simp [insR, insD, this]
  | x :: c => by
    have ih := insR_run (s := s) hp c
    simp only [List.map_cons, List.cons_append, insR, insD, true_and]
    split
    · rw [ih]; rfl
    · rfl
variable {hle}
theorem insD_perm : ∀ (c : List σ) (s : σ), (insD hle c s).Perm (s :: c)
  | [], s => List.Perm.refl _
  | x :: c, s => by
    rw [insD]
    split
    · exact ((insD_perm c s).cons x).trans (List.Perm.swap ..)
    · exact List.Perm.refl _
theorem insD_pw (tot : ∀ a b, hle a b = true ∨ hle b a = true) (tr : ∀ a b c, hle a b = true → hle b c = true → hle a c = true) : ∀ {c : List σ} {s : σ}, c.Pairwise (fun a b => hle b a = true) → (insD hle c s).Pairwise (fun a b => hle b a = true)
  | [], s, _ => List.pairwise_singleton _ _
  | x :: c, s, h => by
    obtain ⟨h1, h2⟩ := List.pairwise_cons.mp h
    rw [insD]
    split
    · rename_i hx
      refine .cons (fun y hy => ?_) (insD_pw tot tr h2)
      rcases List.mem_cons.mp ((insD_perm c s).mem_iff.mp hy) with rfl | hy
      · exact (tot x y).resolve_left (by rw [hx]; simp)
      · exact h1 y hy
    · rename_i hx
      have hx' : hle x s = true := by cases e : hle x s with
        | true => rfl
        | false => exact absurd e hx
      refine .cons (fun y hy => ?_) h
      rcases List.mem_cons.mp hy with rfl | hy
      · exact hx'
      · exact tr _ _ _ (h1 y hy) hx'
theorem insLot (tot : ∀ a b, hle a b = true ∨ hle b a = true) (tr : ∀ a b c, hle a b = true → hle b c = true → hle a c = true) {t : τ} {prev : List (τ × σ)} (hp : ∀ q r, prev = q :: r → q.1 ≠ t) : ∀ (lot c : List σ), c.Pairwise (fun a b => hle b a = true) →
    ∃ c' : List σ, (lot.map fun s => (t, s)).foldl (insR hle) ((c.map fun s => (t, s)) ++ prev) = (c'.map fun s => (t, s)) ++ prev ∧ c'.Pairwise (fun a b => hle b a = true) ∧ c'.Perm (lot ++ c)
  | [], c, h => ⟨c, rfl, h, List.Perm.refl _⟩
  | s :: lot, c, h => by
    obtain ⟨c', e, h1, h2⟩ := insLot tot tr hp lot (insD hle c s) (insD_pw tot tr h)
    refine ⟨c', ?_, h1, h2.trans (((insD_perm c s).append_left lot).trans List.perm_middle)⟩
    rw [List.map_cons, List.foldl_cons, insR_run hle hp, e]
theorem insAll_ok (tot : ∀ a b, hle a b = true ∨ hle b a = true) (tr : ∀ a b c, hle a b = true → hle b c = true → hle a c = true) (rows : List (τ × σ)) :
    ∃ rs : List (Run τ σ), insAll hle rows = flat rs ∧ rs.length = (runsOf rows).length ∧ (∀ x ∈ rs.zip (runsOf rows), x.1.1 = x.2.1 ∧ x.1.2.Perm x.2.2) ∧ ∀ p ∈ rs, p.2.Pairwise (fun a b => hle a b = true) := by
  suffices ∀ (rs : List (Run τ σ)) (prev : List (τ × σ)), Adj rs → (∀ q r p r', prev = q :: r → rs = p :: r' → q.1 ≠ p.1) → (∀ p ∈ rs, p.2 ≠ []) →
      ∃ rs' : List (Run τ σ), (flat rs).foldl (insR hle) prev = (flat rs').reverse ++ prev ∧ rs'.length = rs.length ∧ (∀ x ∈ rs'.zip rs, x.1.1 = x.2.1 ∧ x.1.2.Perm x.2.2) ∧ ∀ p ∈ rs', p.2.Pairwise (fun a b => hle a b = true) by
    obtain ⟨rs', e, h1, h2, h3⟩ := this (runsOf rows) [] (runsOf_adj rows) (fun _ _ _ _ h => by cases h) (runsOf_ne rows)
    refine ⟨rs', ?_, h1, h2, h3⟩
    unfold insAll
    rw [flat_runsOf] at e
    rw [e]; simp
  intro rs
  induction rs with
  | nil => intro prev _ _ _; exact ⟨[], rfl, rfl, fun _ h => (by cases h), fun _ h => (by cases h)⟩
  | cons p rs ih =>
    intro prev had hd hn
    obtain ⟨c', e, h1, h2⟩ := insLot tot tr (t := p.1) (prev := prev) (fun q r e => hd q r p rs e rfl) p.2 [] .nil
    rw [List.append_nil] at h2
    have hne : c' ≠ [] := fun z => by
      subst z
      exact hn p (List.mem_cons_self ..) (List.length_eq_zero_iff.mp h2.length_eq.symm)
    obtain ⟨rs', e', k1, k2, k3⟩ := ih ((c'.map fun s => (p.1, s)) ++ prev) (adj_app (a := [p]) had).2 (fun q r p' r' eq er => by
      cases c' with
      | nil => exact absurd rfl hne
      | cons x c' =>
        cases eq
        subst er
        exact had.1) fun q hq => hn q (List.mem_cons_of_mem _ hq)
    refine ⟨(p.1, c'.reverse) :: rs', ?_, by simp [k1], fun x hx => ?_, fun q hq => ?_⟩
    · rw [flat_cons, List.foldl_append]
      have e2 : (p.2.map fun s => (p.1, s)).foldl (insR hle) prev = (c'.map fun s => (p.1, s)) ++ prev := e
      rw [e2, e', flat_cons]
      simp
    · rw [List.zip_cons_cons] at hx
      rcases List.mem_cons.mp hx with rfl | hx
      · exact ⟨rfl, (List.reverse_perm _).trans h2⟩
      · exact k2 x hx
    · rcases List.mem_cons.mp hq with rfl | hq
      · exact List.pairwise_reverse.mpr h1
      · exact k3 q hq
theorem permR_cons {p q : Run τ σ} {A B : List (Run τ σ)} (h : PermR (p :: A) (q :: B)) : p.1 = q.1 ∧ p.2.Perm q.2 ∧ PermR A B := by
  have h0 := h.2 (p, q) (by simp)
  exact ⟨h0.1, h0.2, by have := h.1; simpa using this, fun x hx => h.2 x (by rw [List.zip_cons_cons]; exact List.mem_cons_of_mem _ hx)⟩
theorem permR_mem : ∀ {A B : List (Run τ σ)}, PermR A B → ∀ p ∈ A, ∃ q ∈ B, p.1 = q.1 ∧ p.2.Perm q.2
  | [], _, _, _, h => by cases h
  | _ :: _, [], h, _, _ => by have := h.1; simp at this
  | a :: A, b :: B, h, p, hp => by
    obtain ⟨h1, h2, h3⟩ := permR_cons h
    rcases List.mem_cons.mp hp with rfl | hp
    · exact ⟨b, List.mem_cons_self .., h1, h2⟩
    · obtain ⟨q, hq, k⟩ := permR_mem h3 p hp
      exact ⟨q, List.mem_cons_of_mem _ hq, k⟩
theorem permR_adj : ∀ {A B : List (Run τ σ)}, PermR A B → Adj B → Adj A
  | [], _, _, _ => trivial
  | [_], _, _, _ => trivial
  | _ :: _ :: _, [], h, _ => by have := h.1; simp at this
  | _ :: _ :: _, [_], h, _ => by have := h.1; simp at this
  | a :: a' :: A, b :: b' :: B, h, k => by
    obtain ⟨h1, h2, h3⟩ := permR_cons h
    obtain ⟨h4, _, _⟩ := permR_cons h3
    exact ⟨by rw [h1, h4]; exact k.1, permR_adj h3 k.2⟩
theorem permR_co : ∀ {A B : List (Run τ σ)}, PermR A B → B.Pairwise (fun p q => ∀ a ∈ p.2, ∀ b ∈ q.2, le a b = false) → A.Pairwise (fun p q => ∀ a ∈ p.2, ∀ b ∈ q.2, le a b = false)
  | [], _, _, _ => .nil
  | _ :: _, [], h, _ => by have := h.1; simp at this
  | a :: A, b :: B, h, k => by
    obtain ⟨h1, h2, h3⟩ := permR_cons h
    obtain ⟨k1, k2⟩ := List.pairwise_cons.mp k
    refine .cons (fun q hq x hx y hy => ?_) (permR_co h3 k2)
    obtain ⟨q', hq', _, hp'⟩ := permR_mem h3 q hq
    exact k1 q' hq' x (h2.mem_iff.mp hx) y (hp'.mem_iff.mp hy)
theorem rf_perm {non : τ} {A B : List (Run τ σ)} (h : PermR A B) (k : RF non B) : RF non A where
  ne p hp z := by
    obtain ⟨q, hq, _, hpq⟩ := permR_mem h p hp
    rw [z] at hpq
    exact k.ne q hq (List.length_eq_zero_iff.mp hpq.length_eq.symm)
  em p hp s hs := by
    obtain ⟨q, hq, _, hpq⟩ := permR_mem h p hp
    exact k.em q hq s (hpq.mem_iff.mp hs)
  an p hp := by
    obtain ⟨q, hq, _, hpq⟩ := permR_mem h p hp
    exact hpq.symm.pairwise (k.an q hq) fun {a b} h => ⟨h.2, h.1⟩
  co := permR_co h k.co
  ad := permR_adj h k.ad
  hd := by
    cases A with
    | nil => simp
    | cons a A =>
      cases B with
      | nil => have := h.1; simp at this
      | cons b B =>
        obtain ⟨h1, _, _⟩ := permR_cons h
        have := k.hd
        simp at this ⊢
        rw [h1]; exact this
theorem permR_hrF {U : σ → Bool} : ∀ {A B : List (Run τ σ)} (d : τ), PermR A B → hrF U d A = hrF U d B
  | [], [], _, _ => rfl
  | [], _ :: _, _, h => by have := h.1; simp at this
  | _ :: _, [], _, h => by have := h.1; simp at this
  | a :: A, b :: B, d, h => by
    obtain ⟨h1, h2, h3⟩ := permR_cons h
    have : a.2.any U = b.2.any U := by
      rw [Bool.eq_iff_iff, List.any_eq_true, List.any_eq_true]
      exact ⟨fun ⟨x, hx, hu⟩ => ⟨x, h2.mem_iff.mp hx, hu⟩, fun ⟨x, hx, hu⟩ => ⟨x, h2.mem_iff.mpr hx, hu⟩⟩
    show hrF U (if a.2.any U then a.1 else d) A = hrF U (if b.2.any U then b.1 else d) B
    rw [this, h1]
    exact permR_hrF _ h3
theorem ins_nf (tot : ∀ a b, hle a b = true ∨ hle b a = true) (tr : ∀ a b c, hle a b = true → hle b c = true → hle a c = true) {non : τ} {rows : List (τ × σ)} (h : RF non (runsOf rows)) : Nf non hle (insAll hle rows) ∧ Eqv non rows (insAll hle rows) := by
  obtain ⟨rs, e, h1, h2, h3⟩ := insAll_ok tot tr rows
  have pr : PermR rs (runsOf rows) := ⟨h1, h2⟩
  have rf := rf_perm pr h
  have er : runsOf (insAll hle rows) = rs := by rw [e]; exact runsOf_flat rf.ad rf.ne
  refine ⟨⟨by rw [er]; exact rf, by rw [er]; exact h3⟩, fun U hU => ?_⟩
  rw [e, heardF_flat, permR_hrF non pr, ← heardF_flat, flat_runsOf]
omit [DecidableEq σ] [BK σ] in
theorem adj_last : ∀ {a : List (Run τ σ)} {t : τ} {l l' : List σ}, Adj (a ++ [(t, l)]) → Adj (a ++ [(t, l')])
  | [], _, _, _, _ => trivial
  | [_], _, _, _, h => ⟨h.1, trivial⟩
  | x :: y :: a, t, l, l', h => ⟨h.1, adj_last (a := y :: a) h.2⟩
omit [DecidableEq σ] [BK σ] in
theorem adj_push : ∀ {a : List (Run τ σ)} {p q : Run τ σ}, Adj (a ++ [p]) → p.1 ≠ q.1 → Adj (a ++ [p] ++ [q])
  | [], _, _, _, n => ⟨n, trivial⟩
  | [_], _, _, h, n => ⟨h.1, n, trivial⟩
  | x :: y :: a, p, q, h, n => ⟨h.1, adj_push (a := y :: a) h.2 n⟩
theorem runsOf_same {pre : List (τ × σ)} {init : List (Run τ σ)} {t : τ} {lot : List σ} (h : runsOf pre = init ++ [(t, lot)]) (s : σ) : runsOf (pre ++ [(t, s)]) = init ++ [(t, lot ++ [s])] := by
  have e : pre ++ [(t, s)] = flat (init ++ [(t, lot ++ [s])]) := by
    rw [← flat_runsOf pre, h, flat_app, flat_app]; simp
  rw [e]
  refine runsOf_flat (adj_last (l := lot) (by rw [← h]; exact runsOf_adj pre)) fun p hp => ?_
  rcases List.mem_append.mp hp with hp | hp
  · exact runsOf_ne pre p (by rw [h]; exact List.mem_append_left _ hp)
  · rw [List.mem_singleton.mp hp]; simp
theorem runsOf_diff {pre : List (τ × σ)} {init : List (Run τ σ)} {p : Run τ σ} (h : runsOf pre = init ++ [p]) {t : τ} (n : p.1 ≠ t) (s : σ) : runsOf (pre ++ [(t, s)]) = init ++ [p] ++ [(t, [s])] := by
  have e : pre ++ [(t, s)] = flat (init ++ [p] ++ [(t, [s])]) := by
    rw [← flat_runsOf pre, h, flat_app (init ++ [p])]; simp
  rw [e]
  refine runsOf_flat (adj_push (by rw [← h]; exact runsOf_adj pre) n) fun q hq => ?_
  rcases List.mem_append.mp hq with hq | hq
  · exact runsOf_ne pre q (by rw [h]; exact hq)
  · rw [List.mem_singleton.mp hq]; simp
theorem runsOf_nil {pre : List (τ × σ)} (h : runsOf pre = []) : pre = [] := by rw [← flat_runsOf pre, h]; rfl
theorem runsOf_len (rows : List (τ × σ)) : (runsOf rows).length ≤ rows.length := by
  have : ∀ rs : List (Run τ σ), (∀ p ∈ rs, p.2 ≠ []) → rs.length ≤ (flat rs).length := by
    intro rs
    induction rs with
    | nil => intro _; exact Nat.le_refl _
    | cons p rs ih =>
      intro h
      have := ih fun q hq => h q (List.mem_cons_of_mem _ hq)
      have : 0 < p.2.length := List.length_pos_iff.mpr (h p (List.mem_cons_self ..))
      simp; omega
  have := this (runsOf rows) (runsOf_ne rows)
  rwa [flat_runsOf] at this
theorem runsOf_lot {rows : List (τ × σ)} {p : Run τ σ} (h : p ∈ runsOf rows) : p.2.length ≤ rows.length := by
  obtain ⟨a, b, e⟩ := List.append_of_mem h
  have := flat_runsOf rows
  rw [e, flat_app, flat_cons] at this
  rw [← this]; simp; omega
end
end BK
namespace DL
open PySem L2
section
variable {α : Type} {le : α → α → Bool}
theorem sorted_ext (anti : ∀ a b, le a b = true → le b a = true → a = b) : ∀ {l m : List α}, l.Pairwise (fun a b => le a b = true) → m.Pairwise (fun a b => le a b = true) → l.Nodup → m.Nodup → (∀ x, x ∈ l ↔ x ∈ m) → l = m
  | [], [], _, _, _, _, _ => rfl
  | [], b :: m, _, _, _, _, h => by have := (h b).mpr (List.mem_cons_self ..); cases this
  | a :: l, [], _, _, _, _, h => by have := (h a).mp (List.mem_cons_self ..); cases this
  | a :: l, b :: m, hl, hm, nl, nm, h => by
    have e : a = b := by
      rcases List.mem_cons.mp ((h a).mp (List.mem_cons_self ..)) with e | ha
      · exact e
      · rcases List.mem_cons.mp ((h b).mpr (List.mem_cons_self ..)) with e | hb
        · exact e.symm
        · exact anti _ _ ((List.pairwise_cons.mp hl).1 b hb) ((List.pairwise_cons.mp hm).1 a ha)
    subst e
    have hx : ∀ x, x ∈ l ↔ x ∈ m := fun x => by
      constructor
      · intro hx
        rcases List.mem_cons.mp ((h x).mp (List.mem_cons_of_mem _ hx)) with e | hx'
        · subst e; exact absurd hx (List.nodup_cons.mp nl).1
        · exact hx'
      · intro hx
        rcases List.mem_cons.mp ((h x).mpr (List.mem_cons_of_mem _ hx)) with e | hx'
        · subst e; exact absurd hx (List.nodup_cons.mp nm).1
        · exact hx'
    rw [sorted_ext anti (List.pairwise_cons.mp hl).2 (List.pairwise_cons.mp hm).2 (List.nodup_cons.mp nl).2 (List.nodup_cons.mp nm).2 hx]
end
def sLe (a b : Str) : Bool := leD (.str a) (.str b)
theorem leD_total : PySem.W.TotalLe leD := by
  have := PySem.W.sortLe_total (α := D) (PyProof.Rows.listOrd PyProof.Rows.itemOrd) false fun d => PySem.W.keyToks (d.py.getD .none)
  exact this
theorem leD_anti {a b : D} (h1 : leD a b = true) (h2 : leD b a = true) : PySem.W.keyToks (a.py.getD .none) = PySem.W.keyToks (b.py.getD .none) := by
  have h1' : (!PyProof.Rows.lexLt PyProof.Rows.itemOrd (PySem.W.keyToks (b.py.getD .none)) (PySem.W.keyToks (a.py.getD .none))) = true := h1
  have h2' : (!PyProof.Rows.lexLt PyProof.Rows.itemOrd (PySem.W.keyToks (a.py.getD .none)) (PySem.W.keyToks (b.py.getD .none))) = true := h2
  rw [Bool.not_eq_true'] at h1' h2'
  exact PyProof.Rows.lex_total _ _ h2' h1'
theorem sLe_total : PySem.W.TotalLe sLe := ⟨fun a b c => leD_total.trans _ _ _, fun a b => leD_total.total _ _⟩
theorem sLe_anti (a b : Str) (h1 : sLe a b = true) (h2 : sLe b a = true) : a = b := by
  have := leD_anti h1 h2
  simp only [D.py, Option.getD_some, PySem.W.keyToks, List.cons.injEq, and_true, Sum.inr.injEq] at this
  exact mkS_ext this
def srt (l : List Str) : List Str := l.mergeSort sLe
theorem srt_perm (l : List Str) : (srt l).Perm l := List.mergeSort_perm _ _
theorem srt_mem {l : List Str} {x : Str} : x ∈ srt l ↔ x ∈ l := (srt_perm l).mem_iff
theorem srt_pw (l : List Str) : (srt l).Pairwise (fun a b => sLe a b = true) := PySem.W.sort_pairwise sLe_total l
theorem srt_nodup {l : List Str} (h : l.Nodup) : (srt l).Nodup := (srt_perm l).nodup_iff.mpr h
structure HS where
  l : List Str
  so : l.Pairwise (fun a b => sLe a b = true)
  nd : l.Nodup
  ok : ∀ x ∈ l, okS x
theorem HS.ext' {a b : HS} (h : a.l = b.l) : a = b := by cases a; cases b; cases h; rfl
instance : DecidableEq HS := fun a b => if h : a.l = b.l then isTrue (HS.ext' h) else isFalse fun e => h (by rw [e])
theorem HS.inj {a b : HS} : a = b ↔ a.l = b.l := ⟨fun h => by rw [h], HS.ext'⟩
def HS.nil : HS := ⟨[], .nil, .nil, fun _ h => by cases h⟩
def HS.of (l : List Str) (nd : l.Nodup) (ok : ∀ x ∈ l, okS x) : HS := ⟨srt l, srt_pw l, srt_nodup nd, fun x hx => ok x (srt_mem.mp hx)⟩
instance : BK HS where
  le a b := a.l.all fun x => decide (x ∈ b.l)
  emp := .nil
  refl s := List.all_eq_true.mpr fun x hx => decide_eq_true hx
  trans a b c h k := List.all_eq_true.mpr fun x hx => by
    have h1 := of_decide_eq_true (List.all_eq_true.mp h x hx)
    exact List.all_eq_true.mp k x h1
  anti a b h k := HS.ext' (sorted_ext sLe_anti a.so b.so a.nd b.nd fun x => ⟨fun hx => of_decide_eq_true (List.all_eq_true.mp h x hx), fun hx => of_decide_eq_true (List.all_eq_true.mp k x hx)⟩)
  emp_le s := rfl
theorem le_def (a b : HS) : BK.le a b = a.l.all fun x => decide (x ∈ b.l) := rfl
theorem emp_def : (BK.emp : HS) = HS.nil := rfl
theorem hs_ne {a : HS} : a ≠ BK.emp ↔ a.l ≠ [] := by rw [emp_def, Ne, HS.inj]; rfl
inductive Th where
  | non | nm (s : Str) | later (s : Str)
deriving DecidableEq
instance : Dt Th where
  d | .non => .non
    | .nm s => .str s
    | .later s => .tup [.str "later", .str s]
  py | .non => .none
     | .nm s => .str s
     | .later s => .tuple [.str "later", .str s]
  ok | .non => True
     | .nm s => okS s
     | .later s => okS s
  dep := 1
  pyd a := by cases a <;> simp [D.py, pyAll]
  eqv a b := by cases a <;> cases b <;> simp [PyData.eqv, PyData.eqvAll, dec_beq]
  lay a h := by
    cases a with
    | non => simp [PyData.canLay0]
    | nm s => exact okS_lay h
    | later s =>
      have h1 : (PyData.str s).canLay0 = true := okS_lay h
      have h2 : (PyData.str "later").canLay0 = true := okS_lay (by unfold okS; decide)
      simp [PyData.canLay0, PyData.canLayAll0] at h1 h2 ⊢
      exact ⟨h2, h1⟩
  dle a := by cases a <;> simp [PyData.depth, PyData.depthAll]
theorem strs_eqv (a b : List Str) : PyData.eqvAll (a.map .str) (b.map .str) = decide (a = b) := eqvAll_map (α := Str) a b
instance : Dt HS where
  d s := .tup (s.l.map .str)
  py s := .tuple (s.l.map .str)
  ok _ := True
  dep := 1
  pyd s := by
    have := pyAll_dt (α := Str) s.l
    simp only [D.py]
    rw [show pyAll (s.l.map .str) = some (s.l.map .str) from this]
    rfl
  eqv a b := by
    simp only [PyData.eqv]
    rw [strs_eqv]
    exact decide_eq_decide.mpr HS.inj.symm
  lay s _ := by
    simp only [PyData.canLay0]
    exact layAll_map (α := Str) s.l s.ok
  dle s := by
    simp only [PyData.depth]
    have := depAll_map (α := Str) s.l
    exact Nat.succ_le_succ this
instance {α β : Type} [DecidableEq α] [DecidableEq β] [Dt α] [Dt β] : Dt (α × β) where
  d p := .tup [Dt.d p.1, Dt.d p.2]
  py p := .tuple [Dt.py p.1, Dt.py p.2]
  ok p := Dt.ok p.1 ∧ Dt.ok p.2
  dep := max (Dt.dep α) (Dt.dep β) + 1
  pyd p := by simp [D.py, pyAll, Dt.pyd]
  eqv p q := by
    simp only [PyData.eqv, PyData.eqvAll, Dt.eqv, Bool.and_true]
    rw [← Bool.decide_and]
    exact decide_eq_decide.mpr (by rw [Prod.ext_iff])
  lay p h := by simp [PyData.canLay0, PyData.canLayAll0, Dt.lay _ h.1, Dt.lay _ h.2]
  dle p := by
    simp only [PyData.depth, PyData.depthAll]
    have h1 := Dt.dle p.1
    have h2 := Dt.dle p.2
    omega
section
variable {α : Type} [DecidableEq α] [Dt α]
theorem pEq_dt {a b : α} (ha : Dt.ok a) (hb : Dt.ok b) (h : Dt.dep α ≤ 64 := by decide) : pEq (Dt.d a) (Dt.d b) = some (.bl (decide (a = b))) := by unfold pEq; rw [pEqB_dt ha hb h]; rfl
theorem pNe_dt {a b : α} (ha : Dt.ok a) (hb : Dt.ok b) (h : Dt.dep α ≤ 64 := by decide) : pNe (Dt.d a) (Dt.d b) = some (.bl (!decide (a = b))) := by unfold pNe; rw [pEqB_dt ha hb h]; rfl
theorem shaped_dt {a : α} (ha : Dt.ok a) (h : Dt.dep α ≤ 63) : SeqAt.shaped (Dt.py a) = true := by
  unfold SeqAt.shaped; rw [Dt.lay a ha]; simpa using Nat.le_trans (Dt.dle a) (by omega)
theorem any_eqv (a : α) : ∀ xs : List α, ((xs.map Dt.py).any fun z => PyData.eqv z (Dt.py a)) = decide (a ∈ xs)
  | [] => by simp
  | x :: xs => by
    rw [List.map_cons, List.any_cons, any_eqv a xs, Dt.eqv, Bool.eq_iff_iff, Bool.or_eq_true, decide_eq_true_eq, decide_eq_true_eq, decide_eq_true_eq, List.mem_cons, eq_comm]
theorem pInB_tupE (d : D) (ds : List D) : pInB d (.tup ds) = match d.py, pyAll ds with
    | some p, some ps => if SeqAt.shaped p = true ∧ SeqAt.shaped (.list ps) = true then some (ps.any fun z => PyData.eqv z p) else none
    | _, _ => none := by cases d <;> rfl
theorem pInB_lstE (d : D) (ds : List D) : pInB d (.lst ds) = match d.py, pyAll ds with
    | some p, some ps => if SeqAt.shaped p = true ∧ SeqAt.shaped (.list ps) = true then some (ps.any fun z => PyData.eqv z p) else none
    | _, _ => none := by cases d <;> rfl
theorem shaped_list {xs : List α} (hx : ∀ x ∈ xs, Dt.ok x) (h : Dt.dep α ≤ 63) : SeqAt.shaped (.list (xs.map Dt.py)) = true := by
  unfold SeqAt.shaped
  have l := layAll_map xs hx
  have dd := depAll_map (α := α) xs
  have e1 : (PyData.list (xs.map Dt.py)).canLay0 = true := by simp only [PyData.canLay0]; exact l
  have e2 : (PyData.list (xs.map Dt.py)).depth ≤ 64 := by simp only [PyData.depth]; exact Nat.le_trans (Nat.succ_le_succ dd) (by omega)
  rw [e1, decide_eq_true e2]; rfl
theorem pInB_tup {a : α} {xs : List α} (ha : Dt.ok a) (hx : ∀ x ∈ xs, Dt.ok x) (h : Dt.dep α ≤ 63 := by decide) : pInB (Dt.d a) (.tup (xs.map Dt.d)) = some (decide (a ∈ xs)) := by
  rw [pInB_tupE, Dt.pyd, pyAll_dt]
  simp only [shaped_dt ha h, shaped_list hx h, any_eqv, and_self, if_true]
theorem pInB_lst {a : α} {xs : List α} (ha : Dt.ok a) (hx : ∀ x ∈ xs, Dt.ok x) (h : Dt.dep α ≤ 63 := by decide) : pInB (Dt.d a) (.lst (xs.map Dt.d)) = some (decide (a ∈ xs)) := by
  rw [pInB_lstE, Dt.pyd, pyAll_dt]
  simp only [shaped_dt ha h, shaped_list hx h, any_eqv, and_self, if_true]
theorem pInX_tup {n : Bool} {a : α} {xs : List α} (ha : Dt.ok a) (hx : ∀ x ∈ xs, Dt.ok x) (h : Dt.dep α ≤ 63 := by decide) : pInX n (Dt.d a) (.tup (xs.map Dt.d)) = some (.bl (if n then !decide (a ∈ xs) else decide (a ∈ xs))) := by unfold pInX; rw [pInB_tup ha hx h]; rfl
theorem pInX_lst {n : Bool} {a : α} {xs : List α} (ha : Dt.ok a) (hx : ∀ x ∈ xs, Dt.ok x) (h : Dt.dep α ≤ 63 := by decide) : pInX n (Dt.d a) (.lst (xs.map Dt.d)) = some (.bl (if n then !decide (a ∈ xs) else decide (a ∈ xs))) := by unfold pInX; rw [pInB_lst ha hx h]; rfl
end
theorem py_strs (l : List Str) : pyAll (l.map .str) = some (l.map .str) := pyAll_dt (α := Str) l
theorem sortOk_strs (l : List Str) : sortOk (l.map .str) := by
  refine ⟨_, py_strs l, fun d hd d' hd' => ?_, .inr fun d hd => ?_, fun p hp => ?_⟩
  · obtain ⟨x, _, rfl⟩ := List.mem_map.mp hd
    obtain ⟨y, _, rfl⟩ := List.mem_map.mp hd'
    simp [PySem.W.alike]
  · obtain ⟨x, _, rfl⟩ := List.mem_map.mp hd
    exact ⟨by simp, fun _ => by simp⟩
  · obtain ⟨x, _, rfl⟩ := List.mem_map.mp hp
    simp [PyData.depth]
theorem sort_strs (l : List Str) : (l.map D.str).mergeSort leD = (srt l).map D.str := (PySem.W.sort_maps (r := sLe) (s := leD) D.str (fun _ _ _ _ => rfl)).symm
def hLe (a b : HS) : Bool := leD (Dt.d a) (Dt.d b)
theorem alike_strs : ∀ a b : List Str, PySem.W.alikeAll (a.map .str) (b.map .str) = true
  | [], _ => by simp [PySem.W.alikeAll]
  | _ :: _, [] => by simp [PySem.W.alikeAll]
  | x :: xs, y :: ys => by simp [PySem.W.alikeAll, PySem.W.alike, alike_strs xs ys]
theorem toks_strs : ∀ a b : List Str, PySem.W.keyToksAll (a.map .str) = PySem.W.keyToksAll (b.map .str) → a = b
  | [], [], _ => rfl
  | [], y :: ys, h => by simp [PySem.W.keyToksAll] at h
  | x :: xs, [], h => by simp [PySem.W.keyToksAll] at h
  | x :: xs, y :: ys, h => by
    simp only [List.map_cons, PySem.W.keyToksAll, PySem.W.keyToks, List.singleton_append, List.cons.injEq, Sum.inr.injEq, true_and] at h
    rw [mkS_ext h.1, toks_strs xs ys h.2]
theorem hLe_total : PySem.W.TotalLe hLe := ⟨fun a b c => leD_total.trans _ _ _, fun a b => leD_total.total _ _⟩
theorem hs_py (a : HS) : (Dt.d a : D).py = some (.tuple (a.l.map .str)) := Dt.pyd a
theorem hLe_anti (a b : HS) (h1 : hLe a b = true) (h2 : hLe b a = true) : a = b := by
  have := leD_anti h1 h2
  rw [hs_py, hs_py] at this
  simp only [Option.getD_some, PySem.W.keyToks] at this
  exact HS.ext' (toks_strs _ _ this)
def srtH (l : List HS) : List HS := l.mergeSort hLe
theorem srtH_perm (l : List HS) : (srtH l).Perm l := List.mergeSort_perm _ _
theorem srtH_pw (l : List HS) : (srtH l).Pairwise (fun a b => hLe a b = true) := PySem.W.sort_pairwise hLe_total l
theorem pyAll_hs (l : List HS) : pyAll (l.map Dt.d) = some (l.map Dt.py) := pyAll_dt l
theorem sortOk_hs {l : List HS} (hn : ∀ s ∈ l, s ≠ BK.emp) : sortOk (l.map Dt.d) := by
  refine ⟨_, pyAll_hs l, fun d hd d' hd' => ?_, .inl fun d hd => ?_, fun p hp => ?_⟩
  · obtain ⟨x, _, rfl⟩ := List.mem_map.mp hd
    obtain ⟨y, _, rfl⟩ := List.mem_map.mp hd'
    show PySem.W.alike (.tuple _) (.tuple _) = true
    simp [PySem.W.alike, alike_strs]
  · obtain ⟨x, hx, rfl⟩ := List.mem_map.mp hd
    have := hs_ne.mp (hn x hx)
    cases e : x.l with
    | nil => exact absurd e this
    | cons y ys =>
      refine ⟨.str y, ys.map .str, ?_⟩
      show PyData.tuple (x.l.map .str) = _
      rw [e]; rfl
  · obtain ⟨x, _, rfl⟩ := List.mem_map.mp hp
    exact Nat.le_trans (Dt.dle x) (by decide)
theorem sort_hs (l : List HS) : (l.map Dt.d).mergeSort leD = (srtH l).map Dt.d := (PySem.W.sort_maps (r := hLe) (s := leD) (Dt.d (α := HS)) (fun _ _ _ _ => rfl)).symm
theorem pGtX_hs (a b : HS) : pGtX (Dt.d a) (Dt.d b) = some (.bl (!hLe a b)) := by
  have h1 : pGtX (Dt.d a) (Dt.d b) = ordB (fun d e => PySem.W.dataLt e d) (Dt.d a) (Dt.d b) := rfl
  rw [h1]
  unfold ordB
  rw [hs_py, hs_py]
  have h2 : PySem.W.alike (.tuple (a.l.map .str)) (.tuple (b.l.map .str)) = true := by simp [PySem.W.alike, alike_strs]
  have h3 : (PyData.tuple (a.l.map .str)).depth ≤ 64 := Nat.le_trans (Dt.dle a) (by decide)
  simp only [h2, notNone, h3, and_self, if_true]
  congr 2
  show PySem.W.dataLt _ _ = (!(!PyProof.Rows.lexLt PyProof.Rows.itemOrd _ _))
  rw [Bool.not_not]
  dsimp only
  rw [hs_py, hs_py]
  rfl
@[simp] theorem seen_th (st : Store) (t : Th) : seen st (.val (Dt.d t)) = some (Dt.d t) := by cases t <;> rfl
@[simp] theorem seen_hs (st : Store) (t : HS) : seen st (.val (Dt.d t)) = some (Dt.d t) := rfl
@[simp] theorem len_hs (s : HS) : pLen (Dt.d s) = some (.int s.l.length) := by simp [Dt.d]
@[simp] theorem isNon_th (t : Th) : D.isNon (Dt.d t) = some (decide (t = .non)) := by cases t <;> rfl
end DL
namespace DL
open PySem L2
theorem whileD_ne {c : DEx} {b : DSx} {ρ : En} {st : Store} {r : Fl} (h : whileD c b ρ st = r) (hr : r ≠ .bad) : ∃ n, runW c b n ρ st = r := by
  unfold whileD at h
  split at h
  · exact ⟨_, h⟩
  · exact absurd h.symm hr
theorem whileD_false {c : DEx} {b : DSx} {ρ ρ' : En} {st st' : Store} (h : c ρ st = .ok (.bl false) ρ' st') : whileD c b ρ st = .nx ρ' st' := whileD_of (n := 1) (by simp only [runW, h]) (by simp)
theorem whileD_true {c : DEx} {b : DSx} {ρ ρ1 ρ2 : En} {st st1 st2 : Store} {r : Fl} (h : c ρ st = .ok (.bl true) ρ1 st1) (hb : b ρ1 st1 = .nx ρ2 st2) (hw : whileD c b ρ2 st2 = r) (hr : r ≠ .bad) : whileD c b ρ st = r := by
  obtain ⟨n, e⟩ := whileD_ne hw hr
  exact whileD_of (n := n + 1) (by simp only [runW, h, hb, e]) hr
theorem forD_pre {α : Type} {g : DGx} {b : DSx} (f : α → D) (I : List α → En → Store → Prop) : ∀ (post pre : List α) (ρ : En) (st : Store), I pre ρ st →
    (∀ p a q ρ st, pre ++ post = p ++ a :: q → I p ρ st → ∃ ρ1 ρ2 st2, g (f a) ρ = some ρ1 ∧ (b ρ1 st = .nx ρ2 st2 ∨ b ρ1 st = .ct ρ2 st2) ∧ I (p ++ [a]) ρ2 st2) → ∃ ρ' st', forD g b (post.map f) ρ st = .nx ρ' st' ∧ I (pre ++ post) ρ' st'
  | [], pre, ρ, st, h, _ => ⟨ρ, st, rfl, by simpa using h⟩
  | a :: post, pre, ρ, st, h, k => by
    obtain ⟨ρ1, ρ2, st2, h1, h2, h3⟩ := k pre a post ρ st rfl h
    obtain ⟨ρ', st', q1, q2⟩ := forD_pre f I post (pre ++ [a]) ρ2 st2 h3 (fun p a q ρ st e => k p a q ρ st (by simpa using e))
    refine ⟨ρ', st', ?_, by simpa using q2⟩
    rcases h2 with h2 | h2 <;> simp only [List.map_cons, forD, h1, h2, q1]
theorem enumItems_map {α : Type} (f : α → D) (xs : List α) : enumItems (xs.map f) = xs.zipIdx.map fun p => .tup [.int (p.2 : Int), f p.1] := by
  unfold enumItems
  rw [List.zipIdx_map, List.map_map]; rfl
@[simp] theorem pAny_map {α : Type} (l : List α) (f : α → Bool) : pAny (.lst (l.map fun x => .bl (f x))) = some (.bl (l.any f)) := by
  simp only [pAny, bools_map, Option.map_some]
  congr 2
  induction l with
  | nil => rfl
  | cons x xs ih => simp
theorem sz (n : Nat) (h : n ≤ 1000000) : n ≤ sizeLine := by rw [sizeLine_eq]; omega
theorem cutD_to (ds : List D) (k : Nat) : cutD ds none (some (k : Int)) = ds.take k := by
  unfold cutD
  rw [HT.sIx_none, HT.sIx_nat, List.drop_zero, Nat.sub_zero, List.take_eq_take_iff]; omega
theorem cutD_from (ds : List D) (k : Nat) : cutD ds (some (k : Int)) none = ds.drop k := by
  unfold cutD
  rw [HT.sIx_none, HT.sIx_nat]
  rw [List.take_of_length_le (by rw [List.length_drop]; omega)]
  by_cases h : k ≤ ds.length
  · rw [Nat.min_eq_left h]
  · rw [Nat.min_eq_right (by omega), List.drop_of_length_le (Nat.le_refl _), List.drop_of_length_le (by omega)]
theorem cutD_range (ds : List D) (i j : Nat) (h : i ≤ j) : cutD ds (some (i : Int)) (some (j : Int)) = (ds.take j).drop i := by
  unfold cutD
  rw [HT.sIx_nat, HT.sIx_nat, List.drop_take]
  by_cases hi : i ≤ ds.length
  · rw [Nat.min_eq_left hi, List.take_eq_take_iff, List.length_drop]; omega
  · rw [Nat.min_eq_right (by omega : ds.length ≤ i), List.drop_of_length_le (Nat.le_refl _), List.drop_of_length_le (by omega : ds.length ≤ i)]; simp
theorem set_self {α : Type} {st : List α} {l : Nat} {c : α} (h : st[l]? = some c) : st.set l c = st := by
  obtain ⟨h1, h2⟩ := List.getElem?_eq_some_iff.mp h
  rw [← h2, List.set_getElem_self]
abbrev Row := Th × HS
theorem row_d (r : Row) : (Dt.d r : D) = .tup [Dt.d r.1, .tup (r.2.l.map .str)] := rfl
@[simp] theorem atI_7 {α : Type} (xs : List α) : atI xs 7 = xs[7]? := DL.atI_nat xs 7
@[simp] theorem atI_8 {α : Type} (xs : List α) : atI xs 8 = xs[8]? := DL.atI_nat xs 8
@[simp] theorem atI_9 {α : Type} (xs : List α) : atI xs 9 = xs[9]? := DL.atI_nat xs 9
@[simp] theorem atI_10 {α : Type} (xs : List α) : atI xs 10 = xs[10]? := DL.atI_nat xs 10
@[simp] theorem atI_11 {α : Type} (xs : List α) : atI xs 11 = xs[11]? := DL.atI_nat xs 11
@[simp] theorem atI_12 {α : Type} (xs : List α) : atI xs 12 = xs[12]? := DL.atI_nat xs 12
@[simp] theorem atI_13 {α : Type} (xs : List α) : atI xs 13 = xs[13]? := DL.atI_nat xs 13
@[simp] theorem atI_14 {α : Type} (xs : List α) : atI xs 14 = xs[14]? := DL.atI_nat xs 14
@[simp] theorem atI_15 {α : Type} (xs : List α) : atI xs 15 = xs[15]? := DL.atI_nat xs 15
theorem set_mid {α : Type} (st ex : List α) (c c' : α) : (st ++ c :: ex).set st.length c' = st ++ c' :: ex := by
  rw [List.set_append_right _ _ (Nat.le_refl _)]; simp
theorem get_mid {α : Type} (st ex : List α) (c : α) : (st ++ c :: ex)[st.length]? = some c := by simp
end DL
namespace DL
open PySem L2
def tApp (n m : Nat) (t tk : TA) : TA := fun σ H Q => t σ H fun vs H1 => tk σ H1 fun zs H2 => vs.length = n ∧ zs.length = m ∧ Q (vs ++ zs) H2
section
variable {X : Cx} {CX : CXT} {k n : Nat} {f C : Addr} {fd : FuncData} {ps ks : List Str} {sp : Sp} {E : XK} {b : Low} {m : Str} {apos pos : Pos} {e o : Expr} {es : List Expr} {kws : List Keyword} {t tk : TA} {ta : TE}
theorem pe_methN {pl : Sem Bool} (he : PE X o ta) (c : Cls X.K C) (hm : Meth X.K C m f) (F : FnOk X.prog X.w X.K X.mg X.base CX k f fd ps sp) (hr : Room k X.A) (hb : KBn X.K fd ps (n + 1) ks (fun a b => a ++ b) (fun a b => a ++ b)) (hx : Passes CX X E) (ha : PA X (e :: es) t) (hkw : PK X kws tk)
    (hall : (backToKw pos (keywordEach kws X.env)).all (·.1.isSome) = true := by rfl) (hks : (backToKw pos (keywordEach kws X.env)).filterMap (·.1) = ks := by rfl)
    (hst : starEach (e :: es) X.env = (false, eval e X.env) :: starEach es X.env := by rfl) (hpl : ((backTo pos (starEach (e :: es) X.env)).any (·.1) || (backToKw pos (keywordEach kws X.env)).any (·.1.isNone)) = false := by rfl)
    (ht : eval (.Call (.Attribute o m apos) (e :: es) kws pos) X.env = (do
      let ov ← eval o X.env
      standAt apos.atName
      let (f, first) ← holding [ov] (getMethod ov m pl)
      callWith pos f first (backTo pos (starEach (e :: es) X.env)) (backToKw pos (keywordEach kws X.env))) := by rfl) :
    PE X (.Call (.Attribute o m apos) (e :: es) kws pos) (tMeth C m sp [] E ta (tApp n ks.length t tk)) := by
  refine ⟨fun pins s σ H Q I h => ?_⟩
  refine PySem.W.methodCall_KW (pl := pl) (thn (he.run pins s σ H _ I h) fun u s1 ⟨x, H1, I1, rx, a, dx, fs, ex, ea, l, q⟩ => ?_) ht
  subst ex
  obtain rfl : u = Value.ref a := rx
  refine getmeth_ok I1 ea c hm l ?_
  refine PySem.W.callWith_KW (first := [.ref a]) (h₀ := X.base) I.ok.mod.kin hm.kp hall (thn (ha.run pos pins s1 σ H1 _ I1 q) fun us s2 ⟨vs, H2, I2, r, q2⟩ => ?_) hpl hst
  refine thn (hkw.run pos pins s2 σ H2 _ I2 q2) fun ws s3 ⟨zs, H3, I3, rz, l1, l2, q3⟩ => ⟨I3.kIn, ?_⟩
  rw [hks]
  refine run_fnN (us := .ref a :: us) (vs := .ref a :: vs) F hr hb hx I3 (.cons rfl r) rz (by simp [l1]) l2 ?_
  have e : ((V.ref a :: vs) ++ zs) = V.ref a :: (vs ++ zs ++ []) := by simp
  show sp ((V.ref a :: vs) ++ zs) H3 Q E
  rw [e]
  exact q3
end
def DK (X : Cx) (W : WB) (kws : List Keyword) (f : DEx) : Prop := (∃ t, PK X kws t ∧ RefA X.K (MGx X W.b) W t f) ∧ ∀ ρ st d ρ' st', f ρ st = .ok d ρ' st' → ∃ ds, d = .tup ds ∧ ds.length = kws.length
section
variable {X : Cx} {W : WB} {e : Expr} {kws : List Keyword} {f g : DEx} {nm : Option Str} {kpos : Pos}
end
@[simp] def aApp (f g : DEx) (ρ : En) (st : Store) : R := (f ρ st).bind fun d ρ st => match d with
  | .tup xs => (g ρ st).bind fun d ρ st => (match d with
    | .tup ys => .ok (.tup (xs ++ ys)) ρ st
    | _ => .bad)
  | _ => .bad
theorem refA_app {K : PySem.W.Frag} {mg : MG} {W : WB} {t tk : TA} {f g : DEx} {n m : Nat} (hf : RefA K mg W t f) (hg : RefA K mg W tk g) (lf : ∀ ρ st d ρ' st', f ρ st = .ok d ρ' st' → ∃ ds, d = .tup ds ∧ ds.length = n) (lg : ∀ ρ st d ρ' st', g ρ st = .ok d ρ' st' → ∃ ds, d = .tup ds ∧ ds.length = m) : RefA K mg W (tApp n m t tk) (aApp f g) := fun w Q s q => by
  refine hf.bind (P := OkA K mg W w Q) s q (fun d ρ st n => by cases d <;> first | rfl | exact absurd rfl (n _)) (fun _ _ _ z => z) (fun z => z) fun w1 vs ds e1 a1 r1 f1 q1 => ?_
  show tk w.σ w1.H _
  rw [← e1]
  refine hg.bind (P := OkA K mg W w1 Q) a1.s (q1.aft a1 e1) (fun d ρ st n => by cases d <;> first | rfl | exact absurd rfl (n _)) (fun _ _ _ z => z) (fun z => z) fun w2 us es e2 a2 r2 f2 q2 => ?_
  obtain ⟨d1, h1, l1⟩ := lf _ _ _ _ _ f1
  obtain ⟨d2, h2, l2⟩ := lg _ _ _ _ _ f2
  cases h1; cases h2
  exact ⟨by rw [r1.len]; exact l1, by rw [r2.len]; exact l2, q2 w2 (vs ++ us) rfl rfl e2 a2 ((r1.mono a2.g a2.i).append r2)⟩
def MKal (P : Program) (w : World) (K : PySem.W.Frag) (mg : Str → Option Value) (base : Heap) (k : Nat) (c m : Str) (j n : Nat) (ks : List Str) (den : Den) : Prop :=
  ∃ C f fd ps, mg c = some (.ref C) ∧ Cls K C ∧ Meth K C m f ∧ FnOk P w K mg base (L2N.CX P w) k f fd ps (spD K mg j den) ∧ KBn K fd ps (n + 1) ks (fun a b => a ++ b) (fun a b => a ++ b)
theorem MKal.call {X : Cx} {E : XK} {b : Low} {k k' j n : Nat} {ks : List Str} {den : Den} {c m : Str} {o e : Expr} {es : List Expr} {kws : List Keyword} {g fa fk : DEx} {apos pos : Pos} {pl : Sem Bool} (M : MKal X.prog X.w X.K X.mg X.base k c m j n ks den) (hr : Room k' X.A) (hk : k ≤ k') (tk : L2N.Takes X (WEb b E)) (ho : DE X (WEb b E) o g) (ha : DAn X (WEb b E) (e :: es) fa) (hw : DK X (WEb b E) kws fk)
    (hn : (e :: es).length = n := by rfl) (hkl : kws.length = ks.length := by rfl) (hj : n + ks.length + 1 = j := by rfl)
    (hall : (backToKw pos (keywordEach kws X.env)).all (·.1.isSome) = true := by rfl) (hks : (backToKw pos (keywordEach kws X.env)).filterMap (·.1) = ks := by rfl)
    (hst : starEach (e :: es) X.env = (false, eval e X.env) :: starEach es X.env := by rfl) (hpl : ((backTo pos (starEach (e :: es) X.env)).any (·.1) || (backToKw pos (keywordEach kws X.env)).any (·.1.isNone)) = false := by rfl)
    (ht : eval (.Call (.Attribute o m apos) (e :: es) kws pos) X.env = (do let ov ← eval o X.env; standAt apos.atName; let (f, first) ← holding [ov] (getMethod ov m pl); callWith pos f first (backTo pos (starEach (e :: es) X.env)) (backToKw pos (keywordEach kws X.env))) := by rfl) :
    DE X (WEb b E) (.Call (.Attribute o m apos) (e :: es) kws pos) (methD c m den [] g (aApp fa fk)) := by
  obtain ⟨C, f, fd, ps, hm, hC, hM, F, hB⟩ := M
  obtain ⟨to, po, ro⟩ := ho
  obtain ⟨⟨ta, pa, ra⟩, hl⟩ := ha
  obtain ⟨⟨tw, pw, rw'⟩, hl2⟩ := hw
  subst hn
  refine ⟨_, pe_methN (pl := pl) po hC hM F (hr.mono hk) hB (passes_const tk) pa pw hall hks hst hpl ht, ref_meth hm (fun _ _ => .nil) ro (refA_app ra rw' hl (fun ρ st d ρ' st' h => by rw [← hkl]; exact hl2 _ _ _ _ _ h)) fun ρ st d ρ' st' h => ?_⟩
  unfold aApp at h
  cases h1 : fa ρ st with
  | ok d1 ρ1 st1 =>
    obtain ⟨d1', rfl, l1⟩ := hl _ _ _ _ _ h1
    rw [h1] at h
    simp only [R.bind] at h
    cases h2 : fk ρ1 st1 with
    | ok d2 ρ2 st2 =>
      obtain ⟨d2', rfl, l2⟩ := hl2 _ _ _ _ _ h2
      rw [h2] at h
      simp only [R.bind] at h
      cases h
      exact ⟨_, rfl, by rw [List.length_append, l1, l2, hkl]; simpa using hj⟩
    | exc c ρ2 st2 => rw [h2] at h; cases h
    | bad => rw [h2] at h; cases h
  | exc c ρ2 st2 => rw [h1] at h; cases h
  | bad => rw [h1] at h; cases h
end DL
namespace DL
open PySem L2
def Mfk (K : PySem.W.Frag) (mg : Str → Option Value) (c m qual : Str) (ps : List Str) (st : Stmt) (n : Nat) (ks : List Str) : Prop := ∃ C f fd, mg c = some (.ref C) ∧ Cls K C ∧ Meth K C m f ∧ FunV K m qual st f fd ∧ KBn K fd ps (n + 1) ks (fun a b => a ++ b) (fun a b => a ++ b)
theorem MKal.of {P : Program} {wd : World} {K : PySem.W.Frag} {mg : Str → Option Value} {base : Heap} {c m qual : Str} {st : Stmt} {N ps ks : List Str} {k n j i : Nat} {g : DSx} (M : Mfk K mg c m qual ps st i ks) (S : FnScope N ps (defScope st)) (hn : n = N.length) (hj : j = ps.length)
    (hb : ∀ (f : Addr) (cdv : Value) (A : Around) (outer : List Env) (s : Shared) (H : Hp) (E : XK), Room k (A.deeper (PyProof.Rows.envOfC qual (defScope st) s.heap.objs.size f cdv)) →
      DSs (cxOf (L2N.CX P wd) P wd K mg base N qual (defScope st) f cdv A outer s H E) (WEx E) (defBody st) g) : MKal P wd K mg base (k + 1) c m j i ks (runD n g) := by
  obtain ⟨C, f, fd, h1, h2, h3, h4, h5⟩ := M
  subst hj
  exact ⟨C, f, fd, ps, h1, h2, h3, fn_D h4 S hn (hb f), h5⟩
end DL
namespace DL
open PySem L2 NdefX LamX PyProof.Rows
def spB (K : PySem.W.Frag) (mg : Str → Option Value) (b : Low) (n : Nat) (dn : Den) : Sp := fun vs H Q E => vs.length = n ∧
  ∃ (w : Ws) (ds : List D), w.ρ = [] ∧ w.σ = [] ∧ w.H = H ∧ Sts K ⟨mg, b⟩ w ∧ Reps K ⟨mg, b⟩ w.G w.ι vs ds ∧ OkR K ⟨mg, b⟩ (WEb b E) w Q (dn ds w.st)
structure CloX (Y : Cx) (k n : Nat) (b : Low) (dn : Den) : Prop where
  at_ : ∀ (f : Addr), b.fn = some f → ∀ (pins : List (Addr × Obj)) (σ : L2.St) (s : Shared) (w : Ws), Inv Y pins σ w.H s → Sts Y.K ⟨Y.mg, b⟩ w → PySem.W.FnAt f s.heap
  run : ∀ (f : Addr), b.fn = some f → ∀ (pins : List (Addr × Obj)) (σ : L2.St) (H : Hp) (s : Shared) (us : List Value) (vs : List V) (Q : VK) (E : XK), Inv Y pins σ H s → Room k Y.A → Vals vs us → spB Y.K Y.mg b n dn vs H Q E →
    codeAny (model Y.prog Y.w) Y.A (.call (.ref f) ⟨us, []⟩) (CR (L2N.CX Y.prog Y.w) Y.stack Y.prog Y.w H s Q E) s
section
variable {X : Cx} {k j n i : Nat} {b : Low} {dn : Den} {W : WX} {x : Str} {t : TA} {e : Expr} {es : List Expr} {p pos : Pos}
theorem clo_ends {pins : List (Addr × Obj)} {σ : L2.St} {H : Hp} {s : Shared} {Q : VK} {f : Addr} {us : List Value} (tk : L2N.Takes X W) (I : Inv X pins σ H s)
    (c : codeAny (model X.prog X.w) X.A (.call (.ref f) ⟨us, []⟩) (CR (L2N.CX X.prog X.w) X.stack X.prog X.w H s Q (WE W σ)) s) : wpAny (model X.prog X.w) X.A (call (.ref f) us) (EP X pins σ Q) X.xe s := by
  refine wpAny_call (codeAny_mono c fun r s' z => ?_)
  cases r with
  | error u => exact L2N.passAt tk σ pins H s u s' I z
  | ok o =>
    cases o with
    | ret u => exact I.after z
    | _ => exact False.elim z
end
section
variable {X : Cx} {W : WB} {k j n i : Nat} {dn : Den} {x : Str} {e : Expr} {es : List Expr} {fa : DEx} {p pos : Pos}
end
end DL
namespace DL
open PySem L2 NdefX LamX PyProof.Rows
structure RecD (P : Program) (wd : World) (K : PySem.W.Frag) (mg : Str → Option Value) (base : Heap) (k kc m : Nat) (x : Str) (st : Stmt) (N ps : List Str) (gb : Den → DSx) (f : Addr) (fd : FuncData) : Prop where
  fn : FunV K x x st f fd
  kp : PySem.W.keepIn K (.ref f) = true
  at_ : mg x = some (.ref f)
  bi : Binds K fd ps []
  sc : FnScope N ps (defScope st)
  body : ∀ (b : Low) (dn : Den) (cdv : Value) (A : Around) (outer : List Env) (s : Shared) (H : Hp) (E : XK), b.ex = none → Room k (A.deeper (envOfC x (defScope st) s.heap.objs.size f cdv)) →
    (∀ pn xe, CloX ((cxOf (L2N.CX P wd) P wd K mg base N x (defScope st) f cdv A outer s H E).tr pn xe) kc m b dn) → DSs (cxOf (L2N.CX P wd) P wd K mg base N x (defScope st) f cdv A outer s H E) (WEb b E) (defBody st) (gb dn)
end DL
namespace DL
open PySem L2 NdefX LamX PyProof.Rows
section
variable {X : Cx} {pins : List (Addr × Obj)} {σ : L2.St} {H : Hp} {s : Shared}
end
end DL
namespace DL
open PySem L2 NdefX LamX PyProof.Rows
def tSem (X : Cx) (W : WX) (g : Addr) (t : TA) : TE := fun σ H Q => t σ H fun vs H1 => ∀ (pins : List (Addr × Obj)) (s : Shared) (us : List Value), Inv X pins σ H1 s → Vals vs us → codeAny (model X.prog X.w) X.A (.call (.ref g) ⟨us, []⟩) (CR (L2N.CX X.prog X.w) X.stack X.prog X.w H1 s Q (WE W σ)) s
theorem pe_sem {X : Cx} {W : WX} {g : Addr} {x : Str} {t : TA} {e : Expr} {es : List Expr} {p pos : Pos} (hg : Gl X x) (hm : X.mg x = some (.ref g)) (hk : PySem.W.keepIn X.K (.ref g) = true) (tk : L2N.Takes X W) (ha : PA X (e :: es) t)
    (hdb : (x == ("__debug__" : Str)) = false := by decide) (he : starEach (e :: es) X.env = (false, eval e X.env) :: starEach es X.env := by rfl) (hpl : (backTo pos (starEach es X.env)).any (·.1) = false := by rfl) : PE X (.Call (.Name x p) (e :: es) [] pos) (tSem X W g t) := by
  refine ⟨fun pins s σ H Q I z => ?_⟩
  refine wpAny_Call_Name_kw (ld_glob I hg hm ?_ hdb)
  have A := ha.run pos pins s σ H _ I z
  exact PySem.W.callWith_K (h₀ := X.base) I.ok.mod.kin hk (thn A fun us s1 ⟨vs, H1, I1, r, q⟩ => ⟨I1.kIn, clo_ends tk I1 (q pins s1 us I1 r)⟩) he hpl
end DL
namespace DL
open PySem L2 NdefX LamX PyProof.Rows
structure TabAt (X : Cx) (q : Str) (c P : Addr) : Prop where
  tb : TabB X.base X.mg c P
  code : X.env.code = .ref c
  hd : PySem.W.codeHdIn X.K c P = true
  fn : ∃ (f : Addr) (fd : FuncData) (oc : Value) (od : Option Addr) (osl : Array (Option Value)), X.mg q = some (.ref f) ∧ X.K.lookup f = some ⟨oc, od, .func fd, osl⟩ ∧ fd.code = .ref c
end DL
namespace DL
open PySem L2 NdefX LamX PyProof.Rows
@[simp] def keepS : Sl → Sl
  | .val d => .val d
  | _ => .no
theorem Sts.kept {K : PySem.W.Frag} {mg : Str → Option Value} {b0 : Low} {f : Option Addr} {w w' : Ws} (s : Sts K ⟨mg, b0⟩ w) (s' : Sts K ⟨mg, ⟨w.G, w.ι, f, none⟩⟩ w') : Sts K ⟨mg, ⟨w.G, w.ι, f, none⟩⟩ { w' with ρ := w.ρ.map keepS, σ := w.σ } where
  lowG := s'.lowG
  lowI := s'.lowI
  sub := s'.sub
  ln := by simp [s.ln]
  len := s'.len
  cel := s'.cel
  inj := s'.inj
  slo := fun i x h => by
    have h' : (w.ρ.map keepS)[i]? = some x := h
    rw [List.getElem?_map] at h'
    cases e : w.ρ[i]? with
    | none => rw [e] at h'; cases h'
    | some y =>
      rw [e] at h'
      cases h'
      have z := s.slo i y e
      cases y with
      | val d => obtain ⟨v, e1, r⟩ := z; exact ⟨v, e1, (r.reb _ _).mono s'.lowG s'.lowI⟩
      | _ => trivial
  sep := fun i l a ⟨es, h, _⟩ _ => by
    have h' : (w.ρ.map keepS)[i]? = some (.ml es) := h
    rw [List.getElem?_map] at h'
    cases e : w.ρ[i]? with
    | none => rw [e] at h'; cases h'
    | some y => rw [e] at h'; cases y <;> cases h'
  dis := fun i j a ⟨es, h, _⟩ _ => by
    have h' : (w.ρ.map keepS)[i]? = some (.ml es) := h
    rw [List.getElem?_map] at h'
    cases e : w.ρ[i]? with
    | none => rw [e] at h'; cases h'
    | some y => rw [e] at h'; cases y <;> cases h'
section
variable {X : Cx} {pins : List (Addr × Obj)} {s : Shared} {w : Ws}
end
end DL
namespace DL
open PySem L2
def OkOd (K : PySem.W.Frag) (mg : MG) (W : WB) (w : Ws) (Q : VK) : R → Prop
  | .ok (.dct ds) ρ st => ∀ (w' : Ws) (a : Addr) (vs : List (Key × V)), w'.ρ = ρ → w'.st = st → w'.σ = w.σ → Aft K mg w w' → w.H a = none → Loose w' a → w'.H a = some (.dK vs) → RepK K mg w'.G w'.ι vs ds → Q (.ref a) w'.H
  | .ok _ _ _ => False
  | .exc c ρ st => ∀ (w' : Ws) (cls : Value) (dx : Option Addr), w'.ρ = ρ → w'.st = st → w'.σ = w.σ → Aft K mg w w' → ExcAt K mg w' c cls dx → W cls dx w'.σ w'.H
  | .bad => False
def RefOd (K : PySem.W.Frag) (mg : MG) (W : WB) (t : TE) (f : DEx) : Prop := ∀ (w : Ws) (Q : VK), Sts K mg w → OkOd K mg W w Q (f w.ρ w.st) → t w.σ w.H Q
def DOd (X : Cx) (W : WB) (e : Expr) (f : DEx) : Prop := ∃ t, PE X e t ∧ RefOd X.K (MGx X W.b) W t f
def LockQ (Q : VK) : VK := fun v H => Q v H ∨ ∃ d u, v = .ref d ∧ H d = some u ∧ Mut (some u) ∧ ∀ od, Q v (upd H d (.frz od u))
theorem pe_lk {X : Cx} {e : Expr} {t : TE} (h : PE X e t) : PE X e (fun σ H Q => t σ H (LockQ Q)) := by
  refine ⟨fun pins s σ H Q I z => ?_⟩
  refine thn (h.run pins s σ H _ I z) fun u s1 ⟨v, H1, I1, r, q⟩ => ?_
  rcases q with q | ⟨d, o, rfl, hd, mu, q⟩
  · exact ⟨v, H1, I1, r, q⟩
  · obtain ⟨od, J⟩ := I1.lock hd mu
    exact ⟨_, _, J, r, q od⟩
@[simp] def lkE (f : DEx) (ρ : En) (st : Store) : R := (f ρ st).bind fun d ρ st => match d with
  | .dct ds => .ok (.dlk ds) ρ st
  | _ => .bad
@[simp] def cellDE (f : DEx) (ρ : En) (st : Store) : R := (f ρ st).bind fun d ρ st => match d with
  | .dct ds => .ok (.ref st.length) ρ (st ++ [.dct ds])
  | _ => .bad
section
variable {K : PySem.W.Frag} {mg : MG} {W : WB}
theorem Aft.lockD {w0 w : Ws} (A : Aft K mg w0 w) {a : Addr} {vs : List (Key × V)} {ds : List (Key × D)} (od : Obj) (hf : w0.H a = none) (hl : Loose w a) (r : RepK K mg w.G w.ι vs ds) :
    ∃ w' : Ws, w'.ρ = w.ρ ∧ w'.st = w.st ∧ w'.σ = w.σ ∧ w'.H = upd w.H a (.frz od (.dK vs)) ∧ Aft K mg w0 w' ∧ Rep K mg w'.G w'.ι (.ref a) (.dlk ds) := by
  have A1 := A.looseUpd (o := .frz od (.dK vs)) hf hl
  have A2 := A1.freeze (a := a) (o := .frz od (.dK vs)) hf hl upd_same
  exact ⟨{ w with H := upd w.H a (.frz od (.dK vs)), G := upd w.G a (.frz od (.dK vs)) }, rfl, rfl, rfl, rfl, A2, .dlk upd_same (r.mono (same_upd hl.1) (LeI.refl _))⟩
theorem RefOd.lk {t : TE} {f : DEx} (h : RefOd K mg W t f) : RefE K mg W (fun σ H Q => t σ H (LockQ Q)) (lkE f) := fun w Q s q => by
  refine h w _ s ?_
  unfold lkE at q
  cases e : f w.ρ w.st with
  | ok d ρ st =>
    rw [e] at q
    cases d with
    | dct ds =>
      intro w' a vs h1 h2 h3 A hf hl ha r
      subst h1; subst h2
      refine .inr ⟨a, .dK vs, rfl, ha, trivial, fun od => ?_⟩
      obtain ⟨w2, e1, e2, e3, e4, A2, r2⟩ := A.lockD od hf hl r
      rw [← e4]
      exact q w2 _ e1 e2 (e3.trans h3) A2 r2
    | _ => exact q.elim
  | exc c ρ st => rw [e] at q; exact q
  | bad => rw [e] at q; exact q
theorem RefOd.cell {t : TE} {f : DEx} (h : RefOd K mg W t f) : RefE K mg W t (cellDE f) := fun w Q s q => by
  refine h w _ s ?_
  unfold cellDE at q
  cases e : f w.ρ w.st with
  | ok d ρ st =>
    rw [e] at q
    cases d with
    | dct ds =>
      intro w' a vs h1 h2 h3 A hf hl ha r
      subst h1; subst h2
      have A1 := A.newCellG (c := .dct ds) hf hl (by simp) ⟨hl.1, vs, ha, r⟩
      exact q { w' with ι := w'.ι ++ [a], st := w'.st ++ [.dct ds] } (.ref a) rfl rfl h3 A1 (cellRep A)
    | _ => exact q.elim
  | exc c ρ st => rw [e] at q; exact q
  | bad => rw [e] at q; exact q
end
section
variable {X : Cx} {W : WB} {e : Expr} {f : DEx} {pos : Pos}
theorem DOd.lk (h : DOd X W e f) : DE X W e (lkE f) := let ⟨_, p, r⟩ := h; ⟨_, pe_lk p, r.lk⟩
theorem DOd.cell (h : DOd X W e f) : DE X W e (cellDE f) := let ⟨_, p, r⟩ := h; ⟨_, p, r.cell⟩
end
section
variable {K : PySem.W.Frag} {mg : MG} {W : WB}
end
end DL
namespace DL
open PySem L2 PyProof.Rows
section
variable {X : Cx} {W : WB} {kx vx tg iter : Expr} {ifs : List Expr} {scope : Scope} {own : List (Str × Nat)} {pos spos : Pos} {fi c fk f : DEx} {g : DGx} {is : List Nat}
end
end DL
namespace DL
open PySem L2 PyProof.Rows
section
variable {K : PySem.W.Frag} {mg : MG}
end
section
variable {X : Cx} {W : WB} {o e x : Expr} {f g h : DEx} {pos apos cpos : Pos}
end
section
variable {X : Cx} {W : WB} {o e x : Expr} {f g h : DEx} {pos pos' apos cpos : Pos}
end
end DL
namespace DL
open PySem L2 PyProof.Rows
section
variable {K : PySem.W.Frag} {mg : MG} {w : Ws}
end
section
variable {X : Cx} {W : WB} {e : Expr} {f : DEx} {pos apos cpos tpos : Pos}
theorem RepK.at {K : PySem.W.Frag} {mg : MG} {G : Hp} {ι : List Addr} : ∀ {vs : List (Key × V)} {ds : List (Key × D)} {i : Nat} {k : Key} {d : D}, RepK K mg G ι vs ds → ds[i]? = some (k, d) → ∃ v, vs[i]? = some (k, v) ∧ Rep K mg G ι v d
  | _, _, _, _, _, .nil, h => by simp at h
  | _, _, 0, _, _, .cons r _, h => by simp at h; obtain ⟨rfl, rfl⟩ := h; exact ⟨_, rfl, r⟩
  | _, _, i + 1, k, d, .cons _ t, h => by
    obtain ⟨v, h1, h2⟩ := RepK.at (i := i) (k := k) (d := d) t (by simpa using h)
    exact ⟨v, by simpa using h1, h2⟩
end
end DL
namespace DL
open PySem L2 PyProof.Rows
def CalD (P : Program) (w : World) (K : PySem.W.Frag) (mg : Str → Option Value) (base : Heap) (k : Nat) (x : Str) (n : Nat) (den : Den) (dds : List D) : Prop :=
  ∃ f fd ps ds dvs, FnOk P w K mg base (L2N.CX P w) k f fd ps (spD K mg n den) ∧ mg x = some (.ref f) ∧ PySem.W.keepIn K (.ref f) = true ∧ Binds K fd ps ds ∧ Vals dvs ds ∧ ∀ b G ι, Reps K ⟨mg, b⟩ G ι dvs dds
def CalK (P : Program) (w : World) (K : PySem.W.Frag) (mg : Str → Option Value) (base : Heap) (k : Nat) (x : Str) (n j : Nat) (ks : List Str) (den : Den) : Prop :=
  ∃ f fd ps, FnOk P w K mg base (L2N.CX P w) k f fd ps (spD K mg n den) ∧ mg x = some (.ref f) ∧ PySem.W.keepIn K (.ref f) = true ∧ KBn K fd ps j ks (fun a b => a ++ b) (fun a b => a ++ b)
def Dfd (K : PySem.W.Frag) (mg : Str → Option Value) (x : Str) (ps : List Str) (st : Stmt) (dds : List D) : Prop := ∃ f fd ds dvs, FunV K x x st f fd ∧ mg x = some (.ref f) ∧ PySem.W.keepIn K (.ref f) = true ∧ Binds K fd ps ds ∧ Vals dvs ds ∧ ∀ b G ι, Reps K ⟨mg, b⟩ G ι dvs dds
def Dfk (K : PySem.W.Frag) (mg : Str → Option Value) (x : Str) (ps : List Str) (st : Stmt) (j : Nat) (ks : List Str) : Prop := ∃ f fd, FunV K x x st f fd ∧ mg x = some (.ref f) ∧ PySem.W.keepIn K (.ref f) = true ∧ KBn K fd ps j ks (fun a b => a ++ b) (fun a b => a ++ b)
@[simp] def aDef (f : DEx) (dds : List D) (ρ : En) (st : Store) : R := (f ρ st).bind fun d ρ st => match d with
  | .tup xs => .ok (.tup (xs ++ dds)) ρ st
  | _ => .bad
theorem CalD.call {X : Cx} {W : WB} {k k' n : Nat} {den : Den} {x : Str} {dds : List D} {p pos : Pos} {e : Expr} {es : List Expr} {fa : DEx} (C : CalD X.prog X.w X.K X.mg X.base k x n den dds) (hr : Room k' X.A) (hk : k ≤ k') (hg : Gl X x) (tk : L2N.Takes X W)
    (ha : DAn X W (e :: es) fa) (hn : (e :: es).length + dds.length = n := by rfl) (hdb : (x == ("__debug__" : Str)) = false := by decide) (he : starEach (e :: es) X.env = (false, eval e X.env) :: starEach es X.env := by rfl) (hpl : (backTo pos (starEach es X.env)).any (·.1) = false := by rfl) :
    DE X W (.Call (.Name x p) (e :: es) [] pos) (callD den (aDef fa dds)) := by
  obtain ⟨f, fd, ps, ds, dvs, F, hm, kp, hb, hv, hD⟩ := C
  obtain ⟨⟨t, pt, rt⟩, hl⟩ := ha
  refine ⟨_, pe_callSD F (hr.mono hk) hg hm kp hb hv (fun σ => L2N.passAt tk σ) pt hdb he hpl, fun w Q s q => ?_⟩
  refine rt.bind (P := OkR X.K (MGx X W.b) W w Q) (r := fun d ρ st => match d with | .tup xs => callD den (fun ρ st => .ok (.tup (xs ++ dds)) ρ st) ρ st | _ => .bad) s ?_ (fun d ρ st n => by cases d <;> first | rfl | exact absurd rfl (n _)) (fun _ _ _ z => z) (fun z => z) fun w1 vs d1 e1 a1 r1 ee q1 => ?_
  · unfold callD aDef at q
    cases ef : fa w.ρ w.st with
    | ok d ρ st => rw [ef] at q; cases d <;> exact q
    | exc c ρ st => rw [ef] at q; exact q
    | bad => rw [ef] at q; exact q
  · have l : (vs ++ dvs).length = n := by
      obtain ⟨ds', e', l⟩ := hl _ _ _ _ _ ee
      cases e'
      rw [List.length_append, r1.len, l, (hD W.b w.G w.ι).len]; exact hn
    exact sp_at a1.s l (r1.append (hD _ _ _)) e1 (OkR.aft q1 a1 e1)
theorem CalK.call {X : Cx} {E : XK} {b : Low} {k k' n j : Nat} {ks : List Str} {den : Den} {x : Str} {p pos : Pos} {e : Expr} {es : List Expr} {kws : List Keyword} {fa fk : DEx} (C : CalK X.prog X.w X.K X.mg X.base k x n j ks den) (hr : Room k' X.A) (hk : k ≤ k') (hg : Gl X x) (tk : L2N.Takes X (WEb b E))
    (ha : DAn X (WEb b E) (e :: es) fa) (hw : DK X (WEb b E) kws fk) (hn : (e :: es).length = j := by rfl) (hkl : kws.length = ks.length := by rfl) (hj : j + ks.length = n := by rfl)
    (hall : (backToKw pos (keywordEach kws X.env)).all (·.1.isSome) = true := by rfl) (hks : (backToKw pos (keywordEach kws X.env)).filterMap (·.1) = ks := by rfl) (hdb : (x == ("__debug__" : Str)) = false := by decide)
    (he : starEach (e :: es) X.env = (false, eval e X.env) :: starEach es X.env := by rfl) (hpl : ((backTo pos (starEach (e :: es) X.env)).any (·.1) || (backToKw pos (keywordEach kws X.env)).any (·.1.isNone)) = false := by rfl) :
    DE X (WEb b E) (.Call (.Name x p) (e :: es) kws pos) (callD den (aApp fa fk)) := by
  obtain ⟨f, fd, ps, F, hm, kp, hB⟩ := C
  obtain ⟨⟨t, pt, rt⟩, hl⟩ := ha
  obtain ⟨⟨tw, pw, rw'⟩, hl2⟩ := hw
  subst hn
  have P := pe_callN (p := p) F (hr.mono hk) hg hm kp hB (passes_const tk) pt pw hall hks hdb he hpl
  have RA := refA_app (m := ks.length) rt rw' hl (fun ρ st d ρ' st' h => by rw [← hkl]; exact hl2 ρ st d ρ' st' h)
  refine ⟨_, P, fun w Q s q => ?_⟩
  have key : tApp (e :: es).length ks.length t tw w.σ w.H (fun vs H1 => spD X.K X.mg n den vs H1 Q E) := by
    refine RA.bind (P := OkR X.K (MGx X b) (WEb b E) w Q) s q (fun d ρ st n => by cases d <;> first | rfl | exact absurd rfl (n _)) (fun _ _ _ z => z) (fun z => z) fun w1 vs d1 e1 a1 r1 ee q1 => ?_
    have l : vs.length = n := by
      unfold aApp at ee
      cases e1' : fa w.ρ w.st with
      | ok d ρ st =>
        rw [e1'] at ee
        obtain ⟨xs, rfl, l1⟩ := hl _ _ _ _ _ e1'
        simp only [R.bind] at ee
        cases e2' : fk ρ st with
        | ok d ρ st =>
          rw [e2'] at ee
          obtain ⟨ys, rfl, l2⟩ := hl2 _ _ _ _ _ e2'
          simp only at ee
          cases ee
          rw [r1.len, List.length_append, l1, l2, hkl]; exact hj
        | exc c ρ st => rw [e2'] at ee; cases ee
        | bad => rw [e2'] at ee; cases ee
      | exc c ρ st => rw [e1'] at ee; cases ee
      | bad => rw [e1'] at ee; cases ee
    exact sp_at (W := WEb b E) (σ := w1.σ) a1.s l r1 rfl (OkR.aft q1 a1 e1)
  exact key
theorem CalD.of {P : Program} {wd : World} {K : PySem.W.Frag} {mg : Str → Option Value} {base : Heap} {x : Str} {st : Stmt} {N ps : List Str} {dds : List D} {k n m : Nat} {g : DSx} (Df : Dfd K mg x ps st dds) (S : FnScope N ps (defScope st)) (hn : n = N.length) (hm : m = ps.length)
    (hb : ∀ (f : Addr) (cdv : Value) (A : Around) (outer : List Env) (s : Shared) (H : Hp) (E : XK), Room k (A.deeper (PyProof.Rows.envOfC x (defScope st) s.heap.objs.size f cdv)) →
      DSs (cxOf (L2N.CX P wd) P wd K mg base N x (defScope st) f cdv A outer s H E) (WEx E) (defBody st) g) : CalD P wd K mg base (k + 1) x m (runD n g) dds := by
  obtain ⟨f, fd, ds, dvs, F, hmg, kp, hB, hV, hD⟩ := Df
  subst hm
  exact ⟨f, fd, ps, ds, dvs, fn_D F S hn (hb f), hmg, kp, hB, hV, hD⟩
theorem CalK.of {P : Program} {wd : World} {K : PySem.W.Frag} {mg : Str → Option Value} {base : Heap} {x : Str} {st : Stmt} {N ps ks : List Str} {k n m j : Nat} {g : DSx} (Df : Dfk K mg x ps st j ks) (S : FnScope N ps (defScope st)) (hn : n = N.length) (hm : m = ps.length)
    (hb : ∀ (f : Addr) (cdv : Value) (A : Around) (outer : List Env) (s : Shared) (H : Hp) (E : XK), Room k (A.deeper (PyProof.Rows.envOfC x (defScope st) s.heap.objs.size f cdv)) →
      DSs (cxOf (L2N.CX P wd) P wd K mg base N x (defScope st) f cdv A outer s H E) (WEx E) (defBody st) g) : CalK P wd K mg base (k + 1) x m j ks (runD n g) := by
  obtain ⟨f, fd, F, hmg, kp, hB⟩ := Df
  subst hm
  exact ⟨f, fd, ps, fn_D F S hn (hb f), hmg, kp, hB⟩
end DL
namespace DL
open PySem L2
def EOk (r : R) (P : D → En → Store → Prop) : Prop := match r with
  | .ok d ρ st => P d ρ st
  | _ => False
def SOk (r : Fl) (N : En → Store → Prop) (V : D → Store → Prop) : Prop := match r with
  | .nx ρ st => N ρ st
  | .rt d _ st => V d st
  | _ => False
def DOk (r : R) (P : D → Store → Prop) : Prop := ∃ d st, r = .ok d [] st ∧ P d st
theorem EOk.mono {r : R} {P P' : D → En → Store → Prop} (h : EOk r P) (k : ∀ d ρ st, P d ρ st → P' d ρ st) : EOk r P' := by
  cases r with
  | ok d ρ st => exact k _ _ _ h
  | _ => exact h
theorem SOk.mono {r : Fl} {N N' : En → Store → Prop} {V V' : D → Store → Prop} (h : SOk r N V) (k : ∀ ρ st, N ρ st → N' ρ st) (k' : ∀ d st, V d st → V' d st) : SOk r N' V' := by
  cases r with
  | nx ρ st => exact k _ _ h
  | rt d ρ st => exact k' _ _ h
  | _ => exact h
theorem DOk.mono {r : R} {P P' : D → Store → Prop} (h : DOk r P) (k : ∀ d st, P d st → P' d st) : DOk r P' := let ⟨d, st, e, p⟩ := h; ⟨d, st, e, k d st p⟩
section
variable {P : D → En → Store → Prop} {N : En → Store → Prop} {V : D → Store → Prop} {Q : D → Store → Prop} {ρ : En} {st : Store} {f g h fa fi c : DEx} {s t b : DSx} {den : Den} {d : D}
@[simp] theorem EOk_ok : EOk (.ok d ρ st) P ↔ P d ρ st := Iff.rfl
@[simp] theorem EOk_bad : EOk .bad P ↔ False := Iff.rfl
@[simp] theorem DOk_ok : DOk (.ok d [] st) Q ↔ Q d st := ⟨fun ⟨_, _, e, q⟩ => by cases e; exact q, fun q => ⟨_, _, rfl, q⟩⟩
@[simp] theorem SOk_nx : SOk (.nx ρ st) N V ↔ N ρ st := Iff.rfl
@[simp] theorem SOk_rt : SOk (.rt d ρ st) N V ↔ V d st := Iff.rfl
@[simp] theorem SOk_bad : SOk .bad N V ↔ False := Iff.rfl
theorem EOk_bind (r : R) (k : D → En → Store → R) : EOk (r.bind k) P ↔ EOk r fun d ρ st => EOk (k d ρ st) P := by cases r <;> exact Iff.rfl
theorem DOk_run {n : Nat} {ds : List D} (h : SOk (b (enter n ds) st) (fun _ st => Q .non st) Q) : DOk (runD n b ds st) Q := by
  unfold runD
  cases e : b (enter n ds) st with
  | nx ρ st' => rw [e] at h; exact ⟨_, _, rfl, h⟩
  | rt d ρ st' => rw [e] at h; exact ⟨_, _, rfl, h⟩
  | _ => rw [e] at h; exact h.elim
theorem SOk_thenF (r : D → En → Store → Fl) : SOk (thenF f r ρ st) N V ↔ EOk (f ρ st) fun d ρ st => SOk (r d ρ st) N V := by
  unfold thenF
  cases f ρ st <;> exact Iff.rfl
@[simp] def k_seq (t : DSx) (N : En → Store → Prop) (V : D → Store → Prop) (ρ : En) (st : Store) : Prop := SOk (t ρ st) N V
@[simp ↓] theorem SOk_seq : SOk (seqD s t ρ st) N V ↔ SOk (s ρ st) (k_seq t N V) V := by
  unfold seqD
  cases s ρ st <;> exact Iff.rfl
@[simp] def k_expr (N : En → Store → Prop) (_ : D) (ρ : En) (st : Store) : Prop := N ρ st
@[simp] def k_ret (V : D → Store → Prop) (d : D) (_ : En) (st : Store) : Prop := V d st
@[simp ↓] theorem SOk_expr : SOk (exprD f ρ st) N V ↔ EOk (f ρ st) (k_expr N) := SOk_thenF _
@[simp ↓] theorem SOk_ret : SOk (retD f ρ st) N V ↔ EOk (f ρ st) (k_ret V) := SOk_thenF _
def k_SOk_if (s : DSx) (t : DSx) (N : En → Store → Prop) (V : D → Store → Prop) (d : D) (ρ : En) (st : Store) : Prop := SOk (match d with | .bl true => s ρ st | .bl false => t ρ st | _ => .bad) N V
@[simp ↓] theorem k_SOk_if_bl (s t : DSx) (N : En → Store → Prop) (V : D → Store → Prop) (b : Bool) (ρ : En) (st : Store) : k_SOk_if s t N V (.bl b) ρ st ↔ if b = true then SOk (s ρ st) N V else SOk (t ρ st) N V := by cases b <;> exact Iff.rfl
@[simp ↓] theorem SOk_if : SOk (ifD f s t ρ st) N V ↔ EOk (f ρ st) (k_SOk_if  s t N V) := SOk_thenF _
@[simp] def k_SOk_set (k : DGx) (N : En → Store → Prop) (V : D → Store → Prop) (d : D) (ρ : En) (st : Store) : Prop := SOk (match k d ρ with | some ρ => .nx ρ st | none => .bad) N V
@[simp ↓] theorem SOk_set (k : DGx) : SOk (setD f k ρ st) N V ↔ EOk (f ρ st) (k_SOk_set k N V) := SOk_thenF _
@[simp] def k_SOk_setO (i : Nat) (N : En → Store → Prop) (V : D → Store → Prop) (d : D) (ρ : En) (st : Store) : Prop := SOk (match d with | .lst ds => .nx (ρ.set i (.ml ds)) st | _ => .bad) N V
@[simp ↓] theorem SOk_setO (i : Nat) : SOk (setOD f i ρ st) N V ↔ EOk (f ρ st) (k_SOk_setO i N V) := SOk_thenF _
@[simp] def k_SOk_setC (i : Nat) (N : En → Store → Prop) (V : D → Store → Prop) (d : D) (ρ : En) (st : Store) : Prop := SOk (match d with | .lst ds => .nx (ρ.set i (.val (.ref st.length))) (st ++ [.lst ds]) | _ => .bad) N V
@[simp ↓] theorem SOk_setC (i : Nat) : SOk (setCD f i ρ st) N V ↔ EOk (f ρ st) (k_SOk_setC i N V) := SOk_thenF _
@[simp] def k_SOk_retC  (N : En → Store → Prop) (V : D → Store → Prop) (d : D) (ρ : En) (st : Store) : Prop := SOk (match d with | .lst ds => .rt (.ref st.length) ρ (st ++ [.lst ds]) | _ => .bad) N V
@[simp ↓] theorem SOk_retC : SOk (retCD f ρ st) N V ↔ EOk (f ρ st) (k_SOk_retC  N V) := SOk_thenF _
@[simp] def k_SOk_for (k : DGx) (b : DSx) (N : En → Store → Prop) (V : D → Store → Prop) (d : D) (ρ : En) (st : Store) : Prop := SOk (match d.iter with | some (ds, gd) => forD k (chkS gd b) ds ρ st | none => .bad) N V
@[simp ↓] theorem SOk_for (k : DGx) : SOk (forE fi k b ρ st) N V ↔ EOk (fi ρ st) (k_SOk_for k b N V) := SOk_thenF _
@[simp] def k_EOk_lift1 (p : D → Option D) (P : D → En → Store → Prop) (d : D) (ρ : En) (st : Store) : Prop := EOk (match p d with | some z => .ok z ρ st | none => .bad) P
@[simp ↓] theorem EOk_lift1 (p : D → Option D) : EOk (lift1 p f ρ st) P ↔ EOk (f ρ st) (k_EOk_lift1 p P) := EOk_bind _ _
@[simp] def k_lift2b (p : D → D → Option D) (P : D → En → Store → Prop) (d e : D) (ρ : En) (st : Store) : Prop := EOk (match p d e with | some z => .ok z ρ st | none => .bad) P
@[simp] def k_lift2a (p : D → D → Option D) (g : DEx) (P : D → En → Store → Prop) (d : D) (ρ : En) (st : Store) : Prop := EOk (g ρ st) (k_lift2b p P d)
@[simp ↓] theorem EOk_lift2 (p : D → D → Option D) : EOk (lift2 p f g ρ st) P ↔ EOk (f ρ st) (k_lift2a p g P) :=
  (EOk_bind _ _).trans ⟨fun h => h.mono fun _ _ _ => (EOk_bind _ _).mp, fun h => h.mono fun _ _ _ => (EOk_bind _ _).mpr⟩
@[simp] def k_EOk_not (P : D → En → Store → Prop) (d : D) (ρ : En) (st : Store) : Prop := EOk (match d with | .bl b => .ok (.bl (!b)) ρ st | _ => .bad) P
@[simp ↓] theorem EOk_not : EOk (notD f ρ st) P ↔ EOk (f ρ st) (k_EOk_not P) := EOk_bind _ _
def k_EOk_and (g : DEx) (P : D → En → Store → Prop) (d : D) (ρ : En) (st : Store) : Prop := EOk (match d with | .bl true => g ρ st | .bl false => .ok (.bl false) ρ st | _ => .bad) P
@[simp ↓] theorem k_EOk_and_bl (g : DEx) (P : D → En → Store → Prop) (b : Bool) (ρ : En) (st : Store) : k_EOk_and g P (.bl b) ρ st ↔ if b = true then EOk (g ρ st) P else P (.bl false) ρ st := by cases b <;> exact Iff.rfl
@[simp ↓] theorem EOk_and : EOk (andD f g ρ st) P ↔ EOk (f ρ st) (k_EOk_and  g P) := EOk_bind _ _
def k_EOk_or (g : DEx) (P : D → En → Store → Prop) (d : D) (ρ : En) (st : Store) : Prop := EOk (match d with | .bl true => .ok (.bl true) ρ st | .bl false => g ρ st | _ => .bad) P
@[simp ↓] theorem k_EOk_or_bl (g : DEx) (P : D → En → Store → Prop) (b : Bool) (ρ : En) (st : Store) : k_EOk_or g P (.bl b) ρ st ↔ if b = true then P (.bl true) ρ st else EOk (g ρ st) P := by cases b <;> exact Iff.rfl
@[simp ↓] theorem EOk_or : EOk (orD f g ρ st) P ↔ EOk (f ρ st) (k_EOk_or  g P) := EOk_bind _ _
def k_EOk_ite (f : DEx) (g : DEx) (P : D → En → Store → Prop) (d : D) (ρ : En) (st : Store) : Prop := EOk (match d with | .bl true => f ρ st | .bl false => g ρ st | _ => .bad) P
@[simp ↓] theorem k_EOk_ite_bl (f g : DEx) (P : D → En → Store → Prop) (b : Bool) (ρ : En) (st : Store) : k_EOk_ite f g P (.bl b) ρ st ↔ if b = true then EOk (f ρ st) P else EOk (g ρ st) P := by cases b <;> exact Iff.rfl
@[simp] def k_consb (P : D → En → Store → Prop) (d e : D) (ρ : En) (st : Store) : Prop := EOk (match e with | .tup ds => .ok (.tup (d :: ds)) ρ st | _ => .bad) P
@[simp] def k_consa (g : DEx) (P : D → En → Store → Prop) (d : D) (ρ : En) (st : Store) : Prop := EOk (g ρ st) (k_consb P d)
@[simp ↓] theorem EOk_aCons : EOk (aCons f g ρ st) P ↔ EOk (f ρ st) (k_consa g P) :=
  (EOk_bind _ _).trans ⟨fun h => h.mono fun _ _ _ => (EOk_bind _ _).mp, fun h => h.mono fun _ _ _ => (EOk_bind _ _).mpr⟩
def COk (r : R) (ρ : En) (P : D → En → Store → Prop) : Prop := EOk (match r with | .ok r _ st' => .ok r ρ st' | .exc c _ st' => .exc c ρ st' | .bad => .bad) P
@[simp] def k_call (den : Den) (P : D → En → Store → Prop) (d : D) (ρ : En) (st : Store) : Prop := match d with | .tup ds => COk (den ds st) ρ P | _ => False
@[simp ↓] theorem EOk_call : EOk (callD den f ρ st) P ↔ EOk (f ρ st) (k_call den P) := by
  refine (EOk_bind _ _).trans ⟨fun h => h.mono fun d ρ st z => ?_, fun h => h.mono fun d ρ st z => ?_⟩ <;> cases d <;> exact z
theorem COk.of {r : R} (h : DOk r fun d st => P d ρ st) : COk r ρ P := by
  obtain ⟨d, st', e, q⟩ := h
  unfold COk
  rw [e]
  exact q
@[simp] def k_EOk_lst  (P : D → En → Store → Prop) (d : D) (ρ : En) (st : Store) : Prop := EOk (match d with | .tup ds => .ok (.lst ds) ρ st | _ => .bad) P
@[simp ↓] theorem EOk_lst : EOk (lstD f ρ st) P ↔ EOk (f ρ st) (k_EOk_lst  P) := EOk_bind _ _
@[simp] def k_EOk_list  (P : D → En → Store → Prop) (d : D) (ρ : En) (st : Store) : Prop := EOk (match kOf d with | some ds => .ok (.lst ds) ρ st | none => .bad) P
@[simp ↓] theorem EOk_list : EOk (listD f ρ st) P ↔ EOk (f ρ st) (k_EOk_list  P) := EOk_bind _ _
@[simp] def k_EOk_tuple  (P : D → En → Store → Prop) (d : D) (ρ : En) (st : Store) : Prop := EOk (match kOf d with | some ds => .ok (.tup ds) ρ st | none => .bad) P
@[simp ↓] theorem EOk_tuple : EOk (tupleD f ρ st) P ↔ EOk (f ρ st) (k_EOk_tuple  P) := EOk_bind _ _
@[simp] def k_EOk_it  (P : D → En → Store → Prop) (d : D) (ρ : En) (st : Store) : Prop := EOk (match d.walk st with | some z => .ok z ρ st | none => .bad) P
@[simp ↓] theorem EOk_it : EOk (itD f ρ st) P ↔ EOk (f ρ st) (k_EOk_it  P) := EOk_bind _ _
open Classical in
@[simp] def k_EOk_rng1  (P : D → En → Store → Prop) (d : D) (ρ : En) (st : Store) : Prop := EOk (match d with | .tup [.int j] => if Rg j then .ok (.lst (rngItems 0 j.toNat)) ρ st else .bad | _ => .bad) P
@[simp ↓] theorem EOk_rng1 : EOk (rng1 f ρ st) P ↔ EOk (f ρ st) (k_EOk_rng1  P) := EOk_bind _ _
open Classical in
@[simp] def k_EOk_rng2  (P : D → En → Store → Prop) (d : D) (ρ : En) (st : Store) : Prop := EOk (match d with | .tup [.int i, .int j] => if Rg i ∧ Rg j then .ok (.lst (rngItems i (j - i).toNat)) ρ st else .bad | _ => .bad) P
@[simp ↓] theorem EOk_rng2 : EOk (rng2 f ρ st) P ↔ EOk (f ρ st) (k_EOk_rng2  P) := EOk_bind _ _
@[simp] def k_EOk_bdS  (P : D → En → Store → Prop) (d : D) (ρ : En) (st : Store) : Prop := EOk (match d with | .int i => .ok (.int i) ρ st | _ => .bad) P
@[simp ↓] theorem EOk_bdS : EOk (bdS f ρ st) P ↔ EOk (f ρ st) (k_EOk_bdS  P) := EOk_bind _ _
open Classical in
@[simp] def k_EOk_sort  (P : D → En → Store → Prop) (d : D) (ρ : En) (st : Store) : Prop := EOk (match d with | .lst ds => if sortOk ds then .ok (.lst (ds.mergeSort leD)) ρ st else .bad | _ => .bad) P
@[simp ↓] theorem EOk_sort : EOk (sortD f ρ st) P ↔ EOk (f ρ st) (k_EOk_sort  P) := EOk_bind _ _
@[simp] def k_EOk_fld (cs : List Str) (x : Str) (P : D → En → Store → Prop) (d : D) (ρ : En) (st : Store) : Prop := EOk (match insOf st d with | some (c, fs) => if c ∈ cs then (match fs.lookup x with | some z => .ok z ρ st | none => .bad) else .bad | none => .bad) P
@[simp ↓] theorem EOk_fld (cs : List Str) (x : Str) : EOk (fldD cs x g ρ st) P ↔ EOk (g ρ st) (k_EOk_fld cs x P) := EOk_bind _ _
@[simp] def k_mut (i : Nat) (k : MutK) (P : D → En → Store → Prop) (d : D) (ρ : En) (st : Store) : Prop := EOk (match d with | .tup args => mutAt i k args ρ st | _ => .bad) P
@[simp ↓] theorem EOk_mut (i : Nat) (k : MutK) : EOk (mutD i k f ρ st) P ↔ (holdsL i ρ st = true ∧ EOk (f ρ st) (k_mut i k P)) := by
  unfold mutD
  cases holdsL i ρ st with
  | true => exact ⟨fun h => ⟨rfl, (EOk_bind _ _).mp h⟩, fun h => (EOk_bind _ _).mpr h.2⟩
  | false => exact ⟨fun h => h.elim, fun h => by cases h.1⟩
@[simp] def k_slc (k : D → Option Int → Option Int → Option D) (P : D → En → Store → Prop) (d : D) (lo : Option Int) (hi : D) (ρ : En) (st : Store) : Prop := EOk (match bd hi with | some hi => (match k (lkD st d) lo hi with | some z => .ok z ρ st | none => .bad) | none => .bad) P
@[simp] def k_slb (k : D → Option Int → Option Int → Option D) (h : DEx) (P : D → En → Store → Prop) (d lo : D) (ρ : En) (st : Store) : Prop := match bd lo with
  | some lo => EOk (h ρ st) (k_slc k P d lo)
  | none => False
@[simp] def k_sla (k : D → Option Int → Option Int → Option D) (g h : DEx) (P : D → En → Store → Prop) (d : D) (ρ : En) (st : Store) : Prop := EOk (g ρ st) (k_slb k h P d)
@[simp ↓] theorem EOk_sl (k : D → Option Int → Option Int → Option D) : EOk (slX k f g h ρ st) P ↔ EOk (f ρ st) (k_sla k g h P) := by
  refine (EOk_bind _ _).trans ⟨fun z => z.mono fun d ρ st z => ((EOk_bind _ _).mp z).mono fun lo ρ st z => ?_, fun z => z.mono fun d ρ st z => (EOk_bind _ _).mpr (z.mono fun lo ρ st z => ?_)⟩
  · unfold k_slb
    cases e : bd lo with
    | none => rw [e] at z; exact z
    | some l => rw [e] at z; exact (EOk_bind _ _).mp z
  · unfold k_slb at z
    cases e : bd lo with
    | none => rw [e] at z; exact z
    | some l => rw [e] at z; exact (EOk_bind _ _).mpr z
@[simp] def k_lc (g : DGx) (c f : DEx) (vs : List Nat) (P : D → En → Store → Prop) (d : D) (ρ : En) (st : Store) : Prop := EOk (match d.iter with | some (ds, gd) => if ds.length ≤ sizeLine then lcGo g (chkE gd c) (chkE gd f) vs ds [] (wipeR ρ vs) st else .bad | none => .bad) P
@[simp ↓] theorem EOk_lc (k : DGx) (vs : List Nat) : EOk (lcD fi k c f vs ρ st) P ↔ EOk (fi ρ st) (k_lc k c f vs P) := EOk_bind _ _
@[simp] def k_enum (P : D → En → Store → Prop) (d : D) (ρ : En) (st : Store) : Prop := EOk (match d with
  | .tup [.lst ds] => .ok (.lst (enumItems ds)) ρ st
  | .tup [.ref l] => (match st[l]? with
    | some (.lst ds) => .ok (.tup [.lst (enumItems ds), .ref l, .lst ds]) ρ st
    | _ => .bad)
  | _ => .bad) P
@[simp ↓] theorem EOk_enum : EOk (enumD f ρ st) P ↔ EOk (f ρ st) (k_enum P) := EOk_bind _ _
@[simp] def k_cellD (P : D → En → Store → Prop) (d : D) (ρ : En) (st : Store) : Prop := EOk (match d with
  | .dct ds => .ok (.ref st.length) ρ (st ++ [.dct ds])
  | _ => .bad) P
@[simp ↓] theorem EOk_cellD : EOk (cellDE f ρ st) P ↔ EOk (f ρ st) (k_cellD P) := EOk_bind _ _
@[simp] def k_subSet (i : Nat) (p : DPx) (N : En → Store → Prop) (V : D → Store → Prop) (d : D) (ρ : En) (st : Store) : Prop := SOk (match p ρ st with
  | some j => (match mutAt i (kSet j) [d] ρ st with
    | .ok _ ρ st => .nx ρ st
    | _ => .bad)
  | none => .bad) N V
@[simp ↓] theorem SOk_subSet (i : Nat) (p : DPx) : SOk (subSetD i p f ρ st) N V ↔ EOk (f ρ st) (k_subSet i p N V) := SOk_thenF _
end
theorem SOk_forD {α : Type} {k : DGx} {b : DSx} {N : En → Store → Prop} {V : D → Store → Prop} (e : α → D) (I : List α → En → Store → Prop) : ∀ (xs pre : List α) (ρ : En) (st : Store), I pre ρ st →
    (∀ p x q ρ st, pre ++ xs = p ++ x :: q → I p ρ st → ∃ ρ1, k (e x) ρ = some ρ1 ∧ SOk (b ρ1 st) (I (p ++ [x])) V) → (∀ ρ st, I (pre ++ xs) ρ st → N ρ st) → SOk (forD k b (xs.map e) ρ st) N V
  | [], pre, ρ, st, h0, _, hd => by rw [List.append_nil] at hd; exact hd ρ st h0
  | x :: xs, pre, ρ, st, h0, hs, hd => by
    obtain ⟨ρ1, e1, h1⟩ := hs pre x xs ρ st rfl h0
    show SOk (forD k b (e x :: xs.map e) ρ st) N V
    unfold forD
    simp only [e1]
    cases eb : b ρ1 st with
    | nx ρ2 st2 =>
      rw [eb] at h1
      have ea : pre ++ x :: xs = (pre ++ [x]) ++ xs := by simp
      refine SOk_forD e I xs (pre ++ [x]) ρ2 st2 h1 (fun p y q ρ st z => hs p y q ρ st (by rw [ea]; exact z)) fun ρ st z => hd ρ st (by rw [ea]; exact z)
    | rt d ρ2 st2 => rw [eb] at h1; exact h1
    | _ => rw [eb] at h1; exact h1.elim
theorem SOk_rng {k : DGx} {b : DSx} {N : En → Store → Prop} {V : D → Store → Prop} {ρ : En} {st : Store} (n : Nat) (I : Nat → En → Store → Prop) (h0 : I 0 ρ st)
    (hs : ∀ q ρ st, q < n → I q ρ st → ∃ ρ1, k (.int q) ρ = some ρ1 ∧ SOk (b ρ1 st) (I (q + 1)) V) (hd : ∀ ρ st, I n ρ st → N ρ st) : SOk (forD k b (rngItems 0 n) ρ st) N V := by
  have := SOk_forD (k := k) (b := b) (N := N) (V := V) (fun q : Nat => D.int (q : Int)) (fun p => I p.length) (List.range n) [] ρ st h0 (fun p x q ρ st e hI => by
    have hx : x = p.length := by
      have h1 : (List.range n)[p.length]? = some x := by rw [show List.range n = p ++ x :: q from e]; simp
      rw [List.getElem?_range (by have := congrArg List.length e; simp at this; omega)] at h1
      simpa using h1.symm
    subst hx
    obtain ⟨ρ1, e1, h1⟩ := hs p.length ρ st (by have := congrArg List.length e; simp at this; omega) hI
    exact ⟨ρ1, e1, by simpa using h1⟩) (fun ρ st hI => hd ρ st (by simpa using hI))
  rwa [← show rngItems 0 n = (List.range n).map (fun q : Nat => D.int (q : Int)) by simp [rngItems]] at this
end DL
namespace DL
open PySem PySem.Spec PyProof.Rows L2
structure FnG (P : Program) (w : World) (K : PySem.W.Frag) (mg : Str → Option Value) (base : Heap) (CX : CXT) (k : Nat) (f : Addr) (fd : FuncData) (ps : List Str) (sp : Sp) : Prop where
  len : ∀ vs H Q E, sp vs H Q E → vs.length = ps.length
  at_ : ∀ (A : Around), A.guards = some [] → Room k A → ∀ (out : List Env) (s : Shared) (H : Hp) (args : Args) (us : List Value) (vs : List V) (Q : VK) (E : XK), Env0 P w K mg base A out s H → BindsTo s fd args (ps.zip us) → Vals vs us → sp vs H Q E →
    codeAny (model P w) A (.call (.ref f) args) (CR CX out P w H s Q E) s
theorem FnG.of {P : Program} {w : World} {K : PySem.W.Frag} {mg : Str → Option Value} {base : Heap} {CX : CXT} {k : Nat} {f : Addr} {fd : FuncData} {ps : List Str} {sp : Sp} (F : FnOk P w K mg base CX k f fd ps sp) : FnG P w K mg base CX k f fd ps sp :=
  ⟨F.len, fun A _ hr out s H args us vs Q E => F.run A out s H args us vs Q E hr⟩
theorem FnG.imp {P : Program} {w : World} {K : PySem.W.Frag} {mg : Str → Option Value} {base : Heap} {CX : CXT} {k : Nat} {f : Addr} {fd : FuncData} {ps : List Str} {sp sq : Sp} (F : FnG P w K mg base CX k f fd ps sp) (h : ∀ vs H Q E, sq vs H Q E → sp vs H Q E) : FnG P w K mg base CX k f fd ps sq :=
  ⟨fun vs H Q E q => F.len vs H Q E (h _ _ _ _ q), fun A ag hr out s H args us vs Q E e b r q => F.at_ A ag hr out s H args us vs Q E e b r (h _ _ _ _ q)⟩
section
variable {P : Program} {wd : World} {K : PySem.W.Frag} {mg : Str → Option Value} {base : Heap}
theorem fnG_body {x qual : Str} {st : Stmt} {f : Addr} {fd : FuncData} {N ps : List Str} {k : Nat} {sp : Sp} (F : FunV K x qual st f fd) (S : FnScope N ps (defScope st)) (len : ∀ vs H Q E, sp vs H Q E → vs.length = ps.length)
    (hb : ∀ (cdv : Value) (A : Around) (out : List Env) (s : Shared) (H : Hp) (vs : List V) (Q : VK) (E : XK), A.guards = some [] → Room k (A.deeper (envOfC qual (defScope st) s.heap.objs.size f cdv)) → sp vs H Q E →
      ∃ t, PSs (cxOf (L2N.CX P wd) P wd K mg base N qual (defScope st) f cdv A out s H E) (defBody st) t ∧ t { nx := fun _ G => Q .non G, rt := Q } (start N vs) H) : FnG P wd K mg base (L2N.CX P wd) (k + 1) f fd ps sp := by
  obtain ⟨oc, od, dV, kV, doc, pm, an, cdv, ct, osl, rfl, lk, hcd⟩ := F.ex
  refine ⟨len, fun A ag hr out s H args us vs Q E en bd rv hs => ?_⟩
  obtain ⟨t, p, go⟩ := hb cdv A out s H vs Q E ag (hr.deeper _) hs
  have up := fun (b : Addr) (o : Obj) (e : base.get? b = some o) => (en.bs b o e).1
  have kin := en.mod.kin.keeps up
  refine codeAny_call_function hr.depth (kin _ _ lk) rfl S.co S.gen rfl (PySem.W.codeRec_of kin hcd) (bd _ _ _ _ ?_)
  refine wpAny_newFunctionEnv_cells S.kind ?_ ?_
  · rintro ⟨n, v⟩ hn
    exact (S.par n (List.of_mem_zip hn).1).imp id fun z => ⟨z, PySem.W.cellsFrom_some _ _ _ (.inl z)⟩
  · rintro _ rfl s1 new
    refine ⟨(en.mod.nolimit.keeps up).keeps new.toInCall.keep, codeAny_func ?_⟩
    refine wpAny_mono (p.run [] s1 _ H _ (inv_start S hr.hd en (len _ _ _ _ hs) rv new) go) ?_ (fun _ _ z => z)
    rintro (_ | _ | _ | u) s2 z
    · obtain ⟨_, H2, J, q⟩ := z
      exact ⟨.non, H2, J.os, J.bare, J.base, J.hok, rfl, q⟩
    · exact z.choose_spec.choose_spec.2.elim
    · exact z.choose_spec.choose_spec.2.elim
    · obtain ⟨v, _, H2, J, ru, q⟩ := z
      exact ⟨v, H2, J.os, J.bare, J.base, J.hok, ru, q⟩
theorem fn_DG {x qual : Str} {st : Stmt} {f : Addr} {fd : FuncData} {N ps : List Str} {k n : Nat} {g : DSx} (F : FunV K x qual st f fd) (S : FnScope N ps (defScope st)) (hn : n = N.length)
    (hb : ∀ (cdv : Value) (A : Around) (outer : List Env) (s : Shared) (H : Hp) (E : XK), A.guards = some [] → Room k (A.deeper (PyProof.Rows.envOfC qual (defScope st) s.heap.objs.size f cdv)) →
      DSs (cxOf (L2N.CX P wd) P wd K mg base N qual (defScope st) f cdv A outer s H E) (WEx E) (defBody st) g) : FnG P wd K mg base (L2N.CX P wd) (k + 1) f fd ps (spD K mg ps.length (runD n g)) := by
  refine fnG_body F S (fun vs H Q E h => h.1) fun cdv A outer s H vs Q E ag hr h => ?_
  obtain ⟨hl, w, ds, hρ, hσ, rfl, sts, rp, ok⟩ := h
  obtain ⟨t, pt, rt⟩ := hb cdv A outer s w.H E ag hr
  refine ⟨t, pt, ?_⟩
  have sts' := sts.enter hn rp (N := N)
  have e0 : w.strip = w := ws_strip hρ hσ
  have s0 : Sts K ⟨mg, Low.no⟩ w.strip := by rw [e0]; exact sts
  have out : ∀ w', Aft K ⟨mg, Low.no⟩ { w with ρ := DL.enter n ds, σ := start N vs } w' → Aft K ⟨mg, Low.no⟩ w w'.strip := fun w' A => by
    have := Aft.out (w := w) s0 (enter_ml n ds) A
    rwa [e0] at this
  refine rt { w with ρ := DL.enter n ds, σ := start N vs } { nx := fun _ H' => Q .non H', rt := Q } sts' ?_
  unfold runD at ok
  show OkF K ⟨mg, Low.no⟩ (WEx E) _ _ (g (DL.enter n ds) w.st)
  cases e : g (DL.enter n ds) w.st with
  | nx ρ st' =>
    rw [e] at ok
    intro w' h1 h2 A
    exact ok w'.strip .non rfl h2 hσ.symm (out w' A) .non
  | rt d ρ st' =>
    rw [e] at ok
    intro w' v h1 h2 A r
    exact ok w'.strip v rfl h2 hσ.symm (out w' A) r
  | bk ρ st' => rw [e] at ok; exact ok.elim
  | ct ρ st' => rw [e] at ok; exact ok.elim
  | exc c ρ st' =>
    rw [e] at ok
    intro w' cls dx h1 h2 A r
    exact ok w'.strip cls dx rfl h2 hσ.symm (out w' A) r
  | bad => rw [e] at ok; exact ok.elim
theorem LawG.of {x : Str} {st : Stmt} {N : List Str} {k n : Nat} {g : DSx} (S : FnScope N [x] (defScope st)) (hn : n = N.length)
    (hb : ∀ (f : Addr) (cdv : Value) (A : Around) (outer : List Env) (s : Shared) (H : Hp) (E : XK), A.guards = some [] → Room k (A.deeper (PyProof.Rows.envOfC "law" (defScope st) s.heap.objs.size f cdv)) →
      DSs (cxOf (L2N.CX P wd) P wd K mg base N "law" (defScope st) f cdv A outer s H E) (WEx E) (defBody st) g) :
    ∀ {f : Addr} {fd : FuncData}, Fun K "law" "law" st f fd → FnG P wd K mg base (L2N.CX P wd) (k + 1) f fd [x] (spD K mg 1 (runD n g)) := fun F => fn_DG (funV_of F) S hn (hb _)
theorem lawG_of {k : Nat} {f : Addr} {fd : FuncData} {x : Str} {den : Den} (F : FnG P wd K mg base (L2N.CX P wd) k f fd [x] (spD K mg 1 den))
    (hd : ∀ ns : List Int, ns.length ≤ 63 → ∃ st, den [.lsk (ns.map .int)] [] = .ok (.bl true) [] st) : FnG P wd K mg base (L2N.CX P wd) k f fd [x] (spLaw K) := by
  refine F.imp fun vs H Q E h => ?_
  obtain ⟨a, ns, rfl, hS, hl, q⟩ := h
  obtain ⟨st, e⟩ := hd ns hl
  have s : Sts K ⟨mg, Low.no⟩ ⟨[], [], H, [], H, []⟩ := {
    lowG := fun _ _ z => by cases z
    lowI := fun _ _ z => by cases z
    sub := fun _ _ z => z
    ln := rfl
    len := rfl
    cel := fun i c a h => by cases h
    inj := fun i j a h => by obtain ⟨_, h, _⟩ := h; cases h
    slo := fun i x h => by cases h
    sep := fun i l a ⟨es, h, _⟩ => by cases h
    dis := fun i j a ⟨es, h, _⟩ => by cases h }
  have hsz : sizeLine = 16777216 := sizeLine_eq
  refine ⟨rfl, ⟨[], [], H, [], H, []⟩, [.lsk (ns.map .int)], rfl, rfl, rfl, s, .cons (.lsk hS (by rw [List.length_map]; omega) (reps_ints ns)) .nil, ?_⟩
  show OkR K ⟨mg, Low.no⟩ (WEx E) _ Q (den [.lsk (ns.map .int)] [])
  rw [e]
  intro w' v h1 h2 h3 A r
  cases r
  exact q _
structure Lies (K : PySem.W.Frag) (s : Shared) (a : Addr) (H : Hp) : Prop where
  only : ∀ b, H b = none ∨ (b = a ∧ ∃ o xs, H b = some (.frz o (.lst xs)))
  mine : H a ≠ none → K.lookup a = none
theorem Lies.none_of {s : Shared} {a b : Addr} {H : Hp} (L : Lies K s a H) (h : b ≠ a) : H b = none := (L.only b).elim id fun z => absurd z.1 h
theorem lawG_head {mb : Str → Option Value} {k : Nat} {fa a : Addr} {fd : FuncData} {x : Str} {s : Shared} {us : List Value} {ns : List Int} {H : Hp} (L : Lies K s a H) (hok : HOk P wd H s.heap) (hS : SqL K H a (ns.map V.int)) (kin : K.In s.heap) (gl : s.heap.Ns mainGlobals mg) (bl : s.heap.Ns builtinsNs mb)
    (bb : ∀ y : Str, y ≠ "__name__" → mb y = bootBuiltins y) (li : s.heap.NoLimit) (g0 : s.gens = #[]) (scr : s.heap.get? a = some { cls := .type "list", data := .seq us.toArray }) (h63 : ns.length ≤ 63) (hr : Room k callerA)
    (F : ∀ base : Heap, K.In base → base.Ns mainGlobals mg → FnG P wd K mg base (L2N.CX P wd) k fa fd [x] (spLaw K)) (bd : ∀ (s : Shared) (u : Value), BindsTo s fd ⟨[u], []⟩ [(x, u)]) :
    codeAny (model P wd) callerA (.call (.ref fa) ⟨[.ref a], []⟩) (fun r s' => r = .ok (.ret (.bool true)) ∧ OldK s.heap s'.heap ∧ s'.os = s.os ∧ AllBare s'.gens) s := by
  have low : ∀ {b : Addr} {m : Str → Option Value}, s.heap.Ns b m → (hidT s.heap H).Ns b m := fun {b m} ⟨o, es, ep, e, d, r⟩ => by
    refine ⟨o, es, ep, hidT_get e ?_, d, r⟩
    by_cases hb : b = a
    · rw [hb, scr] at e
      cases e
      cases d
    · exact L.none_of hb
  have kin' : K.In (hidT s.heap H) := fun b o e => hidT_get (kin b o e) (by
    by_cases hb : b = a
    · subst hb
      refine Classical.byContradiction fun z => ?_
      rw [L.mine z] at e
      cases e
    · exact L.none_of hb)
  have md : Mod K mg (hidT s.heap H) := ⟨kin', low gl, ⟨mb, low bl, bb⟩, li.elim fun mc z => ⟨mc, low z.1, z.2⟩⟩
  have en : Env0 P wd K mg (hidT s.heap H) callerA [] s H := by
    refine ⟨rfl, md, fun b o e => of_hidT e, ?_, trivial, ?_, hok, .of_eq g0⟩
    · rw [hidT_size]; exact Nat.le_refl _
    · intro b z; cases z
  have run := (F _ kin' (low gl)).at_ callerA rfl hr [] s H ⟨[.ref a], []⟩ [.ref a] [.ref a] (fun v _ => v = .bl true) (fun _ _ _ => False) en (bd s (.ref a)) (.cons rfl .nil) ⟨a, ns, rfl, hS, h63, fun _ => rfl⟩
  refine codeAny_mono run ?_
  rintro (e | fl) s' z
  · obtain ⟨_, _, _, _, _, _, _, _, _, _, _, _, _, _, _, _, z⟩ := z
  · rcases fl with _ | _ | _ | u
    · exact z.elim
    · exact z.elim
    · exact z.elim
    · obtain ⟨v, H', os, bare, un, hok', ru, rfl⟩ := z
      cases ru
      refine ⟨rfl, OldK.of_keep fun b o e => ?_, os, bare⟩
      rcases L.only b with z | ⟨_, ob, xs, z⟩
      · exact un.keep b o e z (by intro q; cases q) (by intro q; cases q)
      · have h1 := (hok b _ z).1
        have h2 := (hok' b _ (un.frzs b ob _ z)).1
        rw [e] at h1
        cases h1
        exact h2
end
theorem law_walkG {l : PySem.W.OpenLaw} {k : Nat} {x : Str} {q : Program} {loose : List Str} {XP : (Str → Option Value) → Heap → Prop} {YP : World → Heap → Prop} {d : DefRec} {K : Params → PySem.W.Frag} (hn : l.most = some 63) (hdf : d.params.defaults = []) (hr : Room k callerA)
    (hY : ∀ (w : World) (h : Heap), YP w h → (K w.params).In h)
    (F : ∀ (w : World) (mg : Str → Option Value) (fa : Addr) (h : Heap), (K w.params).In h → h.Ns mainGlobals mg → mg d.name = some (.ref fa) →
      ∃ fd : FuncData, (∀ (s : Shared) (u : Value), BindsTo s fd ⟨[u], []⟩ [(x, u)]) ∧ ∀ base : Heap, (K w.params).In base → base.Ns mainGlobals mg → FnG l.prog w (K w.params) mg base (L2N.CX l.prog w) k fa fd [x] (spLaw (K w.params))) :
    PySem.W.WalkO q loose XP YP l.row.toRowW d [] (fun f vs => PySem.call f vs) := by
  refine Att.attach_call hn hdf fun w s0 s mg mb fa o pm cd doc a us ns G Y ho hd hcd hmg scr hi h63 g0 => ?_
  have kin := hY w _ Y
  obtain ⟨fd, bd, hF⟩ := F w mg fa _ kin G.T.g hmg
  have rv := vals_ints hi
  have hsz : ns.length ≤ sizeLine := Nat.le_trans h63 (by decide)
  cases lk : (K w.params).lookup a with
  | some oa =>
    have e := kin a oa lk
    rw [scr] at e
    cases e
    have hS : SqL (K w.params) (fun _ => none) a (ns.map V.int) := .inr ⟨_, us.toArray, _, lk, rfl, rfl, rfl, by rw [List.size_toArray, hi.length]; exact hsz, by simpa using rv⟩
    exact lawG_head ⟨fun _ => .inl rfl, fun z => absurd rfl z⟩ (fun b u z => by cases z) hS kin G.T.g G.T.b G.T.builtins G.T.nolimit g0 scr h63 hr hF bd
  | none =>
    obtain ⟨H, eH⟩ : ∃ H : Hp, H = fun b => if b = a then some (.frz { cls := .type "list", data := .seq us.toArray } (.lst (ns.map V.int))) else none := ⟨_, rfl⟩
    have hA : H a = some (.frz { cls := .type "list", data := .seq us.toArray } (.lst (ns.map V.int))) := by rw [eH]; exact if_pos rfl
    have hB : ∀ b, b ≠ a → H b = none := fun b hb => by rw [eH]; exact if_neg hb
    have L : Lies (K w.params) s a H := ⟨fun b => by
      by_cases hb : b = a
      · exact .inr ⟨hb, _, _, by rw [hb]; exact hA⟩
      · exact .inl (hB b hb), fun _ => lk⟩
    refine lawG_head L (fun b u z => ?_) (.inl (.inr ⟨_, hA⟩)) kin G.T.g G.T.b G.T.builtins G.T.nolimit g0 scr h63 hr hF bd
    by_cases hb : b = a
    · subst hb
      rw [hA] at z
      cases z
      exact ⟨scr, by rw [List.length_map]; exact hsz, us, _, rv, scr⟩
    · rw [hB b hb] at z
      cases z
end DL
namespace DL
open PySem PySem.Spec PyProof.Rows L2 NdefX LamX
section
variable {P : Program} {wd : World} {K : PySem.W.Frag} {mg : Str → Option Value} {base : Heap}
def Recv (P : Program) (wd : World) (K : PySem.W.Frag) (mg : Str → Option Value) (base : Heap) (k kc m : Nat) (x : Str) (st : Stmt) (N ps : List Str) (gb : Den → DSx) : Prop := ∃ f fd, RecD P wd K mg base k kc m x st N ps gb f fd
theorem Recv.of {x : Str} {st : Stmt} {N ps : List Str} {k kc m : Nat} {gb : Den → DSx} (Df : Dfn K mg x ps st) (S : FnScope N ps (defScope st))
    (hb : ∀ (f : Addr) (b : Low) (dn : Den) (cdv : Value) (A : Around) (outer : List Env) (s : Shared) (H : Hp) (E : XK), b.ex = none → Room k (A.deeper (envOfC x (defScope st) s.heap.objs.size f cdv)) →
      (∀ pn xe, CloX ((cxOf (L2N.CX P wd) P wd K mg base N x (defScope st) f cdv A outer s H E).tr pn xe) kc m b dn) → DSs (cxOf (L2N.CX P wd) P wd K mg base N x (defScope st) f cdv A outer s H E) (WEb b E) (defBody st) (gb dn)) : Recv P wd K mg base k kc m x st N ps gb := by
  obtain ⟨f, fd, F, hmg, hB⟩ := Df
  exact ⟨f, fd, funV_of F, F.kp, hmg, hB, S, hb f⟩
structure LiesT (K : PySem.W.Frag) (s : Shared) (a : Addr) (cs : List (Addr × Addr)) (H : Hp) : Prop where
  only : ∀ b, H b = none ∨ (b = a ∧ ∃ o xs, H b = some (.frz o (.lst xs))) ∨ (b ∈ cs.map (·.2) ∧ H b = some (.tbl #[]))
  mine : H a ≠ none → K.lookup a = none
  tabs : ∀ p ∈ cs, H p.2 = some (.tbl #[])
end
end DL
namespace DL
open PySem PySem.Spec PyProof.Rows L2 NdefX LamX
structure ScN (N : List Str) : Prop where
  nd : N.Nodup
def CalG (P : Program) (w : World) (K : PySem.W.Frag) (mg : Str → Option Value) (base : Heap) (k : Nat) (x : Str) (n : Nat) (den : Den) : Prop :=
  ∃ f fd ps, FnG P w K mg base (L2N.CX P w) k f fd ps (spD K mg n den) ∧ mg x = some (.ref f) ∧ PySem.W.keepIn K (.ref f) = true ∧ Binds K fd ps []
theorem CalG.call {X : Cx} {W : WB} {k k' n : Nat} {den : Den} {x : Str} {p pos : Pos} {e : Expr} {es : List Expr} {fa : DEx} (C : CalG X.prog X.w X.K X.mg X.base k x n den) (ag : X.A.guards = some []) (hr : Room k' X.A) (hk : k ≤ k') (hg : Gl X x) (tk : L2N.Takes X W)
    (ha : DAn X W (e :: es) fa) (hn : (e :: es).length = n := by rfl) (hdb : (x == ("__debug__" : Str)) = false := by decide) (he : starEach (e :: es) X.env = (false, eval e X.env) :: starEach es X.env := by rfl) (hpl : (backTo pos (starEach es X.env)).any (·.1) = false := by rfl) :
    DE X W (.Call (.Name x p) (e :: es) [] pos) (callD den fa) := by
  obtain ⟨f, fd, ps, F, hm, kp, hb⟩ := C
  obtain ⟨⟨t, pt, rt⟩, hl⟩ := ha
  refine ⟨_, pe_sem (W := W) hg hm kp tk pt hdb he hpl, fun w Q s q => ?_⟩
  refine rt.bind (P := OkR X.K (MGx X W.b) W w Q) s q (fun d ρ st n => by cases d <;> first | rfl | exact absurd rfl (n _)) (fun _ _ _ z => z) (fun z => z) fun w1 vs ds e1 a1 r1 ee q1 => ?_
  have l : vs.length = n := by
    obtain ⟨ds', e', l⟩ := hl _ _ _ _ _ ee
    cases e'
    rw [r1.len, l]; exact hn
  have sp := sp_at a1.s l r1 e1 (OkR.aft q1 a1 e1)
  intro pins s0 us I rv
  have hl2 := F.len _ _ _ _ sp
  refine F.at_ X.A ag (hr.mono hk) X.stack s0 w1.H ⟨us, []⟩ us vs Q _ I.env0 ?_ rv sp
  have := hb s0 us I.kIn (by rw [List.append_nil, ← rv.length]; exact hl2)
  rwa [List.append_nil] at this
theorem CalG.of {P : Program} {wd : World} {K : PySem.W.Frag} {mg : Str → Option Value} {base : Heap} {x : Str} {st : Stmt} {N ps : List Str} {k n m : Nat} {g : DSx} (Df : Dfn K mg x ps st) (S : FnScope N ps (defScope st)) (hn : n = N.length) (hm : m = ps.length)
    (hb : ∀ (f : Addr) (cdv : Value) (A : Around) (outer : List Env) (s : Shared) (H : Hp) (E : XK), A.guards = some [] → Room k (A.deeper (envOfC x (defScope st) s.heap.objs.size f cdv)) →
      DSs (cxOf (L2N.CX P wd) P wd K mg base N x (defScope st) f cdv A outer s H E) (WEx E) (defBody st) g) : CalG P wd K mg base (k + 1) x m (runD n g) := by
  obtain ⟨f, fd, F, hmg, hB⟩ := Df
  subst hm
  exact ⟨f, fd, ps, fn_DG (funV_of F) S hn (hb f), hmg, F.kp, hB⟩
end DL
namespace DL
open PySem PySem.Spec PyProof.Rows L2
structure CMeth (K : PySem.W.Frag) (C f : Addr) (m : Str) : Prop where
  ga : PySem.W.specialIn K (.ref C) "__getattribute__" = some (some (.builtin "type.__getattribute__"))
  rd : PySem.W.readsIn K C (.type "type") = true
  fc : PySem.W.findCls K (.ref C) (.type "type") m = some (.val (.ref f))
  kp : PySem.W.keepIn K (.ref f) = true
def CCal (P : Program) (w : World) (K : PySem.W.Frag) (mg : Str → Option Value) (base : Heap) (k : Nat) (c m : Str) (n : Nat) (den : Den) : Prop :=
  ∃ C f fd ps, mg c = some (.ref C) ∧ CMeth K C f m ∧ FnOk P w K mg base (L2N.CX P w) k f fd ps (spD K mg n den) ∧ Binds K fd ps []
def Cfn (K : PySem.W.Frag) (mg : Str → Option Value) (c m qual : Str) (ps : List Str) (st : Stmt) : Prop := ∃ C f fd, mg c = some (.ref C) ∧ CMeth K C f m ∧ FunV K m qual st f fd ∧ Binds K fd ps []
theorem CCal.of {P : Program} {wd : World} {K : PySem.W.Frag} {mg : Str → Option Value} {base : Heap} {c m qual : Str} {st : Stmt} {N ps : List Str} {k n j : Nat} {g : DSx} (M : Cfn K mg c m qual ps st) (S : FnScope N ps (defScope st)) (hn : n = N.length) (hj : j = ps.length)
    (hb : ∀ (f : Addr) (cdv : Value) (A : Around) (outer : List Env) (s : Shared) (H : Hp) (E : XK), Room k (A.deeper (PyProof.Rows.envOfC qual (defScope st) s.heap.objs.size f cdv)) →
      DSs (cxOf (L2N.CX P wd) P wd K mg base N qual (defScope st) f cdv A outer s H E) (WEx E) (defBody st) g) : CCal P wd K mg base (k + 1) c m j (runD n g) := by
  obtain ⟨C, f, fd, h1, h2, h3, h4⟩ := M
  subst hj
  exact ⟨C, f, fd, ps, h1, h2, fn_D h3 S hn (hb f), h4⟩
theorem pe_csem {X : Cx} {W : WX} {C g : Addr} {c m : Str} {t : TA} {e : Expr} {es : List Expr} {p apos pos : Pos} {pl : Sem Bool} (hg : Gl X c) (hm : X.mg c = some (.ref C)) (M : CMeth X.K C g m) (tk : L2N.Takes X W) (ha : PA X (e :: es) t)
    (ht : eval (.Call (.Attribute (.Name c p) m apos) (e :: es) [] pos) X.env = (do let ov ← eval (.Name c p) X.env; standAt apos.atName; let (f, first) ← holding [ov] (getMethod ov m pl); callWith pos f first (backTo pos (starEach (e :: es) X.env)) (backToKw pos (keywordEach [] X.env))) := by rfl)
    (hdb : (c == ("__debug__" : Str)) = false := by decide) (he : starEach (e :: es) X.env = (false, eval e X.env) :: starEach es X.env := by rfl) (hpl : (backTo pos (starEach es X.env)).any (·.1) = false := by rfl) : PE X (.Call (.Attribute (.Name c p) m apos) (e :: es) [] pos) (tSem X W g t) := by
  refine ⟨fun pins s σ H Q I z => ?_⟩
  refine PySem.W.methodCall_KW (pl := pl) (ld_glob I hg hm ?_ hdb) ht
  refine PySem.W.method_cls I.kIn M.ga (PySem.W.cls_value I.kIn M.rd M.fc (by rfl) ?_)
  have A := ha.run pos pins { s with toks := s.toks + 1 } σ H _ (I.tok _) z
  exact PySem.W.callWith_K (h₀ := X.base) I.ok.mod.kin M.kp (thn A fun us s1 ⟨vs, H1, I1, r, q⟩ => ⟨I1.kIn, clo_ends tk I1 (q pins s1 us I1 r)⟩) he hpl
theorem CCal.call {X : Cx} {W : WB} {k k' n : Nat} {den : Den} {c m : Str} {p apos pos : Pos} {e : Expr} {es : List Expr} {fa : DEx} {pl : Sem Bool} (M : CCal X.prog X.w X.K X.mg X.base k c m n den) (hr : Room k' X.A) (hk : k ≤ k') (hg : Gl X c) (tk : L2N.Takes X W)
    (ha : DAn X W (e :: es) fa) (hn : (e :: es).length = n := by rfl)
    (ht : eval (.Call (.Attribute (.Name c p) m apos) (e :: es) [] pos) X.env = (do let ov ← eval (.Name c p) X.env; standAt apos.atName; let (f, first) ← holding [ov] (getMethod ov m pl); callWith pos f first (backTo pos (starEach (e :: es) X.env)) (backToKw pos (keywordEach [] X.env))) := by rfl)
    (hdb : (c == ("__debug__" : Str)) = false := by decide) (he : starEach (e :: es) X.env = (false, eval e X.env) :: starEach es X.env := by rfl) (hpl : (backTo pos (starEach es X.env)).any (·.1) = false := by rfl) :
    DE X W (.Call (.Attribute (.Name c p) m apos) (e :: es) [] pos) (callD den fa) := by
  obtain ⟨C, f, fd, ps, hm, M, F, hb⟩ := M
  obtain ⟨⟨t, pt, rt⟩, hl⟩ := ha
  refine ⟨_, pe_csem (W := W) (pl := pl) hg hm M tk pt ht hdb he hpl, fun w Q s q => ?_⟩
  refine rt.bind (P := OkR X.K (MGx X W.b) W w Q) s q (fun d ρ st n => by cases d <;> first | rfl | exact absurd rfl (n _)) (fun _ _ _ z => z) (fun z => z) fun w1 vs ds e1 a1 r1 ee q1 => ?_
  have l : vs.length = n := by
    obtain ⟨ds', e', l⟩ := hl _ _ _ _ _ ee
    cases e'
    rw [r1.len, l]; exact hn
  have sp := sp_at a1.s l r1 e1 (OkR.aft q1 a1 e1)
  intro pins s0 us I rv
  have hl2 := F.len _ _ _ _ sp
  refine F.run X.A X.stack s0 w1.H ⟨us, []⟩ us vs Q _ (hr.mono hk) I.env0 ?_ rv sp
  have := hb s0 us I.kIn (by rw [List.append_nil, ← rv.length]; exact hl2)
  rwa [List.append_nil] at this
end DL
namespace DL
open PySem PySem.Spec PyProof.Rows L2
section
variable {X : Cx} {W : WB} {a b e o x : Expr} {f g h : DEx} {pos apos cpos p : Pos}
def dropKD (kvs : List (Key × D)) (k : Key) : List (Key × D) := kvs.filter fun kv => decide (kv.1 ≠ k)
theorem RepK.drop {K : PySem.W.Frag} {mg : MG} {G : Hp} {ι : List Addr} {k : Key} : ∀ {vs : List (Key × V)} {ds : List (Key × D)}, RepK K mg G ι vs ds → RepK K mg G ι (dropK vs k) (dropKD ds k)
  | _, _, .nil => .nil
  | _, _, .cons (k := k') r1 r2 => by
    unfold dropK dropKD
    by_cases h : k' = k
    · rw [List.filter_cons_of_neg (by simp [h]), List.filter_cons_of_neg (by simp [h])]
      exact RepK.drop r2
    · rw [List.filter_cons_of_pos (by simp [h]), List.filter_cons_of_pos (by simp [h])]
      exact .cons r1 (RepK.drop r2)
theorem OkOd.mk {K : PySem.W.Frag} {mg : MG} {w w1 : Ws} {Q : VK} {ds : List (Key × D)} {vs : List (Key × V)} {p : Addr} (A : Aft K mg w w1) (e1 : w1.σ = w.σ) (hp : w1.H p = none) (r : RepK K mg w1.G w1.ι vs ds)
    (q : OkOd K mg W w Q (.ok (.dct ds) w1.ρ w1.st)) : Q (.ref p) (upd w1.H p (.dK vs)) :=
  q { w1 with H := upd w1.H p (.dK vs) } p vs rfl rfl e1 (A.trans (Aft.loose A.s hp)) (A.al p hp) (A.s.looseAt hp) upd_same r
end
section
variable {P : Program} {wd : World} {K : PySem.W.Frag} {mg : Str → Option Value} {base : Heap} {k n j : Nat} {x y : Str} {den : Den} {dds : List D} {ks : List Str} {v : Value}
end
end DL
namespace DL
open PySem PySem.Spec PyProof.Rows L2
theorem pe_sem0 {X : Cx} {W : WX} {g : Addr} {x : Str} {p pos : Pos} (hg : Gl X x) (hm : X.mg x = some (.ref g)) (hk : PySem.W.keepIn X.K (.ref g) = true) (tk : L2N.Takes X W) (hdb : (x == ("__debug__" : Str)) = false := by decide) : PE X (.Call (.Name x p) [] [] pos) (tSem X W g tNil) := by
  refine ⟨fun pins s σ H Q I z => ?_⟩
  refine wpAny_Call_Name_kw (ld_glob I hg hm ?_ hdb)
  exact PySem.W.callWith_K0 (first := []) I.kIn hk (clo_ends tk I (z pins s [] I .nil))
theorem Cal.call0 {X : Cx} {W : WB} {k k' n : Nat} {den : Den} {x : Str} {p pos : Pos} (C : Cal X.prog X.w X.K X.mg X.base k x n den) (hr : Room k' X.A) (hk : k ≤ k') (hg : Gl X x) (tk : L2N.Takes X W) (hn : 0 = n := by rfl) (hdb : (x == ("__debug__" : Str)) = false := by decide) :
    DE X W (.Call (.Name x p) [] [] pos) (callD den aNil) := by
  obtain ⟨f, fd, ps, F, hm, kp, hb⟩ := C
  refine ⟨_, pe_sem0 (W := W) hg hm kp tk hdb, fun w Q s q pins s0 us I rv => ?_⟩
  cases rv
  have sp : spD X.K X.mg n den [] w.H Q (fun cls dx H => W cls dx w.σ H) := sp_at s hn .nil rfl (by simpa [aNil] using q)
  have hl2 := F.len _ _ _ _ sp
  refine F.run X.A X.stack s0 w.H ⟨[], []⟩ [] [] Q _ (hr.mono hk) I.env0 ?_ .nil sp
  have := hb s0 [] I.kIn (by simpa using hl2)
  rwa [List.append_nil] at this
end DL
namespace DL
open PySem PySem.Spec PyProof.Rows L2
section
variable {P : Program} {wd : World} {κ : Type} [DecidableEq κ] {knd : KeyKind P wd κ} {A : Around} {E : Value → Shared → Prop} {J : Shared → Prop}
inductive HitsJ (P : Program) (wd : World) {κ : Type} [DecidableEq κ] (A : Around) (E : Value → Shared → Prop) (J : Shared → Prop) (kb : List (κ × Value)) : List (κ × Value) → Bool → Prop
  | nil : HitsJ P wd A E J kb [] true
  | miss {k : κ} {v : Value} {r : List (κ × Value)} : valueAt kb k = none → HitsJ P wd A E J kb ((k, v) :: r) false
  | hit {k : κ} {v y : Value} {r : List (κ × Value)} {e b : Bool} : valueAt kb k = some y → (∀ t, J t → wpAny (model P wd) A (eqBool v y) (fun z t' => z = e ∧ J t') E t) → HitsJ P wd A E J kb r b → HitsJ P wd A E J kb ((k, v) :: r) (e && b)
theorem HitsJ.look {kb : List (κ × Value)} {k : κ} {v : Value} {r : List (κ × Value)} {z : Bool} (h : HitsJ P wd A E J kb ((k, v) :: r) z) :
    (valueAt kb k = none ∧ z = false) ∨ ∃ y e b, valueAt kb k = some y ∧ (∀ t, J t → wpAny (model P wd) A (eqBool v y) (fun z t' => z = e ∧ J t') E t) ∧ HitsJ P wd A E J kb r b ∧ z = (e && b) := by
  cases h with
  | miss n => exact .inl ⟨n, rfl⟩
  | hit y e t => exact .inr ⟨_, _, _, y, e, t, rfl⟩
end
section
variable {X : Cx} {CX : CXT} {k : Nat} {f C : Addr} {fd : FuncData} {ps : List Str} {sp : Sp} {E : XK}
end
section
variable {X : Cx} {pins : List (Addr × Obj)} {σ : L2.St} {H G : Hp} {s : Shared} {mg : MG} {ι : List Addr}
end
section
variable {K : PySem.W.Frag} {mg : MG} {G : Hp} {ι : List Addr}
end
section
variable {X : Cx} {E : XK} {b : Low} {k k' : Nat} {den : Den} {c : Str} {e e2 : Expr} {g h : DEx} {pos : Pos}
end
end DL
namespace DL
open PySem PySem.Spec PyProof.Rows L2
section
variable {K : PySem.W.Frag} {mg : MG} {G G' : Hp} {ι ι' : List Addr}
end
end DL
namespace DL
open PySem PySem.W PySem.Calls PyProof.Rows
section
variable {prog : Program} {w : World} {A : Around} {E : Value → Shared → Prop} {s : Shared}
end
end DL
namespace DL
open PySem L2
section
variable {X : Cx} {W : WB} {e : Expr} {f : DEx} {p pos : Pos}
end
end DL
namespace DL
open PySem PySem.Spec PyProof.Rows L2 PySem.W
end DL
namespace DL
open PySem PySem.Spec PyProof.Rows L2 PySem.Froz
def SetT (P : Program) (w : World) (h : Heap) (a : Addr) (l : List Str) : Prop :=
  ∃ D : SD, h.get? a = some (sObj "set" D) ∧ TxOk P w D l ∧ l.Nodup ∧ Ris D.2.2.place.toList ∧ (w.params.followText "set-order" = true ∨ D.2.2.led = true)
theorem SetT.at {P : Program} {w : World} {h h' : Heap} {a : Addr} {l : List Str} (R : SetT P w h a l) (k : ∀ o, h.get? a = some o → h'.get? a = some o) : SetT P w h' a l := let ⟨D, e, r⟩ := R; ⟨D, k _ e, r⟩
section
variable {P : Program} {w : World} {A : Around} {E : Value → Shared → Prop} {s : Shared} {a : Addr}
end
end DL
namespace DL
open PySem PySem.Spec PyProof.Rows L2 PySem.Froz
abbrev nS (w : World) : Obj := { cls := .type "set", dict := none, data := .set #[] 0 (.fresh 0 0 (!w.params.followText "set-order")) }
section
variable {P : Program} {w : World} {A : Around} {E : Value → Shared → Prop} {s : Shared}
end
end DL
namespace DL
open PySem PySem.Spec PyProof.Rows L2 PySem.Froz
section
variable {P : Program} {w : World}
end
section
variable {X : Cx} {pins : List (Addr × Obj)} {σ : L2.St} {H : Hp} {s : Shared}
end
end DL
namespace DL
open PySem PySem.Spec PyProof.Rows L2 PySem.Froz
end DL
namespace DL
open PySem PySem.Spec PyProof.Rows L2
end DL
namespace DL
open PySem PySem.Spec PyProof.Rows L2
end DL
namespace DL
open PySem PySem.Spec PyProof.Rows L2
structure XMeth (K : PySem.W.Frag) (B : Addr) : Prop where
  ga : PySem.W.specialIn K (.ref B) "__getattribute__" = some (some (.builtin "type.__getattribute__"))
  rd : PySem.W.readsIn K B (.type "type") = true
  fc : PySem.W.findCls K (.ref B) (.type "type") "__init__" = some (.val (.builtin "ValueError.__init__"))
def spX (K : PySem.W.Frag) (C : Addr) (fld : Str) : Sp := fun vs H Q _ => ∃ (a : Addr) (y : V), vs = [.ref a, y] ∧ H a = some (exo a C none) ∧ OexC K C ∧ PySem.W.findIn K (.ref C) fld = some none ∧
  ∀ dx, H dx = none → dx ≠ a → Q .non (upd (upd H dx (exd dx [(fld, y)])) a (exo a C (some dx)))
def tXi (K : PySem.W.Frag) (fld msg : Str) : TS := tSeq (tDrop (tVeI K (tCons (tVar 0) (tCons (tC (.str msg)) tNil)))) (tOst K fld (tVar 0) (tVar 1))
def XCls (P : Program) (w : World) (K : PySem.W.Frag) (mg : Str → Option Value) (base : Heap) (c fld : Str) : Prop :=
  ∃ C fI fd ps, mg c = some (.ref C) ∧ OexC K C ∧ PySem.W.findIn K (.ref C) "__init__" = some (some (.ref fI)) ∧ PySem.W.typeIn K (.ref fI) = some (.type "function") ∧ PySem.W.findIn K (.ref C) fld = some none ∧
    FnOk P w K mg base (L2N.CX P w) 1 fI fd ps (spX K C fld) ∧ Binds K fd ps []
theorem XCls.of {P : Program} {wd : World} {K : PySem.W.Frag} {mg : Str → Option Value} {base : Heap} {c fld qual msg x0 x1 : Str} {C fI : Addr} {st : Stmt} {fd : FuncData} (hC : mg c = some (.ref C)) (T : OexC K C) (iC : PySem.W.findIn K (.ref C) "__init__" = some (some (.ref fI)))
    (tI : PySem.W.typeIn K (.ref fI) = some (.type "function")) (nf : PySem.W.findIn K (.ref C) fld = some none) (F : FunV K "__init__" qual st fI fd) (S : FnScope [x0, x1] [x0, x1] (defScope st)) (B : Binds K fd [x0, x1] [])
    (hb : ∀ (f : Addr) (cdv : Value) (A : Around) (outer : List Env) (s : Shared) (H : Hp) (E : XK), PSs (cxOf (L2N.CX P wd) P wd K mg base [x0, x1] qual (defScope st) f cdv A outer s H E) (defBody st) (tXi K fld msg)) : XCls P wd K mg base c fld := by
  refine ⟨C, fI, fd, [x0, x1], hC, T, iC, tI, nf, ?_, B⟩
  refine F.okD S (fun vs H Q E h => ?_) fun cdv A outer s H vs Q E hr h => ?_
  · obtain ⟨a, y, rfl, _⟩ := h
    rfl
  · obtain ⟨a, y, rfl, h1, h2, h3, h4⟩ := h
    refine ⟨_, hb _ cdv A outer s H E, ?_⟩
    refine ⟨V.ref a, rfl, a, C, [V.str msg], rfl, by simp, T, h1, ?_⟩
    refine ⟨y, rfl, V.ref a, rfl, a, C, rfl, T, h3, .inl ⟨h1, fun dx hd hn => h4 dx hd hn⟩⟩
end DL
set_option maxHeartbeats 2000000
namespace HotX
open PySem PySem.Spec PyProof.Rows
section
variable {prog : Program} {w : World} {A : Around} {E : Value → Shared → Prop} {s : Shared}
end
end HotX
namespace L2H
open PySem PySem.Spec PyProof.Rows L2 HotX
section
variable {X : Cx}
theorem vals_ints {F : Value → Value → Prop} (hF : ∀ v y, F v y → ∃ b t, v = .bool b ∧ y = .int (if b then 1 else 0) t) : ∀ {bs : List Bool} {vs ys : List Value}, Paired F vs ys → vs.length = bs.length → (∀ (j : Nat) v, vs[j]? = some v → ∃ b, bs[j]? = some b ∧ v = .bool b) → Vals (bs.map fun b => V.int (if b then 1 else 0)) ys := by
  intro bs vs ys hp
  induction hp generalizing bs with
  | nil =>
    intro hl _
    cases bs with
    | nil => exact .nil
    | cons _ _ => cases hl
  | cons h t ih =>
    intro hl hj
    cases bs with
    | nil => cases hl
    | cons b bs =>
      obtain ⟨b', e1, e2⟩ := hj 0 _ rfl
      cases e1
      obtain ⟨b2, tk, e3, e4⟩ := hF _ _ h
      rw [e2] at e3
      cases e3
      subst e4
      exact .cons ⟨_, rfl⟩ (ih (by simpa using hl) fun j v e => hj (j + 1) v e)
end
end L2H
set_option maxHeartbeats 2000000
namespace L2H
open PySem PySem.Spec PyProof.Rows L2 HotX
structure XcC (K : PySem.W.Frag) (C : Addr) : Prop where
  i : ExcC K C
  f : XfC K C
  cl : (PySem.W.clsIn K C).isSome = true
structure Xat (X : Cx) (a C : Addr) (d : Option Addr) : Prop where
  hd : X.A.handled = some (.ref a)
  pn : ∃ p ∈ X.pn, p.1 = a ∧ L2N.Zn (.ref C) d p.2 ∧ ∃ vs, p.2.data = .fields vs
theorem Xat.hot {X : Cx} {a C : Addr} {d : Option Addr} (x : Xat X a C d) : HotC X := by
  obtain ⟨p, hp, rfl, hz, vs, hv⟩ := x.pn
  exact ⟨p, ⟨x.hd, vs, hv, hz.2.2 vs hv⟩, hp⟩
section
variable {X : Cx} {a C : Addr} {d : Option Addr}
end
end L2H
namespace DL
open PySem PySem.Spec PyProof.Rows L2 L2H
section
variable {X : Cx} {W : WB} {a C : Addr} {c : Str} {od : Option Addr} {i : Nat} {x T : Str}
end
end DL
set_option maxHeartbeats 2000000
namespace L2H
open PySem PySem.Spec PyProof.Rows L2
end L2H
namespace DL
open PySem PySem.Spec PyProof.Rows L2 L2H
section
variable {K : PySem.W.Frag} {f : Str → Option Value} {b : Low} {w w' w3 : Ws} {i : Nat} {a : Addr} {c : Str} {od : Option Addr} {fs : List (Str × D)} {vs : List (Str × V)} {x : Option (Addr × Str × Option Addr)}
end
end DL
set_option maxHeartbeats 2000000
namespace L2H
open PySem PySem.Spec PyProof.Rows L2 HotX
structure FnX (P : Program) (w : World) (K : PySem.W.Frag) (mg : Str → Option Value) (base : Heap) (CX : CXT) (k : Nat) (f : Addr) (fd : FuncData) (ps : List Str) (p : Addr × Obj) (sp : Sp) : Prop where
  len : ∀ vs H Q E, sp vs H Q E → vs.length = ps.length
  run : ∀ (A : Around) (outer : List Env) (s : Shared) (H : Hp) (args : Args) (us : List Value) (vs : List V) (Q : VK) (E : XK), RoomH k A → Hot1 A p → PinOk outer H s p → Env0 P w K mg base A outer s H → BindsTo s fd args (ps.zip us) → Vals vs us → sp vs H Q E →
    codeAny (model P w) A (.call (.ref f) args) (CR CX outer P w H s Q E) s
theorem fnX_of {CX : CXT} {P : Program} {w : World} {K : PySem.W.Frag} {mg : Str → Option Value} {base : Heap} {k : Nat} {x qual : Str} {st : Stmt} {f : Addr} {fd : FuncData} {N ps : List Str} {sp : Sp} {p : Addr × Obj} (F : DL.FunV K x qual st f fd) (S : FnScope N ps (defScope st))
    (len : ∀ vs H Q E, sp vs H Q E → vs.length = ps.length)
    (hbody : ∀ (cdv : Value) (A : Around) (outer : List Env) (s : Shared) (H : Hp) (vs : List V) (Q : VK) (E : XK), Hot1 A p → RoomH k (A.deeper (envOfC qual (defScope st) s.heap.objs.size f cdv)) → sp vs H Q E →
      ∃ t, PSs (cxH CX P w K mg base N qual (defScope st) f cdv A outer s H E p) (defBody st) t ∧ t { nx := fun _ H' => Q .non H', rt := Q } (L2.start N vs) H) : FnX P w K mg base CX (k + 1) f fd ps p sp := by
  obtain ⟨oc, od, dV, kV, doc, pm, an, cdv, ct, osl, rfl, lk, hcd⟩ := F.ex
  refine ⟨len, fun A outer s H args us vs Q E hr hot hpin e0 hb r hsp => ?_⟩
  have hl := len _ _ _ _ hsp
  have kp : ∀ b o, base.get? b = some o → s.heap.get? b = some o := fun b o e => (e0.bs b o e).1
  have KX := e0.mod.kin.keeps kp
  have hkind : ∀ y ∈ ps.zip us, (defScope st).names.lookup y.1 = some .local ∨ ((defScope st).names.lookup y.1 = some .cell ∧ ((cellsFrom (s.heap.objs.size + 1) (defScope st).names []).lookup y.1).isSome = true) := fun ⟨n, v⟩ hy => by
    rcases S.par n (List.of_mem_zip hy).1 with q | q
    · exact .inl q
    · exact .inr ⟨q, PySem.W.cellsFrom_some _ _ _ (.inl q)⟩
  refine codeAny_call_function hr.depth (KX _ _ lk) rfl S.co S.gen rfl (PySem.W.codeRec_of KX hcd) (hb _ _ _ _ (wpAny_newFunctionEnv_cells S.kind hkind fun env he s1 x => ?_))
  subst he
  refine ⟨(e0.mod.nolimit.keeps kp).keeps x.toInCall.keep, codeAny_func ?_⟩
  obtain ⟨t, ht, hq⟩ := hbody cdv A outer s H vs Q E hot (hr.deeper _) hsp
  refine wpAny_mono (ht.run [] s1 (L2.start N vs) H _ (inv_startH S hpin e0 hl r x) hq) (fun fl s' hs => ?_) fun e s' hs => hs
  cases fl with
  | ret u =>
    obtain ⟨v, σ', H', J, rv, q⟩ := hs
    exact ⟨v, H', J.os, J.bare, J.base, J.hok, rv, q⟩
  | next =>
    obtain ⟨σ', H', J, q⟩ := hs
    exact ⟨.non, H', J.os, J.bare, J.base, J.hok, rfl, q⟩
  | brk => exact False.elim hs.choose_spec.choose_spec.2
  | cont => exact False.elim hs.choose_spec.choose_spec.2
end L2H
set_option maxHeartbeats 2000000
namespace DL
open PySem PySem.Spec PyProof.Rows L2 L2H
abbrev DenX := Str → List (Str × D) → Store → R
def lowX (a : Addr) (c : Str) (od : Option Addr) : Low := ⟨fun _ => none, [], none, some (a, c, od)⟩
@[simp] def enterX (n : Nat) (c : Str) (fs : List (Str × D)) : En := .exv c fs :: List.replicate (n - 1) .no
@[simp] def runX (n : Nat) (g : DSx) : DenX := fun c fs st => endR (g (enterX n c fs) st)
def spE (K : PySem.W.Frag) (mg : Str → Option Value) (a : Addr) (c : Str) (od : Option Addr) (dn : DenX) : Sp := fun vs H Q E => vs = [.ref a] ∧
  ∃ (w : Ws) (fs : List (Str × D)) (us : List (Str × V)), w.ρ = [] ∧ w.σ = [] ∧ w.H = H ∧ Sts K ⟨mg, lowX a c od⟩ w ∧ (∀ d, od = some d → w.G d = some (.xd us)) ∧ (od = none → us = []) ∧ RepF K ⟨mg, lowX a c od⟩ w.G w.ι us fs ∧ OkR K ⟨mg, lowX a c od⟩ (WEb (lowX a c od) E) w Q (dn c fs w.st)
theorem enterX_ml (n : Nat) (c : Str) (fs : List (Str × D)) (i : Nat) (es : List D) : (enterX n c fs)[i]? ≠ some (.ml es) := by
  intro h
  rcases List.mem_cons.mp (List.mem_of_getElem? h) with h | h
  · cases h
  · have := List.eq_of_mem_replicate h; cases this
theorem Sts.enterX {K : PySem.W.Frag} {mg : Str → Option Value} {w : Ws} {n : Nat} {N : List Str} {a : Addr} {c : Str} {od : Option Addr} {fs : List (Str × D)} {us : List (Str × V)} (s : Sts K ⟨mg, lowX a c od⟩ w) (hn : n = N.length) (h0 : 0 < n)
    (h1 : ∀ d, od = some d → w.G d = some (.xd us)) (h2 : od = none → us = []) (r : RepF K ⟨mg, lowX a c od⟩ w.G w.ι us fs) : Sts K ⟨mg, lowX a c od⟩ { w with ρ := DL.enterX n c fs, σ := L2.start N [.ref a] } where
  lowG := s.lowG
  lowI := s.lowI
  sub := s.sub
  ln := by unfold DL.enterX L2.start; simp [← hn]
  len := s.len
  cel := s.cel
  inj := s.inj
  slo := fun i x h => by
    show SlotAt K ⟨mg, lowX a c od⟩ { w with ρ := DL.enterX n c fs, σ := L2.start N [.ref a] } (L2.start N [.ref a])[i]? x
    have h' : (DL.enterX n c fs)[i]? = some x := h
    cases i with
    | zero =>
      have e : Sl.exv c fs = x := by simpa using h'
      subst e
      exact ⟨a, od, us, by unfold L2.start; simp, rfl, h1, h2, r⟩
    | succ j =>
      have h2 : (List.replicate (n - 1) Sl.no)[j]? = some x := by simpa using h'
      have := List.eq_of_mem_replicate (List.mem_of_getElem? h2)
      subst this; trivial
  sep := fun i l a ⟨es, h, _⟩ _ => absurd h (enterX_ml _ _ _ _ _)
  dis := fun i j a ⟨es, h, _⟩ _ => absurd h (enterX_ml _ _ _ _ _)
theorem fnX_D {P : Program} {wd : World} {K : PySem.W.Frag} {mg : Str → Option Value} {base : Heap} {x qual : Str} {st : Stmt} {f : Addr} {fd : FuncData} {N ps : List Str} {k n : Nat} {g : DSx} {a : Addr} {c : Str} {od : Option Addr} {p : Addr × Obj} (F : FunV K x qual st f fd) (S : FnScope N ps (defScope st)) (hn : n = N.length) (h1 : ps.length = 1) (h0 : 0 < n)
    (hb : ∀ (cdv : Value) (A : Around) (outer : List Env) (s : Shared) (H : Hp) (E : XK), Hot1 A p → RoomH k (A.deeper (PyProof.Rows.envOfC qual (defScope st) s.heap.objs.size f cdv)) →
      DSs (cxH (L2N.CX P wd) P wd K mg base N qual (defScope st) f cdv A outer s H E p) (WEb (lowX a c od) E) (defBody st) g) : FnX P wd K mg base (L2N.CX P wd) (k + 1) f fd ps p (spE K mg a c od (runX n g)) := by
  refine fnX_of F S (fun vs H Q E h => by rw [h.1, h1]; rfl) fun cdv A outer s H vs Q E hot hr h => ?_
  obtain ⟨rfl, w, fs, us, hρ, hσ, rfl, sts, g1, g2, r, ok⟩ := h
  obtain ⟨t, pt, rt⟩ := hb cdv A outer s w.H E hot hr
  refine ⟨t, pt, ?_⟩
  have sts' := sts.enterX hn h0 g1 g2 r (N := N)
  have e0 : w.strip = w := ws_strip hρ hσ
  have s0 : Sts K ⟨mg, lowX a c od⟩ w.strip := by rw [e0]; exact sts
  have out : ∀ w', Aft K ⟨mg, lowX a c od⟩ { w with ρ := DL.enterX n c fs, σ := start N [V.ref a] } w' → Aft K ⟨mg, lowX a c od⟩ w w'.strip := fun w' A => by
    have := Aft.out (w := w) s0 (enterX_ml n c fs) A
    rwa [e0] at this
  refine rt { w with ρ := DL.enterX n c fs, σ := start N [V.ref a] } { nx := fun _ H' => Q .non H', rt := Q } sts' ?_
  unfold runX at ok
  show OkF K ⟨mg, lowX a c od⟩ (WEb (lowX a c od) E) _ _ (g (DL.enterX n c fs) w.st)
  cases e : g (DL.enterX n c fs) w.st with
  | nx ρ st' =>
    rw [e] at ok
    intro w' k1 k2 A
    exact ok w'.strip .non rfl k2 hσ.symm (out w' A) .non
  | rt d ρ st' =>
    rw [e] at ok
    intro w' v k1 k2 A r
    exact ok w'.strip v rfl k2 hσ.symm (out w' A) r
  | bk ρ st' => rw [e] at ok; exact ok.elim
  | ct ρ st' => rw [e] at ok; exact ok.elim
  | exc c ρ st' =>
    rw [e] at ok
    intro w' cls dx k1 k2 A r
    exact ok w'.strip cls dx rfl k2 hσ.symm (out w' A) r
  | bad => rw [e] at ok; exact ok.elim
def XCal (P : Program) (w : World) (K : PySem.W.Frag) (mg : Str → Option Value) (base : Heap) (cs : Str → Bool) (k : Nat) (x : Str) (dn : DenX) : Prop :=
  ∃ f fd ps, mg x = some (.ref f) ∧ PySem.W.keepIn K (.ref f) = true ∧ Binds K fd ps [] ∧ ∀ (a : Addr) (c : Str) (C : Addr) (od : Option Addr) (p : Addr × Obj), p.1 = a → L2N.Zn (.ref C) od p.2 → (∃ vs, p.2.data = .fields vs) → mg c = some (.ref C) → cs c = true → FnX P w K mg base (L2N.CX P w) k f fd ps p (spE K mg a c od dn)
end DL
set_option maxHeartbeats 2000000
namespace L2
theorem Room.u80 {k : Nat} {A : PySem.Around} (r : Room k A) : A.units + 80 < PySem.cLine := by have := r.un; omega
theorem Room.u65 {k : Nat} {A : PySem.Around} (r : Room k A) : A.units + 65 < PySem.cLine := by have := r.un; omega
end L2
namespace L2H
open PySem PySem.Spec PyProof.Rows L2
theorem RoomH.units {k : Nat} {A : Around} (r : RoomH k A) : A.units + 64 < cLine := by have := r.un; omega
theorem RoomH.units0 {k : Nat} {A : Around} (r : RoomH k A) : A.units < cLine := by have := r.un; omega
theorem RoomH.u65 {k : Nat} {A : Around} (r : RoomH k A) : A.units + 65 < cLine := by have := r.un; omega
theorem RoomH.u80 {k : Nat} {A : Around} (r : RoomH k A) : A.units + 80 < cLine := by have := r.un; omega
end L2H
namespace DL
open PySem PySem.Spec PyProof.Rows L2 L2H
section
variable {X : Cx} {W : WB} {a C : Addr} {c : Str} {od : Option Addr} {i : Nat}
theorem XCal.of {P : Program} {wd : World} {K : PySem.W.Frag} {mg : Str → Option Value} {base : Heap} {cs : Str → Bool} {x : Str} {st : Stmt} {N ps : List Str} {k n : Nat} {g : DSx} (Df : Dfn K mg x ps st) (S : FnScope N ps (defScope st)) (hn : n = N.length) (h1 : ps.length = 1) (h0 : 0 < n)
    (hb : ∀ (f : Addr) (cdv : Value) (A : Around) (outer : List Env) (s : Shared) (H : Hp) (E : XK) (a : Addr) (c : Str) (C : Addr) (od : Option Addr) (p : Addr × Obj), mg c = some (.ref C) → cs c = true → Xat (cxH (L2N.CX P wd) P wd K mg base N x (defScope st) f cdv A outer s H E p) a C od → RoomH k (A.deeper (PyProof.Rows.envOfC x (defScope st) s.heap.objs.size f cdv)) →
      DSs (cxH (L2N.CX P wd) P wd K mg base N x (defScope st) f cdv A outer s H E p) (WEb (lowX a c od) E) (defBody st) g) : XCal P wd K mg base cs (k + 1) x (runX n g) := by
  obtain ⟨f, fd, F, hmg, hB⟩ := Df
  refine ⟨f, fd, ps, hmg, F.kp, hB, fun a c C od p hp hz hv hC hcs => ?_⟩
  refine fnX_D (funV_of F) S hn h1 h0 fun cdv A outer s H E hot hr => hb f cdv A outer s H E a c C od p hC hcs ⟨?_, p, ?_, hp, hz, hv⟩ hr
  · rw [← hp]; exact hot.1
  · show p ∈ [p]
    simp
end
end DL
namespace DL
open PySem PySem.Spec PyProof.Rows L2 L2H
section
variable {K : PySem.W.Frag} {mg : Str → Option Value} {x y : Str} {A B : Addr}
end
end DL
namespace DL
open PySem PySem.Spec PyProof.Rows L2
section
variable {X : Cx} {W : WB} {o e x : Expr} {f g h : DEx} {apos cpos : Pos}
end
@[simp] def zipRD (f : DEx) (ρ : En) (st : Store) : R := (f ρ st).bind fun d ρ st => match d with
  | .tup [.lst xs, .lst ys] => .ok (.lst (zipItems xs ys)) ρ st
  | .tup [.tup xs, .tup ys] => .ok (.lst (zipItems xs ys)) ρ st
  | .tup [.ref l, .lst ys] => (match st[l]? with
    | some (.lst xs) => .ok (.tup [.lst (zipItems xs ys), .ref l, .lst xs]) ρ st
    | _ => .bad)
  | _ => .bad
theorem walk_zipC {K : PySem.W.Frag} {a b : Addr} {ys : List V} {n m : Nat} (hn : n = min m ys.length) : Walk (Itz K a b) n (fun H => (∃ vs, SqL K H a vs ∧ vs.length = m) ∧ SqL K H b ys) (fun i H v H' => ∃ T x z, v = .ref T ∧ H T = none ∧ H' = upd H T (.tup [x, z]) ∧ (∀ xs, SqL K H a xs → xs[i]? = some x) ∧ ys[i]? = some z) := by
  subst hn
  refine ⟨fun i _ hi q => ?_, fun _ q => ?_, fun i H v H' _ q y => ?_⟩
  · obtain ⟨⟨xs, h1, h2⟩, h3⟩ := q
    have l1 : i < xs.length := by omega
    have l2 : i < ys.length := by omega
    exact ⟨xs, ys, xs[i], ys[i], h1, h3, by simp [l1], by simp [l2]⟩
  · obtain ⟨⟨xs, h1, h2⟩, h3⟩ := q
    exact ⟨xs, ys, h1, h3, by omega⟩
  · obtain ⟨T, x, z, h1, h2, h3, h4, h5⟩ := y
    exact ⟨T, x, z, h1, h2, h3, h4, h5 ys q.2⟩
theorem di_zipR {X : Cx} {W : WB} {e e2 : Expr} {f : DEx} {p pos : Pos} {elts : List Expr} {kk : Nat} {tpos : Pos} (hg : Gl X "zip") (hm : X.mg "zip" = none) (ha : DAn X W [e, e2] f) (hs : starEach [e, e2] X.env = (false, eval e X.env) :: starEach [e2] X.env := by rfl) (hpl : (backTo pos (starEach [e2] X.env)).any (·.1) = false := by rfl) :
    DI X W (.Tuple elts kk tpos) (.Call (.Name "zip" p) [e, e2] [] pos) (zipRD f) := by
  obtain ⟨⟨t, pt, rt⟩, _⟩ := ha
  refine ⟨_, RZ.pi_zipA hg hm pt hs hpl, fun w Q s q => ?_⟩
  refine rt.bindI s q (fun d ρ st n => by cases d <;> first | rfl | exact absurd rfl (n _)) fun w1 vs ds e1 A r q1 => ?_
  split at q1
  · rename_i xs ys hj
    cases hj
    obtain ⟨v, v', rfl, rv, rv'⟩ := r.inv2
    cases rv with
    | lst hs hl rs =>
      cases rv' with
      | lst hs' hl' rs' =>
        refine ⟨_, _, _, _, rfl, .inl ⟨SqL.of (A.s.sub _ _ hs), SqL.of (A.s.sub _ _ hs'), q1 w1 _ rfl rfl e1 A ?_ trivial⟩⟩
        refine iter_pair (walk_zip rfl) (by simp [zipItems, rs.len, rs'.len]) (fun w2 A2 => ⟨SqL.of (A2.s.sub _ _ (A2.g _ _ hs)), SqL.of (A2.s.sub _ _ (A2.g _ _ hs'))⟩) fun i d hd => ?_
        obtain ⟨x, y, hx, hy, rfl⟩ := zipItems_get hd
        refine ⟨_, _, rfl, fun v h => ?_, fun v h => ?_⟩
        · obtain ⟨d', e', rp⟩ := rs.getV h
          rw [hx] at e'; cases e'; exact rp
        · obtain ⟨d', e', rp⟩ := rs'.getV h
          rw [hy] at e'; cases e'; exact rp
  · rename_i xs ys hj
    cases hj
    obtain ⟨v, v', rfl, rv, rv'⟩ := r.inv2
    cases rv with
    | tup hs hl rs =>
      cases rv' with
      | tup hs' hl' rs' =>
        refine ⟨_, _, _, _, rfl, .inr ⟨SqT.mono A.s.sub hs, SqT.mono A.s.sub hs', q1 w1 _ rfl rfl e1 A ?_ trivial⟩⟩
        refine iter_pair (walk_zipT rfl) (by simp [zipItems, rs.len, rs'.len]) (fun w2 A2 => ⟨SqT.mono A2.s.sub (SqT.mono A2.g hs), SqT.mono A2.s.sub (SqT.mono A2.g hs')⟩) fun i d hd => ?_
        obtain ⟨x, y, hx, hy, rfl⟩ := zipItems_get hd
        refine ⟨_, _, rfl, fun v h => ?_, fun v h => ?_⟩
        · obtain ⟨d', e', rp⟩ := rs.getV h
          rw [hx] at e'; cases e'; exact rp
        · obtain ⟨d', e', rp⟩ := rs'.getV h
          rw [hy] at e'; cases e'; exact rp
  · rename_i l ys hj
    cases hj
    obtain ⟨v, v', rfl, rv, rv'⟩ := r.inv2
    cases rv with
    | ref hi =>
      rename_i a
      cases rv' with
      | lst hs' hl' rs' =>
        rename_i b ws
        split at q1
        · rename_i xs hst
          obtain ⟨_, vs, hh, _, rs0⟩ := A.s.cel l _ a hst hi
          refine ⟨_, _, _, _, rfl, .inl ⟨SqL.of hh, SqL.of (A.s.sub _ _ hs'), q1 w1 _ rfl rfl e1 A ?_ hst⟩⟩
          refine ⟨_, _, walk_zipC (ys := ws) (n := (zipItems xs ys).length) (m := xs.length) (by simp [zipItems, rs'.len]), fun w2 F og => ?_, ?_⟩
          · obtain ⟨_, vs, h, _, r⟩ := F.s.cel l _ a og (F.i _ _ hi)
            exact ⟨⟨vs, SqL.of h, r.len⟩, SqL.of (F.s.sub _ _ (F.g _ _ hs'))⟩
          · rintro i w2 x H' d hd F og ⟨T, y, z, rfl, hT, rfl, hy, hz⟩
            obtain ⟨_, vs, h, _, r⟩ := F.s.cel l _ a og (F.i _ _ hi)
            obtain ⟨d1, d2, hd1, hd2, rfl⟩ := zipItems_get hd
            obtain ⟨d', e', rp⟩ := r.getV (hy vs (SqL.of h))
            rw [hd1] at e'; cases e'
            obtain ⟨d'', e'', rp'⟩ := rs'.getV hz
            rw [hd2] at e''; cases e''
            have A' := Aft.alloc (o := .tup [y, z]) F.s hT
            refine ⟨_, A', .tup (.inl (.inl upd_same)) (show 2 ≤ sizeLine by decide) ?_⟩
            exact .cons (rp.mono A'.g A'.i) (.cons ((rp'.mono F.g F.i).mono A'.g A'.i) .nil)
        · exact q1.elim
  · exact q1.elim
end DL
namespace DL
open PySem PySem.Spec PyProof.Rows L2
section
variable {K : PySem.W.Frag} {mg : MG}
end
end DL
namespace DL
open PySem PySem.Spec PyProof.Rows L2
section
variable {K : PySem.W.Frag} {mg : MG} {G G' : Hp} {ι ι' : List Addr}
end
def Fst (w : Ws) (b : Addr) : Prop := ∃ (l : Nat) (ds : List D), w.st[l]? = some (Cell.lst ds) ∧ w.ι[l]? = some b
theorem Fst.at {K : PySem.W.Frag} {mg : MG} {w : Ws} {b : Addr} (s : Sts K mg w) (h : Fst w b) : w.G b = none ∧ ∃ vs, w.H b = some (HO.lst vs) := by
  obtain ⟨l, ds, h1, h2⟩ := h
  obtain ⟨g0, vs, e1, _, _⟩ := s.cel l _ b h1 h2
  exact ⟨g0, vs, e1⟩
end DL
namespace DL
open PySem PySem.Spec PyProof.Rows L2
def kP : Key → PyData
  | .inl i => .int i
  | .inr s => .str s
inductive DpK (K : PySem.W.Frag) (H : Hp) : List (Key × V) → List (PyData × PyData) → Prop
  | nil : DpK K H [] []
  | cons {k : Key} {v : V} {d : PyData} {vs : List (Key × V)} {ds : List (PyData × PyData)} : Dp K H v d → DpK K H vs ds → DpK K H ((k, v) :: vs) ((kP k, d) :: ds)
end DL
set_option maxHeartbeats 2000000
namespace DL
open PySem PySem.Spec PyProof.Rows L2 PySem.Froz
section
variable {X : Cx} {c d : Expr} {t u : TT}
end
section
variable {X : Cx} {pins : List (Addr × Obj)} {σ : L2.St} {H : Hp} {s : Shared}
end
section
variable {X : Cx}
end
section
variable {K : PySem.W.Frag} {mg : MG} {W : WB}
end
section
variable {X : Cx} {W : WB} {elt tg iter : Expr} {ifs : List Expr} {scope : Scope} {own : List (PySem.Str × Nat)} {p pos cpos : Pos} {is : List Nat} {fi : DEx} {g : DGx} {c f : DEx}
end
section
variable {X : Cx} {W : WB} {a b : Expr} {f g : DEx} {pos : Pos}
end
theorem RepV.allocd {K : PySem.W.Frag} {mg : MG} {w : Ws} {v : V} {d : D} (s : Sts K mg w) {p : Addr} {o : HO} (hp : w.H p = none) (h : RepV K mg w v d) : RepV K mg { w with G := upd w.G p o, H := upd w.H p o } v d := by
  have A := Aft.alloc (o := o) s hp
  have k : ∀ a u, w.H a = some u → upd w.H p o a = some u := fun a u e => by rw [upd_ne (fun z => by rw [z, hp] at e; cases e)]; exact e
  rcases h with h | ⟨a, vs, ds, e1, e2, h1, h2, h3⟩ | ⟨a, vs, ds, e1, e2, h1, h2⟩
  · exact .inl (h.mono A.g A.i)
  · exact .inr (.inl ⟨a, vs, ds, e1, e2, k _ _ h1, h2, h3.mono A.g A.i⟩)
  · exact .inr (.inr ⟨a, vs, ds, e1, e2, k _ _ h1, h2.mono A.g A.i⟩)
section
variable {X : Cx} {W : WB} {e : Expr} {es : List Expr} {f : DEx} {p pos tpos : Pos} {Ts : List String}
theorem de_isiTV {k : Nat} (hg : Gl X "isinstance") (hm : X.mg "isinstance" = none) (ht : Tys X es Ts) (ha : DV X W e f)
    (he : starEach [e, .Tuple es k tpos] X.env = (false, eval e X.env) :: starEach [.Tuple es k tpos] X.env := by rfl) (he2 : starEach [.Tuple es k tpos] X.env = (false, eval (.Tuple es k tpos) X.env) :: starEach [] X.env := by rfl) (hpl : (backTo pos (starEach [.Tuple es k tpos] X.env)).any (·.1) = false := by rfl)
    (hl : Ts.length ≤ sizeLine := by decide) : DE X W (.Call (.Name "isinstance" p) [e, .Tuple es k tpos] [] pos) (lift1 (pIsiT Ts) f) := by
  obtain ⟨te, pe, re⟩ := ha
  refine ⟨_, pe_callB call_isiT hg hm (by decide +kernel) (pa_cons pe (pa_cons (pe_tup ht) pa_nil he2) he) (by decide) (by decide) he hpl, fun w Q s q => ?_⟩
  refine re.bindR (Q := Q) s q fun w1 v d s1 e1 a1 r1 q1 => ?_
  refine ⟨by simpa using hl, fun l hp => ?_⟩
  have A := Aft.alloc (o := .tup (Ts.map V.ty)) s1 hp
  cases z : pIsiT Ts d with
  | none => simp only [z] at q1; exact q1.elim
  | some y =>
    simp only [z] at q1
    unfold pIsiT at z
    split at z
    · rename_i n hn
      obtain ⟨b, hb, rfl⟩ := Option.map_eq_some_iff.mp z
      refine ⟨v, l, Ts.map V.ty, .type n, Ts.map .type, b, rfl, upd_same, paired_ty Ts, RepV.ty A.s (RepV.allocd s1 hp r1) hn, isiAny_kit hb, ?_⟩
      exact q1 { w1 with G := upd w1.G l (.tup (Ts.map V.ty)), H := upd w1.H l (.tup (Ts.map V.ty)) } _ rfl rfl rfl A (.bl _)
    · cases z
end
end DL
namespace PySem.SeqAt
open AutoSeq1 (wpAny_loadPart')
open MeetsSeq MeetsSeq2 MeetsSeq3 SeqRoads2
end PySem.SeqAt
namespace DL
open PySem PySem.Spec PyProof.Rows L2 PySem.W
end DL
namespace DL
open PySem PySem.Spec PyProof.Rows L2 PySem.W PySem.Calls
section
variable {X : Cx} {W : WB} {e tg : Expr} {es : List Expr} {f : DEx} {g : DGx} {h : List D → En → Option En} {pos p : Pos}
end
end DL
namespace DL
open PySem PySem.Spec PyProof.Rows L2
section
variable {X : Cx} {W : WB} {o e : Expr} {f g : DEx} {apos pos : Pos}
end
end DL
namespace DL
open PySem L2
section
variable {X : Cx} {W : WB}
theorem Cal.mono {P : Program} {w : World} {K : PySem.W.Frag} {mg : Str → Option Value} {base : Heap} {k k' n : Nat} {x : Str} {den : Den} (C : Cal P w K mg base k x n den) (h : k ≤ k') : Cal P w K mg base k' x n den := by
  obtain ⟨f, fd, ps, F, r⟩ := C
  exact ⟨f, fd, ps, F.mono h, r⟩
end
end DL
namespace DL
open PySem PySem.Spec PyProof.Rows L2
section
variable {X : Cx} {x : Str} {ents : List (Str × Option D)}
end
section
variable {X : Cx} {W : WB} {x : Str} {ents : List (Str × Option D)} {a e : Expr} {f g : DEx} {p pos : Pos}
end
end DL
namespace DL
open PySem PySem.Spec PyProof.Rows L2
section
variable {X : Cx} {W : WB}
end
end DL
namespace DL
open PySem PySem.Spec PyProof.Rows L2
section
variable {K : PySem.W.Frag} {mg : MG}
end
end DL
namespace DL
open PySem PySem.Spec PyProof.Rows L2 NdefX LamX LiI
section
variable {X : Cx} {e : Expr} {te : TE} {p apos cpos pos lpos kpos : Pos}
end
end DL
namespace DL
open PySem PySem.Spec PyProof.Rows PySem.SeqAt L2
section
variable {X : Cx} {W : WB} {a b : Expr} {f g : DEx} {pos : Pos}
inductive DJ (X : Cx) (W : WB) : List Expr → List DEx → Prop where
  | nil : DJ X W [] []
  | cons {e : Expr} {f : DEx} {es : List Expr} {fs : List DEx} (h : DE X W e f) (r : DJ X W es fs) : DJ X W (e :: es) (f :: fs)
end
section
variable {X : Cx} {CX : CXT} {k : Nat} {f C : Addr} {fd : FuncData} {ps : List Str} {sp : Sp} {E : XK}
end
section
variable {X : Cx} {E : XK} {b : Low} {k k' : Nat} {den : Den} {c : Str} {e : Expr} {g : DEx} {p pos : Pos}
end
end DL
set_option maxHeartbeats 400000
namespace DL
open PySem PySem.Spec PyProof.Rows L2
section
variable {X : Cx} {e ke : Expr} {te : TE} {p pos kpos : Pos}
end
section
variable {X : Cx} {W : WB} {e : Expr} {f : DEx} {p np pos kpos : Pos}
end
end DL
set_option maxHeartbeats 400000
namespace DL
open PySem PySem.Spec PyProof.Rows L2 NdefX LamX
section
variable {X : Cx} {e : Expr} {te : TE} {p pos lpos kpos : Pos}
end
end DL
namespace DL
open PySem PySem.Spec PyProof.Rows L2
section
variable {K : PySem.W.Frag} {mg : MG}
end
end DL
namespace DL
open PySem PySem.Spec PyProof.Rows L2
end DL
namespace BK
section
variable {τ σ : Type} [DecidableEq τ] [DecidableEq σ] [BK σ]
def first (p : Run τ σ) : σ := p.2.headD emp
end
end BK
namespace BK
section
variable {τ σ : Type} [DecidableEq τ] [DecidableEq σ] [BK σ]
end
end BK
namespace DL
open PySem L2
end DL
namespace DL
open PySem L2
section
variable {X : Cx} {W : WB} {e1 e2 j k : Expr} {f : DEx} {p q : DPx} {x : Str} {np np2 pos tpos tpos2 pt pv2 : Pos} {i kt kv : Nat}
end
end DL
set_option maxHeartbeats 2000000
namespace DL
open PySem L2
section
variable {K : PySem.W.Frag} {mg : MG} {W : WB}
end
section
variable {X : Cx} {W : WB} {elt tg iter tg1 iter1 : Expr} {ifs ifs1 : List Expr} {scope : Scope} {own : List (Str × Nat)} {is is1 vs1 : List Nat} {pos : Pos} {fi : DEx} {g : DGx} {c fi1 : DEx} {g1 : DGx} {c1 f : DEx}
end
end DL
namespace DL
open PySem PySem.Spec PyProof.Rows L2
end DL
namespace DL
open PySem PySem.Spec PyProof.Rows L2
section
variable {X : Cx} {W : WB} {e : Expr} {f : DEx} {p pos : Pos}
end
end DL
namespace DL
open PySem PySem.Spec PySem.W PyProof.Rows L2
section
variable {X : Cx} {W : WB} {e : Expr} {f : DEx} {p pos : Pos} {best : PyData → List PyData → PyData}
end
end DL
namespace DL
open PySem PySem.Spec PyProof.Rows L2
end DL
set_option maxHeartbeats 2000000
namespace L2H
open PySem PySem.Spec PyProof.Rows L2
section
variable {X : Cx} {a C : Addr} {d : Option Addr}
end
end L2H
namespace DL
open PySem PySem.Spec PyProof.Rows L2 L2H
section
variable {X : Cx} {W : WB} {a C : Addr} {c : Str} {od : Option Addr} {i : Nat} {x : Str}
end
section
variable {K : PySem.W.Frag} {mg : Str → Option Value} {x : Str} {A : Addr}
end
end DL
namespace DL
open PySem PySem.Spec PyProof.Rows L2
end DL
namespace DL
open PySem PySem.Spec PyProof.Rows L2 PySem.W PySem.Calls
end DL
namespace DL
open PySem PySem.Spec PyProof.Rows L2
end DL
namespace DL
open PySem PySem.Spec PyProof.Rows L2 PySem.W PySem.Calls
end DL
namespace PySem.SeqAt
open AutoSeq1 (wpAny_loadPart')
open MeetsSeq MeetsSeq2 MeetsSeq3
def IsDct (h : Heap) (l : Addr) : Prop := ∃ es ep, h.get? l = some { cls := .type "dict", dict := none, data := .dict es ep, slots := #[] }
section
variable (l : Addr) (es : Array DictEntry) (ep : Nat)
end
section
variable {A : Around} {s : Shared} {l : Addr}
end
end PySem.SeqAt
namespace DL
open PySem PySem.Spec PyProof.Rows L2
section
variable {X : Cx} {W : WB} {e j : Expr} {f g : DEx} {x : Str} {np pos tpos : Pos} {i : Nat}
end
end DL
namespace DL
open PySem PySem.Spec PyProof.Rows L2 SeqAt
def CtV (K : PySem.W.Frag) (H : Hp) (x : V) : Prop := ∃ a, x = .ref a ∧ ((∃ xs, SqL K H a xs) ∨ (∃ xs, SqT K H a xs) ∨ ∃ kvs, Rd H a (.dK kvs))
def CtA (h : Heap) (a : Addr) : Prop := (∃ vs, h.IsList a vs) ∨ (∃ vs, h.IsTuple a vs) ∨ IsDct h a
section
variable {X : Cx} {pins : List (Addr × Obj)} {σ : L2.St} {H : Hp} {s : Shared}
theorem CtV.at (I : Inv X pins σ H s) {x : V} {v : Value} (c : CtV X.K H x) (r : RelV x v) : ∃ a, v = .ref a ∧ CtA s.heap a := by
  obtain ⟨a, rfl, c⟩ := c
  cases (show v = Value.ref a from r)
  refine ⟨a, rfl, ?_⟩
  rcases c with ⟨xs, h⟩ | ⟨xs, h⟩ | ⟨kvs, h⟩
  · obtain ⟨its, _, hl, _⟩ := I.list h
    exact .inl ⟨_, hl.isList⟩
  · obtain ⟨its, _, hl, _⟩ := I.tuple h
    exact .inr (.inl ⟨_, hl⟩)
  · obtain ⟨_, _, vs, _, o, es, ep, ho, hex, hd, _⟩ := dk_rd I.hok h
    obtain ⟨h1, h2, h3⟩ := hex
    refine .inr (.inr ⟨es, ep, ?_⟩)
    rw [ho]
    cases o
    simp only at h1 h2 h3 hd
    subst h1 h2 h3 hd
    rfl
end
inductive ScV : V → PyData → Prop
  | non : ScV .non .none
  | bl (b : Bool) : ScV (.bl b) (.bool b)
  | int (i : Int) : ScV (.int i) (.int i)
  | str (x : Str) : ScV (.str x) (.str x)
theorem ScV.reads {x : V} {p : PyData} {v : Value} {h : Heap} (c : ScV x p) (r : RelV x v) : Reads h v p [] := by
  cases c with
  | non => cases (show v = Value.none from r); exact .none
  | bl b => cases (show v = Value.bool b from r); exact .bool b
  | int i => obtain ⟨t, rfl⟩ := (show ∃ t, v = Value.int i t from r); exact .int i t
  | str x => obtain ⟨t, rfl⟩ := (show ∃ t, v = Value.str x t from r); exact .str x t
theorem ScV.dep {x : V} {p : PyData} (c : ScV x p) : p.depth = 0 := by cases c <;> rfl
section
variable {A : Around} {s : Shared}
end
def AnB (K : PySem.W.Frag) (H : Hp) (x y : V) (b : Bool) : Prop := ∃ q, ScV y q ∧ ((CtV K H x ∧ b = false) ∨ ∃ p, ScV x p ∧ p.canLay0 = true ∧ q.canLay0 = true ∧ b = PyData.eqv p q)
inductive AnL (K : PySem.W.Frag) (H : Hp) : List V → List V → List Bool → Prop
  | nil : AnL K H [] [] []
  | cons {x y : V} {b : Bool} {xs ys : List V} {bs : List Bool} : AnB K H x y b → AnL K H xs ys bs → AnL K H (x :: xs) (y :: ys) (b :: bs)
section
variable {X : Cx} {pins : List (Addr × Obj)} {σ : L2.St} {H : Hp} {s : Shared}
end
end DL
namespace DL
open PySem PySem.Spec PyProof.Rows L2 SeqAt
section
variable {K : PySem.W.Frag} {mg : MG} {H : Hp} {ι : List Addr}
end
section
variable {K : PySem.W.Frag} {mg : MG}
end
end DL
namespace DL
open PySem PySem.Spec PyProof.Rows PySem.SeqAt L2 MeetsSeq MeetsSeq2 MeetsSeq3 SeqRoads2
open AutoSeq1 (wpAny_loadPart')
section
variable {prog : Program} {w : World} {A : Around} {E : Value → Shared → Prop} {s : Shared} {a C l : Addr} {oa : Obj}
structure OutAt (M : Model) (h : Heap) (a : Addr) (C : Addr) (T : String) : Prop where
  ob : ∃ dx, h.get? a = some (PySem.W.instObj C dx)
  no : PySem.W.Looks M h (isSubtype (.ref C) (.type T)) false
structure DtAt (s : Shared) (y : Value) (T : String) : Prop where
  ty : s.TypeIs y T
  ne : ∀ a : Addr, (∃ C dx, s.heap.get? a = some (PySem.W.instObj C dx)) → y ≠ .ref a
structure LoopS (prog : Program) (w : World) (l : Addr) (N : Nat) (x : Value) (A : Around) (R : Result → Shared → Prop) (P : Nat → Shared → Prop) : Prop where
  st : ∀ i s, P i s → ∃ items n dd sl, s.heap.get? l = some { cls := .type "list", dict := dd, data := .seq items n, slots := sl } ∧ items.size = N ∧ ∀ (h : i < items.size), wpAny (model prog w) A.in1 (eqBool items[i] x) (fun b s' => if b = true then R (.ok (.ret (.bool true))) s' else P (i + 1) s') (fun e s' => R (.error e) s') s
  fin : ∀ s, P N s → R (.ok (.ret (.bool false))) s
end
end DL
namespace DL
open PySem PySem.Spec PyProof.Rows PySem.SeqAt L2 MeetsSeq MeetsSeq2 MeetsSeq3 SeqRoads2
def DatV (K : PySem.W.Frag) (H : Hp) (v : V) : Prop := CtV K H v ∨ ∃ p, ScV v p
section
variable {X : Cx} {CX : CXT} {k : Nat} {f C : Addr} {fd : FuncData} {ps : List Str} {sp : Sp} {E : XK} {b : Low}
theorem DatV.at {pins : List (Addr × Obj)} {σ : L2.St} {H : Hp} {s : Shared} (I : Inv X pins σ H s) {y : V} {v : Value} (h : DatV X.K H y) (r : RelV y v) : (∃ b, v = .ref b ∧ CtA s.heap b) ∨ ∃ p, ScV y p := by
  rcases h with h | h
  · exact .inl (h.at I r)
  · exact .inr h
def InGo (K : PySem.W.Frag) (C : Addr) (sp : Sp) (E : XK) (neg : Bool) (l a : Addr) (xs0 : List V) : List V → Hp → VK → Prop
  | [], H, Q => SqL K H l xs0 ∧ Q (.bl neg) H
  | v :: vs, H, Q => SqL K H l xs0 ∧ (∃ dx fs, H a = some (.ins C dx fs)) ∧
    ((DatV K H v ∧ sp [.ref a, v] H (fun r H' => ∃ b, r = .bl b ∧ if b = true then Q (.bl (!neg)) H' else InGo K C sp E neg l a xs0 vs H' Q) E) ∨
     (∃ c dy gs, v = .ref c ∧ H c = some (.ins C dy gs) ∧ (c = a → Q (.bl (!neg)) H) ∧ (c ≠ a → sp [.ref c, .ref a] H (fun r H' => ∃ b, r = .bl b ∧ if b = true then Q (.bl (!neg)) H' else InGo K C sp E neg l a xs0 vs H' Q) E)))
theorem InGo.sq {K : PySem.W.Frag} {neg : Bool} {l a : Addr} {xs0 vs : List V} {H : Hp} {Q : VK} (h : InGo K C sp E neg l a xs0 vs H Q) : SqL K H l xs0 := by
  cases vs <;> exact h.1
end
section
variable {X : Cx} {E : XK} {b : Low} {k k' : Nat} {den : Den} {c : Str} {e e2 : Expr} {g h : DEx} {p pos : Pos}
end
end DL
namespace DL
open PySem PySem.Spec PyProof.Rows L2
def MCalG (P : Program) (w : World) (K : PySem.W.Frag) (mg : Str → Option Value) (base : Heap) (k : Nat) (c m : Str) (n : Nat) (den : Den) (dds : List D) : Prop :=
  ∃ C f fd ps ds dvs, mg c = some (.ref C) ∧ Cls K C ∧ Meth K C m f ∧ FnG P w K mg base (L2N.CX P w) k f fd ps (spD K mg n den) ∧ Binds K fd ps ds ∧ Vals dvs ds ∧ ∀ b G ι, Reps K ⟨mg, b⟩ G ι dvs dds
theorem MCalG.of {P : Program} {wd : World} {K : PySem.W.Frag} {mg : Str → Option Value} {base : Heap} {c m qual : Str} {st : Stmt} {N ps : List Str} {dds : List D} {k n j : Nat} {g : DSx} (M : Mfn K mg c m qual ps st dds) (S : FnScope N ps (defScope st)) (hn : n = N.length) (hj : j = ps.length)
    (hb : ∀ (f : Addr) (cdv : Value) (A : Around) (outer : List Env) (s : Shared) (H : Hp) (E : XK), A.guards = some [] → Room k (A.deeper (PyProof.Rows.envOfC qual (defScope st) s.heap.objs.size f cdv)) →
      DSs (cxOf (L2N.CX P wd) P wd K mg base N qual (defScope st) f cdv A outer s H E) (WEx E) (defBody st) g) : MCalG P wd K mg base (k + 1) c m j (runD n g) dds := by
  obtain ⟨C, f, fd, ds, dvs, h1, h2, h3, h4, h5, h6, h7⟩ := M
  subst hj
  exact ⟨C, f, fd, ps, ds, dvs, h1, h2, h3, fn_DG h4 S hn (hb f), h5, h6, h7⟩
section
variable {X : Cx} {CX : CXT} {k : Nat} {f C : Addr} {fd : FuncData} {ps : List Str} {sp : Sp} {dvs : List V} {ds : List Value} {E : XK} {b : Low}
end
section
variable {X : Cx} {E : XK} {b : Low} {k k' : Nat} {den : Den} {c : Str} {e e2 : Expr} {g h : DEx} {p pos : Pos}
end
end DL
namespace DL
open PySem PySem.Spec PyProof.Rows L2
section
variable {X : Cx} {pins : List (Addr × Obj)} {σ : L2.St} {H : Hp} {s : Shared}
end
section
variable {K : PySem.W.Frag} {mg : MG} {G : Hp} {ι : List Addr}
end
end DL
namespace HT
open PySem PySem.Spec PyProof.Rows
section
variable {prog : Program} {w : World} {A : Around} {E : Value → Shared → Prop} {s : Shared}
end
end HT
namespace L2
open PySem PySem.Spec PyProof.Rows
section
variable {X : Cx}
end
end L2
namespace DL
open PySem PySem.Spec PyProof.Rows L2
section
variable {X : Cx} {W : WB} {e o : Expr} {f g : DEx} {k : Nat} {p1 p2 p3 pos apos : Pos}
end
end DL
namespace DL
open PySem PySem.Spec PyProof.Rows L2 PySem.W
end DL
namespace DL
open PySem PySem.Spec PyProof.Rows L2
section
variable {X : Cx} {W : WB} {j : Expr} {g : DEx} {x : Str} {np pos : Pos} {i : Nat}
end
def k_ixO (i : Nat) (P : D → En → Store → Prop) (j : D) (ρ : En) (st : Store) : Prop := EOk (match ρ[i]? with
    | some (.ml ds) => (match pIx (.lst ds) j with
      | some z => .ok z ρ st
      | none => .bad)
    | _ => .bad) P
@[simp] theorem k_ixO_eq {i : Nat} {P : D → En → Store → Prop} {j : D} {ρ : En} {st : Store} : k_ixO i P j ρ st = EOk (match ρ[i]? with
    | some (.ml ds) => (match pIx (.lst ds) j with
      | some z => .ok z ρ st
      | none => .bad)
    | _ => .bad) P := rfl
end DL
namespace DL
open PySem PySem.Spec PySem.W PyProof.Rows L2
end DL
namespace DL
open PySem PySem.Spec PyProof.Rows L2
def CDivZ (_ j : Int) : Prop := 0 < j ∧ j < 2 ^ 4000
instance (i j : Int) : Decidable (CDivZ i j) := by unfold CDivZ; infer_instance
end DL
namespace DL
open PySem PySem.Spec PyProof.Rows L2 PySem.Froz
section
variable {X : Cx}
end
section
variable {K : PySem.W.Frag} {mg : MG} {W : WB}
end
section
variable {X : Cx} {W : WB} {elt tg iter : Expr} {ifs : List Expr} {scope : Scope} {own : List (PySem.Str × Nat)} {p pos cpos : Pos} {is : List Nat} {fi : DEx} {g : DGx} {c f : DEx}
end
end DL
namespace DL
open PySem PySem.Spec PyProof.Rows L2 PySem.Froz
end DL
namespace DL
open PySem PySem.Spec PyProof.Rows L2
section
variable {P : Program} {w : World} {A : Around} {E : Value → Shared → Prop} {s : Shared}
abbrev UK (P : Program) (w : World) (h : Heap) (k : List Str) (b : Addr) : Prop := IsTupleKey (PySem.strKind P w) h k b
def uH (P : Program) (w : World) (k : List Str) : Int := tupleKeyHash (PySem.strKind P w) k
theorem uk_txt : ∀ {k : List Str} {vs : List Value}, ItemsAre (PySem.strKind P w) k vs → ∀ v ∈ vs, ∃ x t, v = Value.str x t
  | _, _, .nil, _, hv => by cases hv
  | x :: _, v :: _, .cons e r, u, hu => by
    rcases List.mem_cons.mp hu with q | q
    · obtain ⟨t, z⟩ := Value.isStrOf_shape e
      exact ⟨x, t, by rw [q, z]⟩
    · exact uk_txt r u q
theorem uk_else {h h' : Heap} {k : List Str} {b a : Addr} {o : Obj} {es : Array (Int × Value)} {ep : Nat} {t : SetTable} (x : UK P w h k b) (ho : h.get? a = some o) (hd : o.data = .set es ep t) (sb : Heap.SameBut a h h') : UK P w h' k b := by
  obtain ⟨q, its, n, e, c, d, i⟩ := x
  refine ⟨q, its, n, (sb.2 b fun z => ?_).trans e, c, d, i⟩
  rw [z, ho] at e
  cases e
  rw [hd] at d
  cases d
theorem uk_keep {h h' : Heap} {k : List Str} {b : Addr} (x : UK P w h k b) (hk : ∀ c o, h.get? c = some o → h'.get? c = some o) : UK P w h' k b :=
  let ⟨q, its, n, e, r⟩ := x; ⟨q, its, n, hk _ _ e, r⟩
theorem u_class {k : List Str} {b : Addr} {Q : Bool → Shared → Prop} (x : UK P w s.heap k b) (h : Q false s) : wpAny (model P w) A (ofAClassStatement 8 (.ref b)) Q E s := by
  have ty := x.typeIs
  obtain ⟨q, its, n, e, _, d, i⟩ := x
  unfold ofAClassStatement
  refine wpAny_bind (wpAny_typeOf ty ?_)
  have c : (("tuple" : String) == "tuple") = true := by decide
  dsimp only
  simp only [c, if_true, Bool.not_true, Bool.false_eq_true, if_false]
  try (refine wpAny_bind (wpAny_pure ?_); simp only [Bool.not_true, Bool.false_eq_true, if_false])
  show wpAny _ _ (seqItems? (.ref b) >>= _) _ _ s
  refine wpAny_bind (wpAny_seqItems e d ?_)
  dsimp only
  refine wpAny_bind ?_
  show wpAny _ _ (forIn its _ _) _ _ s
  rw [← Array.forIn_toList]
  refine wpAny_forIn_list _ (fun l r u => (∀ v ∈ l, ∃ x t, v = Value.str x t) ∧ u = s ∧ r.1 = none) _ ?_ ?_ _ _ ⟨uk_txt i, rfl, rfl⟩
  · rintro v l r u ⟨all, rfl, hr⟩
    obtain ⟨y, t, rfl⟩ := all v List.mem_cons_self
    have z : ofAClassStatement 7 (.str y t) = pure false := rfl
    rw [z]
    refine wpAny_bind (wpAny_pure ?_)
    simp only [Bool.false_eq_true, if_false]
    exact wpAny_pure ⟨fun v hv => all v (List.mem_cons_of_mem _ hv), rfl, rfl⟩
  · rintro ⟨r1, r2⟩ u ⟨_, rfl, hr⟩
    simp only at hr
    subst hr
    exact wpAny_pure h
theorem u_byval {k : List Str} {b : Addr} {Q : Bool → Shared → Prop} (x : UK P w s.heap k b) (h : ∀ c, Q c s) : wpAny (model P w) A (hashByValue 8 (.ref b)) Q E s := by
  have ty := x.typeIs
  obtain ⟨q, its, n, e, _, d, i⟩ := x
  unfold hashByValue
  refine wpAny_bind (wpAny_specialOf ty F.slot_tuple_hash.lookup ?_)
  show wpAny _ _ (seqItems? (.ref b) >>= _) _ _ s
  refine wpAny_bind (wpAny_seqItems e d ?_)
  refine wpAny_bind ?_
  show wpAny _ _ (forIn its _ _) _ _ s
  rw [← Array.forIn_toList]
  refine wpAny_forIn_list _ (fun l r u => (∀ v ∈ l, ∃ x t, v = Value.str x t) ∧ u = s ∧ r.1 = none) _ ?_ ?_ _ _ ⟨uk_txt i, rfl, rfl⟩
  · rintro v l r u ⟨all, rfl, hr⟩
    obtain ⟨y, t, rfl⟩ := all v List.mem_cons_self
    have z : hashByValue 7 (.str y t) = pure false := rfl
    rw [z]
    refine wpAny_bind (wpAny_pure ?_)
    simp only [Bool.not_false, if_true]
    refine wpAny_pure ?_
    exact wpAny_pure (h false)
  · rintro ⟨r1, r2⟩ u ⟨_, rfl, hr⟩
    simp only at hr
    subst hr
    exact wpAny_pure (h true)
theorem u_seen {k : List Str} {b : Addr} {Q : Bool → Shared → Prop} (x : UK P w s.heap k b) {ys : List Value} (hy : ∀ y ∈ ys, ∃ k2 c, y = Value.ref c ∧ UK P w s.heap k2 c) (h : Q false s) : wpAny (model P w) A (searchCouldBeSeen (.ref b) ys) Q E s := by
  unfold searchCouldBeSeen
  refine wpAny_bind ?_
  refine wpAny_forIn_list _ (fun l r u => (∀ y ∈ l, ∃ k2 c, y = Value.ref c ∧ UK P w s.heap k2 c) ∧ u = s ∧ r.1 = none) _ ?_ ?_ _ _ ⟨hy, rfl, rfl⟩
  · rintro v l r u ⟨all, rfl, hr⟩
    obtain ⟨k2, c, rfl, x2⟩ := all v List.mem_cons_self
    have tl : ∀ y ∈ l, ∃ k2 c, y = Value.ref c ∧ UK P w u.heap k2 c := fun y hy => all y (List.mem_cons_of_mem _ hy)
    dsimp only
    by_cases q : (b == c || (carriedByValue (.ref b) && carriedByValue (.ref c))) = true
    · exact wp_if_pos q (wpAny_pure ⟨tl, rfl, rfl⟩)
    · refine wp_if_neg q (wpAny_bind (wpAny_eqIsQuiet_tuple x ?_))
      simp only [Bool.not_true, Bool.false_eq_true, if_false]
      refine wpAny_bind (wpAny_eqIsQuiet_tuple x2 ?_)
      simp only [Bool.not_true, Bool.false_eq_true, if_false]
      refine wpAny_bind (u_class x ?_)
      simp only [Bool.false_eq_true, if_false]
      refine wpAny_bind (u_class x2 ?_)
      simp only [Bool.false_eq_true, if_false]
      exact wpAny_pure ⟨tl, rfl, rfl⟩
  · rintro ⟨r1, r2⟩ u ⟨_, rfl, hr⟩
    simp only at hr
    subst hr
    exact wpAny_pure h
structure US (P : Program) (w : World) (h : Heap) (a : Addr) (L : List (Addr × List Str)) (es : Array (Int × Value)) (ep : Nat) (t : SetTable) : Prop where
  ob : ∃ o, h.get? a = some o ∧ o.ExactSet ∧ o.data = .set es ep t
  rows : es.toList = L.map fun p => (uH P w p.2, Value.ref p.1)
  tab : TabOk t (L.map fun p => uH P w p.2)
  tup : ∀ p ∈ L, UK P w h p.2 p.1
  m7 : t.mask = 7
  le : L.length ≤ 4
variable {a : Addr} {L : List (Addr × List Str)} {es : Array (Int × Value)} {ep : Nat} {t : SetTable}
theorem US.sz (R : US P w s.heap a L es ep t) : es.size = L.length := by
  have := congrArg List.length R.rows
  simpa using this
theorem US.fit (R : US P w s.heap a L es ep t) : t.fits es.size = true := by
  have e1 := R.tab.sz
  have e2 := R.sz
  have e3 := R.m7
  have e4 := R.le
  rw [List.length_map] at e1
  unfold SetTable.fits SetTable.fill
  rw [Bool.and_eq_true, decide_eq_true_eq, beq_iff_eq, R.tab.dm]
  refine ⟨by omega, ?_⟩
  show t.place.size + 0 ≤ t.mask
  omega
theorem US.at (R : US P w s.heap a L es ep t) {i : Nat} {p : Addr × List Str} (h : L[i]? = some p) : es[i]? = some (uH P w p.2, Value.ref p.1) := by
  have : es.toList[i]? = some (uH P w p.2, Value.ref p.1) := by rw [R.rows, List.getElem?_map, h]; rfl
  simpa using this
abbrev wayP (t : SetTable) (h : Int) (c : Nat) : SetTable.Probe := nth t.mask (runAt t.mask (SetTable.bits h % (t.mask + 1)) (SetTable.bits h)) c
theorem way_dummy (t : SetTable) (h : Int) (c : Nat) : (wayP t h c).dummy = none := by
  have step : ∀ (n : Nat) (p : SetTable.Probe), p.dummy = none → (nth t.mask p n).dummy = none := by
    intro n
    induction n with
    | zero => exact fun _ q => q
    | succ n ih =>
      intro p q
      refine ih (adv t.mask p) ?_
      unfold adv
      split <;> exact q
  exact step c _ rfl
theorem u_search (R : US P w s.heap a L es ep t) {x : Addr} {k : List Str} (hx : UK P w s.heap k x) (hu : A.units < cLine) (new : k ∉ L.map (·.2)) {K : Nat} (hKf : K < 10 * SetTable.turns t.mask)
    (hK : way t.mask (uH P w k) K ∉ t.place.toList) (hKb : ∀ c, c < K → way t.mask (uH P w k) c ∈ t.place.toList) {Q : SetFound → Shared → Prop} (hQ : Q (.free (way t.mask (uH P w k) K) false) s) :
    ∀ (f c : Nat) (stand : Option SetTable.Probe), stand.getD (t.probeStart (uH P w k)) = wayP t (uH P w k) c → c ≤ K → K - c < f → wpAny (model P w) A (setSearchFrom a (.ref x) (uH P w k) true f stand) Q E s
  | 0, _, _, _, _, hf => absurd hf (Nat.not_lt_zero _)
  | f + 1, c, stand, hst, hc, hf => by
    obtain ⟨o, ho, hex, hd⟩ := R.ob
    have gw : ¬ t.gaveWay = true := by
      unfold SetTable.gaveWay
      rw [mask_odd R.tab.mok]
      decide
    rw [setSearchFrom_succ]
    refine wpAny_bind (wpAny_setState_of ho hd R.fit ?_)
    dsimp only
    refine wp_if_neg gw ?_
    try refine wpAny_bind (wpAny_pure ?_)
    have on : ∀ q, nth t.mask (wayP t (uH P w k) c) q = wayP t (uH P w k) (c + q) := fun q => (nth_add t.mask c _ q).symm
    have spec := go_spec t R.tab.ris R.tab.dm (fun i => (es[i]?.map (·.1)).getD 0) (uH P w k) (10 * SetTable.turns t.mask) (K - c) (wayP t (uH P w k) c) (way_dummy t _ c) (by omega)
      (fun q hq => by rw [on]; exact hKb (c + q) (by omega)) (by rw [on, show c + (K - c) = K by omega]; exact hK)
    rcases spec with ⟨q, i, hq, hi, _, _, hpr⟩ | ⟨_, hpr⟩
    · have pr : t.probe (fun i => (es[i]?.map (·.1)).getD 0) (uH P w k) (stand.getD (t.probeStart (uH P w k))) = some (.candidate (wayP t (uH P w k) (c + q)).j i (wayP t (uH P w k) (c + (q + 1)))) := by
        rw [hst, ← on, ← on]
        exact hpr
      rw [pr]
      dsimp only
      rw [on] at hi
      have il : i < L.length := by
        have l1 := (List.getElem?_eq_some_iff.mp hi).1
        have l2 := R.tab.sz
        rw [Array.length_toList] at l1
        rw [List.length_map] at l2
        omega
      obtain ⟨p, hp⟩ : ∃ p, L[i]? = some p := ⟨_, List.getElem?_eq_getElem il⟩
      have pm : p ∈ L := List.mem_of_getElem? hp
      have kne : ¬ p.2 = k := fun z => new (List.mem_map.mpr ⟨p, pm, z⟩)
      have rest : wpAny (model P w) A (searchRest a (.ref x) (uH P w k) true f es t (wayP t (uH P w k) (c + q)).j i (wayP t (uH P w k) (c + (q + 1)))) Q E s := by
        unfold searchRest
        rw [R.at hp]
        dsimp only
        refine wpAny_bind (wpAny_holding (wpAny_eqBool_tuple hu (R.tup p pm) hx ?_))
        refine wpAny_bind (wpAny_setState_of ho hd R.fit ?_)
        dsimp only
        refine wp_if_neg (by simp [kne]) ?_
        try refine wpAny_bind (wpAny_pure ?_)
        rw [sameMem]
        dsimp only
        have live : t.slot (wayP t (uH P w k) (c + q)).j = .live i := slot_live R.tab.ris hi
        simp only [if_true, live, R.at hp]
        refine wpAny_bind (wpAny_isSame_ref_self (wpAny_bind (wpAny_pure ?_)))
        simp only [if_true]
        refine wp_if_neg (by simp [kne]) ?_
        exact u_search R hx hu new hKf hK hKb hQ f (c + (q + 1)) _ rfl (by omega) (by omega)
      by_cases led : t.led = true
      · refine wp_if_neg (by simp [led]) ?_
        try refine wpAny_bind (wpAny_pure ?_)
        exact rest
      · refine wp_if_pos (by simp [led]) (wpAny_bind (u_seen hx (fun y hy => ?_) ?_))
        · obtain ⟨e, he, ee⟩ := List.mem_map.mp hy
          have he2 : e ∈ es.toList := by
            have : e ∈ es ∧ e.1 = uH P w k := by simpa using he
            simpa using this.1
          rw [R.rows] at he2
          obtain ⟨p2, hp2, e2⟩ := List.mem_map.mp he2
          exact ⟨p2.2, p2.1, by rw [← ee, ← e2], R.tup p2 hp2⟩
        · refine wp_if_neg (by decide) ?_
          try refine wpAny_bind (wpAny_pure ?_)
          exact rest
    · have pr : t.probe (fun i => (es[i]?.map (·.1)).getD 0) (uH P w k) (stand.getD (t.probeStart (uH P w k))) = some (.empty (way t.mask (uH P w k) K) none) := by
        have e2 : way t.mask (uH P w k) K = (nth t.mask (wayP t (uH P w k) c) (K - c)).j := by
          rw [on, show c + (K - c) = K by omega]
        rw [hst, e2]
        exact hpr
      rw [pr]
      dsimp only
      exact wpAny_pure hQ
end
end DL
namespace DL
open PySem PySem.Spec PyProof.Rows L2
section
variable {P : Program} {w : World} {A : Around} {E : Value → Shared → Prop} {s : Shared}
variable {a : Addr} {L : List (Addr × List Str)} {es : Array (Int × Value)} {ep : Nat} {t : SetTable}
theorem US.keep {h h' : Heap} (R : US P w h a L es ep t) (ha : ∀ o, h.get? a = some o → h'.get? a = some o) (ht : ∀ p ∈ L, UK P w h' p.2 p.1) : US P w h' a L es ep t :=
  ⟨let ⟨o, e, r⟩ := R.ob; ⟨o, ha _ e, r⟩, R.rows, R.tab, ht, R.m7, R.le⟩
theorem ins_perm {α : Type} (l : List α) (i : Nat) (x : α) : (l.take i ++ x :: l.drop i).Perm (x :: l) := by
  have := List.perm_middle (a := x) (l₁ := l.take i) (l₂ := l.drop i)
  rwa [List.take_append_drop] at this
theorem u_add (R : US P w s.heap a L es ep t) {x : Addr} {k : List Str} (hx : UK P w s.heap k x) (hu : A.units < cLine) (new : k ∉ L.map (·.2)) (room : L.length + 1 ≤ 4) {Q : Bool → Shared → Prop}
    (hQ : ∀ h' L' es' ep' t', Heap.SameBut a s.heap h' → US P w h' a L' es' ep' t' → L'.Perm ((x, k) :: L) → Q true { s with heap := h' }) : wpAny (model P w) A (setAddHashed a (.ref x) (uH P w k)) Q E s := by
  obtain ⟨o, ho, hex, hd⟩ := id R.ob
  have m7 := R.m7
  obtain ⟨K, hKf, hK, hKb⟩ := R.tab.first (by rw [List.length_map, m7]; omega) (uH P w k)
  have small : 10 * SetTable.turns t.mask ≤ 1420 := by
    unfold SetTable.turns
    rw [m7]
    omega
  unfold setAddHashed
  refine wpAny_holding ?_
  rw [show (100000 : Nat) = 99999 + 1 from rfl, setAddHashedIn_succ]
  refine wpAny_bind (wpAny_setState_of ho hd R.fit ?_)
  dsimp only
  refine wp_if_neg (by simp [byScan, Value.scannable]) ?_
  try refine wpAny_bind (wpAny_pure ?_)
  unfold setSearch
  refine wpAny_bind (u_search R hx hu new hKf hK hKb ?_ 100000 0 none rfl (Nat.zero_le _) (by omega))
  dsimp only
  refine wpAny_bind (wpAny_setState_of ho hd R.fit ?_)
  dsimp only
  obtain ⟨q1, q2, q3, q4, _, _, _, _, q9⟩ := R.tab.put hK hKb
  generalize hpt : t.put (way t.mask (uH P w k) K) = pt at q1 q3 q4 q9 ⊢
  obtain ⟨t1, i⟩ := pt
  dsimp only at q1 q3 q4 q9 ⊢
  subst q1
  generalize SetTable.below t.place (way t.mask (uH P w k) K) = i at q2 q3 ⊢
  have pm := ins_perm L i (x, k)
  have ll : (L.take i ++ (x, k) :: L.drop i).length = L.length + 1 := pm.length_eq
  have er : (SetTable.insertAt es i (uH P w k, Value.ref x)).toList = (L.take i ++ (x, k) :: L.drop i).map fun p => (uH P w p.2, Value.ref p.1) := by
    rw [SetTable.toList_insertAt, R.rows, List.map_append, List.map_cons, List.map_take, List.map_drop]
  have eh : (L.take i ++ (x, k) :: L.drop i).map (fun p => uH P w p.2) = (L.map fun p => uH P w p.2).take i ++ uH P w k :: (L.map fun p => uH P w p.2).drop i := by
    rw [List.map_append, List.map_cons, List.map_take, List.map_drop]
  rw [← eh] at q3
  have esz : (SetTable.insertAt es i (uH P w k, Value.ref x)).size = L.length + 1 := by
    have := congrArg List.length er
    rw [Array.length_toList, List.length_map, ll] at this
    exact this
  have fin : ∀ (t2 : SetTable), t2.place = t1.place → t2.dummies = t1.dummies → t2.mask = t1.mask → wpAny (model P w) A (do
      storeSet a (SetTable.insertAt es i (uH P w k, Value.ref x)) t2
      if !false && t2.tooFull then setRelay a (SetTable.grown (es.size + 1))
      return true) Q E s := fun t2 p1 p2 p3 => by
    have ok2 : TabOk t2 ((L.take i ++ (x, k) :: L.drop i).map fun p => uH P w p.2) := by
      obtain ⟨r1, r2, r3, r4, r5, r6⟩ := q3
      exact ⟨by rw [p1]; exact r1, by rw [p2]; exact r2, by rw [p1]; exact r3, by rw [p3]; exact r4, by rw [p1, p3]; exact r5, by rw [p1, p3]; exact r6⟩
    have f2 : t2.fill = L.length + 1 := by
      rw [List.length_map] at q9
      rw [← q9]
      unfold SetTable.fill
      rw [p1, p2]
    have nf : ¬ (!false && t2.tooFull) = true := by
      unfold SetTable.tooFull
      rw [f2, p3, q4, m7]
      simp
      omega
    refine wpAny_bind (wpAny_storeSet_of ho hd ?_ (by rw [esz, sizeLine_eq]; omega))
    have sb : Heap.SameBut a s.heap (s.heap.update a (Obj.putSet (SetTable.insertAt es i (uH P w k, Value.ref x)) t2)) := Heap.SameBut.update ..
    have ho1 := store_at (es' := SetTable.insertAt es i (uH P w k, Value.ref x)) (t' := t2) ho hd
    first
      | refine wp_if_neg nf ?_
      | (refine wpAny_bind ?_; refine wp_if_neg nf ?_; refine wpAny_pure ?_)
    refine wpAny_pure (hQ _ _ _ (ep + 1) t2 sb ⟨⟨_, ho1, ⟨hex.1, hex.2.1, hex.2.2⟩, rfl⟩, er, ok2, fun p hp => ?_, by rw [p3, q4, m7], by rw [ll]; exact room⟩ pm)
    rcases List.mem_cons.mp (pm.mem_iff.mp hp) with e | hp
    · rw [e]; exact uk_else hx ho hd sb
    · exact uk_else (R.tup p hp) ho hd sb
  by_cases pl : t1.plain = true
  · first
      | (refine wpAny_bind ?_; refine wp_if_pos pl ?_; refine u_byval hx fun c => ?_)
      | refine wp_if_pos pl (wpAny_bind (u_byval hx fun c => ?_))
    cases c
    · exact fin { t1 with plain := false } rfl rfl rfl
    · exact fin t1 rfl rfl rfl
  · first
      | (refine wpAny_bind ?_; refine wp_if_neg pl ?_; refine wpAny_pure ?_)
      | refine wp_if_neg pl (wpAny_bind (wpAny_pure ?_))
    exact fin t1 rfl rfl rfl
theorem us_new {h : Heap} {a : Addr} (ho : h.get? a = some { cls := .type "set", dict := none, data := .set #[] 0 (.fresh 0 0 (!w.params.followText "set-order")) }) : US P w h a [] #[] 0 (.fresh 0 0 (!w.params.followText "set-order")) := by
  have T := (setTR_fresh (P := P) (w := w) ho).tab
  exact ⟨⟨_, ho, ⟨rfl, rfl, rfl⟩, rfl⟩, rfl, T, (fun p h => nomatch h), rfl, by simp⟩
theorem set_update_u {I : Addr} {fp wr : List Addr} {G : Array GenState → Array GenState → Prop} {n : Nat} {Pv : Nat → Value → Prop} {St : Nat → Shared → Prop} {R : Result → Shared → Prop}
    (W : WalksS P w A.in1 I fp wr G n Pv St) (S : Addr) (hSf : S ∉ fp) (ks : List (Addr × List Str)) (hn : n = ks.length) (h4 : ks.length ≤ 4) (nd : (ks.map (·.2)).Nodup) (hval : ∀ i v, Pv i v → ∃ p, ks[i]? = some p ∧ v = .ref p.1)
    (h0 : Heap) (hk0 : ∀ p ∈ ks, UK P w h0 p.2 p.1) (S0 : h0.get? S = none) (w0 : ∀ b ∈ wr, h0.get? b = none) (hu : A.in1.units < cLine) :
    ∀ (k i : Nat) (s : Shared), n - i = k → i ≤ n → St i s → (∀ b o, h0.get? b = some o → s.heap.get? b = some o) → (∃ L es ep t, US P w s.heap S L es ep t ∧ L.Perm (ks.take i)) →
      (∀ s' L es ep t, Moved (S :: wr) G s s' → US P w s'.heap S L es ep t → L.Perm ks → (∀ b o, h0.get? b = some o → s'.heap.get? b = some o) → R (.ok (.ret .none)) s') →
      codeAny (model P w) A (.builtin "set.update.loop" ⟨[.ref S, .ref I], []⟩) R s := by
  have Sw : S ∉ wr := fun h => hSf (W.sub _ h)
  have up : ∀ b ∈ wr, b ∈ S :: wr := fun b hb => List.mem_cons_of_mem _ hb
  have stay : ∀ {s s' : Shared}, Moved wr G s s' → (∀ b o, h0.get? b = some o → s.heap.get? b = some o) → ∀ b o, h0.get? b = some o → s'.heap.get? b = some o := fun m k b o e =>
    m.heap b o (fun z => by rw [w0 b z] at e; cases e) (k b o e)
  intro k
  induction k with
  | zero =>
    intro i s hk hi st hkp ⟨L, es, ep, t, hS, pm⟩ hR
    have e : i = n := by omega
    subst e
    refine codeAny_builtin F.entry_set_update_loop ?_
    rw [Around.under_plainId F.plain_set_update_loop _]
    show wpAny _ A.in1 (pyNext (.ref I) >>= _) _ _ s
    refine wpAny_bind (W.done s _ _ st fun s' m => ?_)
    show wpAny _ A.in1 (ret Value.none) _ _ s'
    rw [List.take_of_length_le (by omega)] at pm
    have k2 := stay m hkp
    exact wpAny_pure (hR s' L es ep t (m.mono up) (hS.keep (fun o e => m.heap S o Sw e) fun p hp => uk_keep (hk0 p (pm.mem_iff.mp hp)) k2) pm k2)
  | succ k ih =>
    intro i s hk hi st hkp ⟨L, es, ep, t, hS, pm⟩ hR
    have lt : i < n := by omega
    refine codeAny_builtin F.entry_set_update_loop ?_
    rw [Around.under_plainId F.plain_set_update_loop _]
    show wpAny _ A.in1 (pyNext (.ref I) >>= _) _ _ s
    refine wpAny_bind (W.item i s _ _ lt st fun v s' hP st' m => ?_)
    obtain ⟨p, hp, rfl⟩ := hval i v hP
    have k2 := stay m hkp
    have pk : p ∈ ks := List.mem_of_getElem? hp
    have hS' : US P w s'.heap S L es ep t := hS.keep (fun o e => m.heap S o Sw e) fun q hq => uk_keep (hk0 q (List.mem_of_mem_take (pm.mem_iff.mp hq))) k2
    have et : ks.take (i + 1) = ks.take i ++ [p] := by rw [List.take_add_one, hp]; rfl
    have new : p.2 ∉ L.map (·.2) := fun z => by
      obtain ⟨q, hq, e⟩ := List.mem_map.mp z
      have nd2 : ((ks.take (i + 1)).map (·.2)).Nodup := nd.sublist ((List.take_sublist ..).map _)
      rw [et, List.map_append, List.map_cons, List.map_nil, List.nodup_append] at nd2
      exact nd2.2.2 _ (List.mem_map.mpr ⟨q, pm.mem_iff.mp hq, rfl⟩) _ (List.mem_singleton.mpr rfl) e
    have lL : L.length = i := by rw [pm.length_eq, List.length_take]; omega
    show wpAny _ A.in1 (holding [Value.ref p.1] (setAdd S (.ref p.1)) >>= _) _ _ s'
    refine wpAny_bind (wpAny_holding ?_)
    unfold setAdd
    refine wpAny_holding ?_
    have xk := uk_keep (hk0 p pk) k2
    refine wpAny_bind (wpAny_pyHash_tuple hu xk ?_)
    refine u_add (s := { s' with toks := s'.toks + (p.2.length + 1) }) hS' xk hu new (by omega) fun h' L' es' ep' t' sb hS2 pm2 => ?_
    have k3 : ∀ b o, h0.get? b = some o → h'.get? b = some o := fun b o e => (sb.2 b (fun z => by rw [z, S0] at e; cases e)).trans (k2 b o e)
    have pm3 : L'.Perm (ks.take (i + 1)) := by
      rw [et]
      exact pm2.trans ((List.Perm.cons _ pm).trans (List.perm_append_singleton p (ks.take i)).symm)
    refine wpAny_pure ⟨plainId_quiet F.plain_set_update_loop _, ih (i + 1) _ (by omega) lt (W.frame _ s' _ _ st' (Nat.le_add_right _ _) fun b hb o e => ?_) k3 ⟨L', es', ep', t', hS2, pm3⟩ fun s'' L2 es2 ep2 t2 m2 hS3 pm4 k4 => ?_⟩
    · rw [sb.2 b (fun z : b = S => hSf (by rw [← z]; exact hb))]; exact e
    · refine hR s'' L2 es2 ep2 t2 (Moved.trans W.gtrans ((m.mono up).then_heap (Nat.le_add_right _ _) fun b o hb e => ?_) m2) hS3 pm4 k4
      rw [sb.2 b (fun z : b = S => hb (by rw [z]; exact List.mem_cons_self))]; exact e
end
end DL
namespace DL
open PySem PySem.Spec PyProof.Rows L2 PySem.Froz
section
variable {P : Program} {w : World} {A : Around} {E : Value → Shared → Prop} {s : Shared}
set_option maxHeartbeats 3200000 in
theorem call_setU {l : Addr} {items : Array Value} (ks : List (Addr × List Str)) {Q : Value → Shared → Prop} (hh : A.handled = none) (hl : s.heap.IsList l items) (hit : items.toList = ks.map fun p => Value.ref p.1) (h4 : ks.length ≤ 4) (nd : (ks.map (·.2)).Nodup) (hk0 : ∀ p ∈ ks, UK P w s.heap p.2 p.1) (hu : A.units + 3 < cLine)
    (h : ∀ (h' : Heap) (tk : Nat) L es ep t, US P w h' s.heap.objs.size L es ep t → L.Perm ks → (∀ b o, s.heap.get? b = some o → h'.get? b = some o) → Q (.ref s.heap.objs.size) { s with heap := h', toks := tk }) :
    wpAny (model P w) A (call (.type "set") [.ref l]) Q E s := by
  have hisz : items.size = ks.length := by
    have := congrArg List.length hit
    simpa using this
  obtain ⟨c, tl, hmro⟩ := PySem.F.called_set.mro
  have hmade := PySem.F.called_set.made
  have hsub := PySem.F.called_set.sub
  refine wpAny_call (codeAny_of_tree ?_)
  show wpAny _ _ (callAny (.type "set") _) _ _ _
  refine wpAny_pure ⟨Code.quiet_builtin _ (by decide +kernel), codeAny_builtin PySem.F.entry_type_call ?_⟩
  rw [Around.under_plain (weight_type_call_type "set" [.ref l] []) rfl]
  have h1 := PySem.F.called_set.notType
  have h2 := PySem.F.called_set.canCreate
  have hct := PySem.F.typeCall_set_1 (.ref l)
  repeat (any_goals (first | assumption | wp_step))
  refine codeAny_mono (code_set_led1 (.ref l) (E := E) (Q₁ := fun obj s₁ => obj = .ref s.heap.objs.size ∧ s₁ = { s with heap := s.heap.push (nS w) }) ⟨rfl, rfl⟩) fun r s₁ hr => ?_
  cases r with
  | error e => exact hr
  | ok fl =>
    cases fl with
    | ret obj =>
      obtain ⟨rfl, rfl⟩ := hr
      have hS : (s.heap.push (nS w)).get? s.heap.objs.size = some (nS w) := Heap.get?_push_size _ rfl
      have hT : Shared.TypeIs { s with heap := s.heap.push (nS w) } (.ref s.heap.objs.size) "set" := ⟨_, hS, rfl⟩
      have hli := PySem.F.called_set.init.lookup
      have hbi := PySem.F.called_set.init.bind (.ref s.heap.objs.size)
      repeat (any_goals (first | assumption | wp_step))
      refine codeAny_mono (codeAny_call_builtin (R := wants (fun r s₂ => r = .none ∧ ∃ h' tk L es ep t, s₂ = { s with heap := h', toks := tk } ∧ US P w h' s.heap.objs.size L es ep t ∧ L.Perm ks ∧
          (∀ b o, s.heap.get? b = some o → h'.get? b = some o)) E) PySem.F.called_set.init.plain PySem.F.entry_set_init (check_set_init_1 hT ?_)) fun r₂ s₂ hr₂ => ?_
      · obtain ⟨ol, hol, hcl, nl, hdl⟩ := hl
        obtain ⟨ocls, odict, odata, oslots⟩ := ol
        simp only at hcl hdl
        subst hcl; subst hdl
        have hol' : (s.heap.push (nS w)).get? l = some { cls := .type "list", dict := odict, data := .seq items nl, slots := oslots } := Heap.get?_push_of_some _ hol
        have hsls := PySem.F.sub_list_set
        have hslf := PySem.F.sub_list_frozenset
        have hne : (Value.type "list" == Value.type "dict") = false := by decide
        have hl1 : (s.heap.push (nS w)).IsList l items := ⟨_, hol', rfl, nl, rfl⟩
        unfold Builtin.«set.__init__» noKeywords Builtin.Frozenset.updateFrom
        generalize hPI : pyIter = PI
        wp_walk
        subst hPI
        refine wpAny_pyIter_list hl1 ?_
        refine wpAny_bind (wpAny_runValue ?_)
        have hlS : l < s.heap.objs.size := Heap.lt_size hol
        have hh3 : A.in1.in1.in1.handled = none := by simp [hh]
        have hneI : l ≠ (s.heap.push (nS w)).objs.size := by
          rw [Heap.size_push]; exact Nat.ne_of_lt (Nat.lt_succ_of_lt hlS)
        have hSf : s.heap.objs.size ∉ [(s.heap.push (nS w)).objs.size, l] := by
          rw [Heap.size_push]; simp only [List.mem_cons, List.mem_singleton, List.not_mem_nil, or_false, not_or]
          exact ⟨Nat.ne_of_lt (Nat.lt_succ_self _), Nat.ne_of_gt hlS⟩
        have hval : ∀ (i : Nat) (v : Value), items[i]? = some v → ∃ p, ks[i]? = some p ∧ v = .ref p.1 := fun i v hv => by
          have e : (ks.map fun p => Value.ref p.1)[i]? = some v := by rw [← hit]; simpa using hv
          rw [List.getElem?_map] at e
          obtain ⟨p, hp, e⟩ := Option.map_eq_some_iff.mp e
          exact ⟨p, hp, e.symm⟩
        refine set_update_u ((Walks.list hh3 _ l hneI items).toS) s.heap.objs.size hSf ks hisz h4 nd hval s.heap hk0 (Heap.get?_none_of_le (Nat.le_refl _)) (fun b hb => Heap.get?_none_of_le (by
            rw [List.mem_singleton.mp hb, Heap.size_push]
            omega)) hu (items.size - 0) 0 _ (by omega) (Nat.zero_le _)
          ⟨⟨_, Heap.get?_push_size _ rfl, rfl, rfl⟩, (hl1.push _)⟩ (fun b o e => Heap.get?_push_of_some _ (Heap.get?_push_of_some _ e)) ?hS0 ?hR
        case hS0 =>
          have new := us_new (P := P) (w := w) (Heap.get?_push_of_some ({ cls := .type "list_iterator", data := .fields #[.ref l, .int 0 0] } : Obj) hS)
          exact ⟨[], _, _, _, new, by simp⟩
        case hR =>
          intro s' L es ep t hm hS' pm _
          obtain ⟨h', g2, d', tk', os'⟩ := s'
          have eg : g2 = s.gens := hm.gens
          have ed : d' = s.drawn := hm.drawn
          have eo : os' = s.os := hm.os
          subst eg; subst ed; subst eo
          show wpAny _ _ _ _ _ _
          refine wpAny_pure ?_
          show wpAny _ _ (ret Value.none) _ _ _
          refine wpAny_pure ⟨rfl, h', tk', L, es, ep, t, rfl, hS', pm, fun b o e => ?_⟩
          have hb0 : b < s.heap.objs.size := Heap.lt_size e
          have hb1 : b ≠ s.heap.objs.size := Nat.ne_of_lt hb0
          have hb2 : b ≠ (s.heap.push (nS w)).objs.size := by
            rw [Heap.size_push]; exact Nat.ne_of_lt (Nat.lt_succ_of_lt hb0)
          exact hm.heap b o (by simp only [List.mem_cons, List.mem_singleton, List.not_mem_nil, or_false, not_or]; exact ⟨hb1, hb2⟩) (Heap.get?_push_of_some _ (Heap.get?_push_of_some _ e))
      · cases r₂ with
        | error e => exact hr₂
        | ok fl₂ =>
          cases fl₂ with
          | ret r =>
            obtain ⟨rfl, h', tk, L, es, ep, t, rfl, hS', pm, hk'⟩ := hr₂
            repeat (any_goals (first | assumption | wp_step))
            exact h _ _ _ _ _ _ hS' pm hk'
          | _ => exact hr₂.elim
    | _ => exact hr.elim
end
end DL
namespace DL
open PySem PySem.Spec PyProof.Rows L2 PySem.Froz
theorem uk_vals {P : Program} {w : World} : ∀ {k : List Str} {us : List Value}, Vals (k.map V.str) us → ItemsAre (PySem.strKind P w) k us
  | [], _, h => by cases h; exact .nil
  | x :: k, _, h => by
    cases h with
    | cons e r =>
      obtain ⟨t, rfl⟩ := (show ∃ t, _ = Value.str x t from e)
      exact .cons (is_str x t) (uk_vals r)
theorem uk_inv {X : Cx} {pins : List (Addr × Obj)} {σ : L2.St} {H : Hp} {s : Shared} {b : Addr} {k : List Str} (I : Inv X pins σ H s) (h : SqT X.K H b (k.map V.str)) : UK X.prog X.w s.heap k b := by
  obtain ⟨its, r, pl, _⟩ := I.tuple h
  obtain ⟨o, ho, hc, n, hd⟩ := pl
  exact ⟨o, _, n, ho, hc, hd, by simpa using uk_vals r⟩
theorem uk_refs : ∀ {ks : List (Addr × List Str)} {us : List Value}, Vals (ks.map fun p => V.ref p.1) us → us = ks.map fun p => Value.ref p.1
  | [], _, h => by cases h; rfl
  | p :: ks, _, h => by
    cases h with
    | cons e r =>
      rw [uk_refs r]
      have e' : _ = Value.ref p.1 := e
      rw [e']
      rfl
def tLenSetU (K : PySem.W.Frag) (ta : TE) : TE := fun σ H Q => ta σ H fun x H1 => ∃ (l : Addr) (ks : List (Addr × List Str)), x = .ref l ∧ SqL K H1 l (ks.map fun p => V.ref p.1) ∧ (∀ p ∈ ks, SqT K H1 p.1 (p.2.map V.str)) ∧ ks.length ≤ 4 ∧ (ks.map (·.2)).Nodup ∧ Q (.int ks.length) H1
theorem pe_lenSetU {X : Cx} {a : Expr} {ta : TE} {p p2 q pos : Pos} (hc : X.calm = true) (hu : X.A.units + 65 < cLine) (hg : Gl X "len") (hm : X.mg "len" = none) (hg2 : Gl X "set") (hm2 : X.mg "set" = none) (ha : PE X a ta)
    (na : starEach [a] X.env = (false, eval a X.env) :: starEach [] X.env := by rfl) : PE X (.Call (.Name "len" p) [.Call (.Name "set" p2) [a] [] q] [] pos) (tLenSetU X.K ta) := by
  refine ⟨fun pins s σ H Q I h => ?_⟩
  refine Call_ (ld_blt I hg hm boot_len ?_)
  refine PyProof.Rows.callWith_builtin1 (PyProof.Rows.args_cons ?_ rfl) rfl rfl
  refine Call_ (ld_blt I hg2 hm2 boot_set ?_)
  refine PyProof.Rows.callWith_type1 (PyProof.Rows.args_cons (thn (ha.run pins s σ H _ I h) fun v s1 ⟨x, H1, I1, r1, q1⟩ => PyProof.Rows.args_nil ?_) na) na rfl
  obtain ⟨l, ks, rfl, hq, ht, h4, nd, q1⟩ := q1
  cases r1
  obtain ⟨its, r, pl, hz⟩ := I1.list hq
  refine call_setU ks (I1.ok.hd hc) pl.isList (by simpa using uk_refs r) h4 nd (fun p hp => uk_inv I1 (ht p hp)) (by omega) fun h' tk L es ep t hS pm hk => ?_
  refine PyProof.Rows.args_nil ?_
  have I2 : Inv X pins σ H1 { s1 with heap := h', toks := tk } := I1.kept hk
  obtain ⟨o, ho, hex, hd⟩ := hS.ob
  have hsz : es.size = ks.length := by
    have := congrArg List.length hS.rows
    rw [Array.length_toList, List.length_map, pm.length_eq] at this
    exact this
  have fit : t.fits es.size = true := US.fit (s := { s1 with heap := h' }) hS
  refine call_len_set ho hex hd fit (by rw [hsz]; omega) ⟨.int ks.length, H1, I2.tok _, ⟨_, by rw [hsz]⟩, q1⟩
def tupsL : List D → Option (List (List Str))
  | [] => some []
  | .tup ds :: r => match strL ds, tupsL r with
    | some xs, some l => some (xs :: l)
    | _, _ => none
  | _ => none
def lenSetUD (f : DEx) (ρ : En) (st : Store) : R := (f ρ st).bind fun d ρ st => match d with
  | .lst ds => (match tupsL ds with
    | some l => if l.length ≤ 4 ∧ l.Nodup then .ok (.int l.length) ρ st else .bad
    | none => .bad)
  | _ => .bad
theorem tups_reps {K : PySem.W.Frag} {mg : MG} {G H : Hp} {ι : List Addr} (sub : Same G H) : ∀ {vs : List V} {ds : List D} {l : List (List Str)}, Reps K mg G ι vs ds → tupsL ds = some l → ∃ ks : List (Addr × List Str), vs = ks.map (fun p => V.ref p.1) ∧ ks.map (·.2) = l ∧ ∀ p ∈ ks, SqT K H p.1 (p.2.map V.str)
  | _, [], _, .nil, h => by cases h; exact ⟨[], rfl, rfl, fun _ h => nomatch h⟩
  | v :: vs, d :: ds, l, .cons r rs, h => by
    cases d with
    | tup es =>
      unfold tupsL at h
      cases e1 : strL es with
      | none => simp only [e1] at h; cases h
      | some xs =>
        cases e2 : tupsL ds with
        | none => simp only [e1, e2] at h; cases h
        | some m =>
          simp only [e1, e2] at h
          cases h
          obtain ⟨ks, rfl, rfl, hk⟩ := tups_reps sub rs e2
          cases r with
          | tup h1 l1 s1 =>
            rename_i a ws
            have ev := strL_reps s1 e1
            subst ev
            refine ⟨(a, xs) :: ks, rfl, rfl, fun p hp => ?_⟩
            rcases List.mem_cons.mp hp with e | hp
            · rw [e]; exact SqT.mono sub h1
            · exact hk p hp
    | _ => simp [tupsL] at h
theorem de_lenSetU {X : Cx} {W : WB} {e : Expr} {f : DEx} {p p2 q pos : Pos} (hc : X.calm = true) (hu : X.A.units + 65 < cLine) (hg : Gl X "len") (hm : X.mg "len" = none) (hg2 : Gl X "set") (hm2 : X.mg "set" = none) (ha : DV X W e f) (he : starEach [e] X.env = (false, eval e X.env) :: starEach [] X.env := by rfl) :
    DE X W (.Call (.Name "len" p) [.Call (.Name "set" p2) [e] [] q] [] pos) (lenSetUD f) := by
  obtain ⟨te, pe, re⟩ := ha
  refine ⟨_, pe_lenSetU hc hu hg hm hg2 hm2 pe he, fun w Q s h => ?_⟩
  unfold lenSetUD at h
  refine re.bindR (Q := Q) s h fun w1 v d s1 e1 a1 r1 q1 => ?_
  cases d with
  | lst ds =>
    simp only at q1
    cases z : tupsL ds with
    | none => simp only [z] at q1; exact q1.elim
    | some l =>
      simp only [z] at q1
      split at q1
      · rename_i h4
        obtain ⟨a, vs, rfl, h1, h2, h3⟩ := r1.lst_inv s1
        obtain ⟨ks, rfl, rfl, hk⟩ := tups_reps s1.sub h3 z
        refine ⟨a, ks, rfl, SqL.of h1, hk, by simpa using h4.1, h4.2, ?_⟩
        have := q1 w1 (.int _) rfl rfl rfl (Aft.refl s1) (.int _)
        simpa using this
      · exact q1.elim
  | _ => exact q1.elim
end DL
set_option maxHeartbeats 4000000
namespace LW
open PySem L2 L2H DL
def top (i : Nat) : Stmt := PySem.Challenge.pw_allheard_k14_repeated_rows_go.main.body.getD i (.Pass ⟨0, 0, 0, 0⟩)
structure Fx (K : PySem.W.Frag) (mg : Str → Option Value) : Prop where
  n_abs : mg "abs" = none
  n_all : mg "all" = none
  n_any : mg "any" = none
  n_bool : mg "bool" = none
  n_enumerate : mg "enumerate" = none
  n_int : mg "int" = none
  n_isinstance : mg "isinstance" = none
  n_len : mg "len" = none
  n_list : mg "list" = none
  n_max : mg "max" = none
  n_min : mg "min" = none
  n_range : mg "range" = none
  n_set : mg "set" = none
  n_sorted : mg "sorted" = none
  n_tuple : mg "tuple" = none
  n_zip : mg "zip" = none
  h_kept_rows : Hld K mg ["Book"] "kept_rows"
abbrev s__law_bag : Stmt := top 13
abbrev N__law_bag : List Str := ["_law_script", "_law_at", "_law_cell", "_law_far"]
theorem sc__law_bag : FnScope N__law_bag ["_law_script", "_law_at"] (defScope s__law_bag) := ⟨rfl, rfl, rfl, by decide +kernel, rfl, by decide +kernel, by decide +kernel⟩
noncomputable def b__law_bag : DSx :=
  (seqD (setD (cst (.int 0)) (gN 2))
  (seqD (ifD (lift2 pLtX (vr 1) (lift1 pLen (pureE (pvw 0))))
    (setD (pureE (plift2 pIx (pvw 0) (pvr 1))) (gN 2))
    nxD)
  (seqD (setD (lift1 pAbs (pureE (pvw 2))) (gN 3))
  (retCD (lstD (aCons (lift2 mulK (vr 3) (lift1 pInt (lift2 pGeX (vr 3) (lift2 pPowW (cst (.int 10)) (cst (.int 18)))))) (aCons (lift2 addK (lift2 addK (lift2 pMod (vr 2) (lift2 addK (lift2 pPowW (cst (.int 10)) (cst (.int 18))) (cst (.int 9)))) (lift2 mulK (cst (.int 7368787)) (vr 1))) (cst (.int 41))) (aCons (cst (.int 0)) aNil))))))))
noncomputable def d__law_bag : Den := runD 4 b__law_bag
theorem bd__law_bag {P : Program} {wd : World} {K : PySem.W.Frag} {mg : Str → Option Value} {base : Heap} (T : Fx K mg)  {f : Addr} {A : Around} {outer : List Env} {s : Shared} {H : Hp} {E : XK} {cdv : Value} (hr : Room 0 (A.deeper (PyProof.Rows.envOfC "_law_bag" (defScope s__law_bag) s.heap.objs.size f cdv))) : DSs (cxOf (L2N.CX P wd) P wd K mg base N__law_bag "_law_bag" (defScope s__law_bag) f cdv A outer s H E) (WEx E) (defBody s__law_bag) b__law_bag :=
  have sc := sc__law_bag
  (dss_cons (ds_set (i := 2) sc.nd (by rfl) (Or.inl (by rfl)) de_int)
  (dss_cons (ds_if (dt_cmp (op_ltA hr.units) ans_ltX (nomark _) (de_vr 1) (DE.v (de_b1 call_len ansC_len (by rfl) T.n_len b_len (DPv.v (dp_vw 0)))))
    (dss_one (ds_set (i := 2) sc.nd (by rfl) (Or.inl (by rfl)) (DP.e (dp_ix (dp_vw 0) (dp_vr 1) (fun _ _ => (by rfl))))))
    dss_nil)
  (dss_cons (ds_set (i := 3) sc.nd (by rfl) (Or.inl (by rfl)) (de_b1 call_abs ansC_abs (by rfl) T.n_abs b_abs (DPv.v (dp_vw 2))))
  (dss_one (ds_retC (do_lst (da_cons (de_mulX (de_vr 3) (de_t1 call_int1 ansC_int (by rfl) T.n_int b_int (DE.v (de_cmp (op_geA hr.units) ans_geX (nomark _) (de_vr 3) (DE.v (de_powW de_int de_int)))))) (da_cons (de_addX (de_addX (de_mod (de_vr 2) (de_addX (de_powW de_int de_int) de_int)) (de_mulX de_int (de_vr 1))) de_int) (da_cons de_int da_nil)))))))))
abbrev s__law_take : Stmt := top 14
abbrev N__law_take : List Str := ["_law_bag_here", "_law_many", "_law_digit", "_law_base", "_law_mixed"]
theorem sc__law_take : FnScope N__law_take ["_law_bag_here", "_law_many"] (defScope s__law_take) := ⟨rfl, rfl, rfl, by decide +kernel, rfl, by decide +kernel, by decide +kernel⟩
noncomputable def b__law_take : DSx :=
  (seqD (ifD (lift2 pGtX (pureE (plift2 pIx (pvw 0) (pcst (.int 0)))) (cst (.int 0)))
    (seqD (setD (lift2 pMod (pureE (plift2 pIx (pvw 0) (pcst (.int 0)))) (vr 1)) (gN 2))
  (seqD (subSetD 0 (pcst (.int 0)) (lift2 pDiv (pureE (plift2 pIx (pvw 0) (pcst (.int 0)))) (vr 1)))
  (retD (vr 2))))
    nxD)
  (seqD (subSetD 0 (pcst (.int 2)) (lift2 addK (pureE (plift2 pIx (pvw 0) (pcst (.int 2)))) (cst (.int 1))))
  (seqD (setD (lift2 addK (lift2 addK (lift2 mulK (pureE (plift2 pIx (pvw 0) (pcst (.int 1)))) (lift2 addK (lift2 mulK (cst (.int 2)) (pureE (plift2 pIx (pvw 0) (pcst (.int 2))))) (cst (.int 1)))) (lift2 mulK (lift2 mulK (cst (.int 7919)) (pureE (plift2 pIx (pvw 0) (pcst (.int 2))))) (pureE (plift2 pIx (pvw 0) (pcst (.int 2)))))) (cst (.int 29))) (gN 3))
  (seqD (setD (lift2 pMod (lift2 pPowW (vr 3) (cst (.int 3))) (cst (.int 2147483587))) (gN 4))
  (retD (lift2 pMod (lift2 pDiv (lift2 pMod (lift2 mulK (vr 4) (lift2 addK (lift2 pDiv (vr 4) (cst (.int 4096))) (pureE (plift2 pIx (pvw 0) (pcst (.int 2)))))) (cst (.int 2147483549))) (cst (.int 16))) (vr 1)))))))
noncomputable def d__law_take : Den := runD 5 b__law_take
theorem bd__law_take {P : Program} {wd : World} {K : PySem.W.Frag} {mg : Str → Option Value} {base : Heap} (T : Fx K mg)  {f : Addr} {A : Around} {outer : List Env} {s : Shared} {H : Hp} {E : XK} {cdv : Value} (hr : Room 0 (A.deeper (PyProof.Rows.envOfC "_law_take" (defScope s__law_take) s.heap.objs.size f cdv))) : DSs (cxOf (L2N.CX P wd) P wd K mg base N__law_take "_law_take" (defScope s__law_take) f cdv A outer s H E) (WEx E) (defBody s__law_take) b__law_take :=
  have sc := sc__law_take
  (dss_cons (ds_if (dt_cmp (op_gtA hr.units) ans_gtX (nomark _) (DP.e (dp_ix (dp_vw 0) dp_int (fun _ _ => (by rfl)))) (DE.v de_int))
    (dss_cons (ds_set (i := 2) sc.nd (by rfl) (Or.inl (by rfl)) (de_mod (DP.e (dp_ix (dp_vw 0) dp_int (fun _ _ => (by rfl)))) (de_vr 1)))
  (dss_cons (ds_sub (i := 0) (de_div (DP.e (dp_ix (dp_vw 0) dp_int (fun _ _ => (by rfl)))) (de_vr 1)) dp_int)
  (dss_one (ds_ret (de_vr 2)))))
    dss_nil)
  (dss_cons (ds_sub (i := 0) (de_addX (DP.e (dp_ix (dp_vw 0) dp_int (fun _ _ => (by rfl)))) de_int) dp_int)
  (dss_cons (ds_set (i := 3) sc.nd (by rfl) (Or.inl (by rfl)) (de_addX (de_addX (de_mulX (DP.e (dp_ix (dp_vw 0) dp_int (fun _ _ => (by rfl)))) (de_addX (de_mulX de_int (DP.e (dp_ix (dp_vw 0) dp_int (fun _ _ => (by rfl))))) de_int)) (de_mulX (de_mulX de_int (DP.e (dp_ix (dp_vw 0) dp_int (fun _ _ => (by rfl))))) (DP.e (dp_ix (dp_vw 0) dp_int (fun _ _ => (by rfl)))))) de_int))
  (dss_cons (ds_set (i := 4) sc.nd (by rfl) (Or.inl (by rfl)) (de_mod (de_powW (de_vr 3) de_int) de_int))
  (dss_one (ds_ret (de_mod (de_div (de_mod (de_mulX (de_vr 4) (de_addX (de_div (de_vr 4) de_int) (DP.e (dp_ix (dp_vw 0) dp_int (fun _ _ => (by rfl)))))) de_int) de_int) (de_vr 1))))))))
abbrev s__law_name : Stmt := top 16
abbrev N__law_name : List Str := ["_law_bag_here", "_law_size", "_law_spot"]
theorem sc__law_name : FnScope N__law_name ["_law_bag_here"] (defScope s__law_name) := ⟨rfl, rfl, rfl, by decide +kernel, rfl, by decide +kernel, by decide +kernel⟩
noncomputable def e__law_name_1 : DEx :=
  (lift2 pIx (cst (.str "abcdefghijklmnopqrstuvwxyz")) (callD d__law_take (aCons (vr 0) (aCons (cst (.int 26)) aNil))))
noncomputable def b__law_name : DSx :=
  (seqD (setD (lift2 pIx (lstD (aCons (cst (.int 1)) (aCons (cst (.int 2)) (aCons (cst (.int 3)) (aCons (cst (.int 8)) aNil))))) (callD d__law_take (aCons (vr 0) (aCons (cst (.int 4)) aNil)))) (gN 1))
  (retD (lift2 pJoin (cst (.str "")) (lcD (rng1 (aCons (vr 1) aNil)) (gN 2) yesD e__law_name_1 [2]))))
noncomputable def d__law_name : Den := runD 3 b__law_name
theorem bd__law_name {P : Program} {wd : World} {K : PySem.W.Frag} {mg : Str → Option Value} {base : Heap} (T : Fx K mg) (C__law_take : Cal P wd K mg base 1 "_law_take" 2 d__law_take) {f : Addr} {A : Around} {outer : List Env} {s : Shared} {H : Hp} {E : XK} {cdv : Value} (hr : Room 1 (A.deeper (PyProof.Rows.envOfC "_law_name" (defScope s__law_name) s.heap.objs.size f cdv))) : DSs (cxOf (L2N.CX P wd) P wd K mg base N__law_name "_law_name" (defScope s__law_name) f cdv A outer s H E) (WEx E) (defBody s__law_name) b__law_name :=
  have sc := sc__law_name
  (dss_cons (ds_set (i := 1) sc.nd (by rfl) (Or.inl (by rfl)) (de_ix (DO.fz (do_lst (da_cons de_int (da_cons de_int (da_cons de_int (da_cons de_int da_nil)))))) (Cal.call C__law_take hr (by omega) (by rfl) (L2N.takes_of (by rfl) (by rfl) (by rfl) (by rfl)) (da_cons (de_vr 0) (da_cons de_int da_nil))) (fun _ _ => (by rfl))))
  (dss_one (ds_ret (de_join (fun _ _ => ⟨_, (by rfl)⟩) de_str (DE.v (DO.fz (do_lc (own := [("_law_spot", 2)]) (by rfl) sc.nd (di_range1 (by rfl) T.n_range (da_cons (de_vr 1) da_nil)) (blkOk_by (by rfl)) (by decide) (fun _ _ _ _ _ => (dg_name (i := 2) sc.nd (by rfl) (by first | exact Or.inl (by rfl) | exact Or.inr (by rfl)))) (fun _ _ _ _ _ => dts_nil) (fun _ _ _ _ _ => (de_ix de_str (Cal.call C__law_take hr (by omega) (by rfl) takesF (da_cons (de_vr 0) (da_cons de_int da_nil))) (fun _ _ => (by rfl)))))))))))
abbrev s__law_names : Stmt := top 17
abbrev N__law_names : List Str := ["_law_bag_here", "_law_many", "_law_letters", "_law_found", "_law_spot", "_law_name_here"]
theorem sc__law_names : FnScope N__law_names ["_law_bag_here", "_law_many"] (defScope s__law_names) := ⟨rfl, rfl, rfl, by decide +kernel, rfl, by decide +kernel, by decide +kernel⟩
noncomputable def w__law_names_1 : DEx :=
  (lift2 (pInX false) (vr 5) (pureE (pvw 3)))
noncomputable def f__law_names_2 : DSx :=
  (setD (lift2 addK (slX kSl (vr 5) bdN (bdS (lift1 pNeg (cst (.int 1))))) (lift2 pIx (vr 2) (lift2 pMod (lift2 addK (smD sIndex (vr 2) (aCons (pureE (plift2 pIx (pvw 5) (plift1 pNeg (pcst (.int 1))))) aNil)) (cst (.int 1))) (cst (.int 26))))) (gN 5))
noncomputable def f__law_names_3 : DSx :=
  (seqD (setD (callD d__law_name (aCons (vr 0) aNil)) (gN 5))
  (seqD (whileD w__law_names_1
    f__law_names_2)
  (exprD (mutD 3 kApp (aCons (vr 5) aNil)))))
noncomputable def b__law_names : DSx :=
  (seqD (setD (cst (.str "abcdefghijklmnopqrstuvwxyz")) (gN 2))
  (seqD (setOD (lstD aNil) 3)
  (seqD (forE (rng1 (aCons (vr 1) aNil)) (gN 4)
    f__law_names_3)
  (retD (frzE 3)))))
noncomputable def d__law_names : Den := runD 6 b__law_names
theorem bd__law_names {P : Program} {wd : World} {K : PySem.W.Frag} {mg : Str → Option Value} {base : Heap} (T : Fx K mg) (C__law_name : Cal P wd K mg base 2 "_law_name" 1 d__law_name) {f : Addr} {A : Around} {outer : List Env} {s : Shared} {H : Hp} {E : XK} {cdv : Value} (hr : Room 2 (A.deeper (PyProof.Rows.envOfC "_law_names" (defScope s__law_names) s.heap.objs.size f cdv))) : DSs (cxOf (L2N.CX P wd) P wd K mg base N__law_names "_law_names" (defScope s__law_names) f cdv A outer s H E) (WEx E) (defBody s__law_names) b__law_names :=
  have sc := sc__law_names
  (dss_cons (ds_set (i := 2) sc.nd (by rfl) (Or.inl (by rfl)) de_str)
  (dss_cons (ds_setO (i := 3) sc.nd (by rfl) (Or.inl (by rfl)) (do_lst da_nil))
  (dss_cons (ds_for (passes_of (by rfl)) (by rfl) (di_range1 (by rfl) T.n_range (da_cons (de_vr 1) da_nil)) (dg_name (i := 4) sc.nd (by rfl) (Or.inl (by rfl)))
    (dss_cons (ds_set (i := 5) sc.nd (by rfl) (Or.inl (by rfl)) (Cal.call C__law_name hr (by omega) (by rfl) (L2N.takes_of (by rfl) (by rfl) (by rfl) (by rfl)) (da_cons (de_vr 0) da_nil)))
  (dss_cons (ds_while (passes_of (by rfl)) (dt_cmp (op_inA hr.u65) (ans_in false) (by rfl) (de_vr 5) (DPv.v (dp_vw 3)))
    (dss_one (ds_set (i := 5) sc.nd (by rfl) (Or.inl (by rfl)) (de_addX (de_slice (de_vr 5) db_none (db_some (de_neg de_int))) (de_ix (de_vr 2) (de_mod (de_addX (de_sm PySem.F.slot_str_index PySem.F.type_str_index mt_sindex ansS_index (de_vr 2) (da_cons (DP.e (dp_ix (dp_vw 5) (dp_neg dp_int) (fun _ _ => (by rfl)))) da_nil)) de_int) de_int) (fun _ _ => (by rfl)))))))
  (dss_one (ds_expr (de_mut (i := 3) PySem.F.slot_list_append PySem.F.type_list_append mt_append ansM_app (da_cons (de_vr 5) da_nil)))))))
  (dss_one (ds_ret (de_frz 3))))))
abbrev s__law_some : Stmt := top 18
abbrev N__law_some : List Str := ["_law_bag_here", "_law_members", "_law_most", "_law_left", "_law_found", "_law_spot"]
theorem sc__law_some : FnScope N__law_some ["_law_bag_here", "_law_members", "_law_most"] (defScope s__law_some) := ⟨rfl, rfl, rfl, by decide +kernel, rfl, by decide +kernel, by decide +kernel⟩
noncomputable def f__law_some_1 : DSx :=
  (exprD (mutD 4 kApp (aCons (mutD 3 kPopAt (aCons (callD d__law_take (aCons (vr 0) (aCons (lift1 pLen (pureE (pvw 3))) aNil))) aNil)) aNil)))
noncomputable def b__law_some : DSx :=
  (seqD (setOD (listD (pureE (pvw 1))) 3)
  (seqD (setOD (lstD aNil) 4)
  (seqD (forE (rng1 (aCons (lift2 addK (cst (.int 1)) (callD d__law_take (aCons (vr 0) (aCons (lift2 pMin (lift1 pLen (pureE (pvw 3))) (pureE (pvw 2))) aNil)))) aNil)) (gN 5)
    f__law_some_1)
  (retD (frzE 4)))))
noncomputable def d__law_some : Den := runD 6 b__law_some
theorem bd__law_some {P : Program} {wd : World} {K : PySem.W.Frag} {mg : Str → Option Value} {base : Heap} (T : Fx K mg) (C__law_take : Cal P wd K mg base 1 "_law_take" 2 d__law_take) {f : Addr} {A : Around} {outer : List Env} {s : Shared} {H : Hp} {E : XK} {cdv : Value} (hr : Room 1 (A.deeper (PyProof.Rows.envOfC "_law_some" (defScope s__law_some) s.heap.objs.size f cdv))) : DSs (cxOf (L2N.CX P wd) P wd K mg base N__law_some "_law_some" (defScope s__law_some) f cdv A outer s H E) (WEx E) (defBody s__law_some) b__law_some :=
  have sc := sc__law_some
  (dss_cons (ds_setO (i := 3) sc.nd (by rfl) (Or.inl (by rfl)) (do_list (by rfl) T.n_list (DPv.v (dp_vw 1))))
  (dss_cons (ds_setO (i := 4) sc.nd (by rfl) (Or.inl (by rfl)) (do_lst da_nil))
  (dss_cons (ds_for (passes_of (by rfl)) (by rfl) (di_range1 (by rfl) T.n_range (da_cons (de_addX de_int (Cal.call C__law_take hr (by omega) (by rfl) (L2N.takes_of (by rfl) (by rfl) (by rfl) (by rfl)) (da_cons (de_vr 0) (da_cons (de_b2 (call_min2 (by rfl)) ansC_min (by rfl) T.n_min b_min (de_b1 call_len ansC_len (by rfl) T.n_len b_len (DPv.v (dp_vw 3))) (DPv.v (dp_vw 2))) da_nil)))) da_nil)) (dg_name (i := 5) sc.nd (by rfl) (Or.inl (by rfl)))
    (dss_one (ds_expr (de_mut (i := 4) PySem.F.slot_list_append PySem.F.type_list_append mt_append ansM_app (da_cons (de_mut (i := 3) PySem.F.slot_list_pop PySem.F.type_list_pop mt_popAt ansM_popAt (da_cons (Cal.call C__law_take hr (by omega) (by rfl) (L2N.takes_of (by rfl) (by rfl) (by rfl) (by rfl)) (da_cons (de_vr 0) (da_cons (de_b1 call_len ansC_len (by rfl) T.n_len b_len (DPv.v (dp_vw 3))) da_nil))) da_nil)) da_nil)))))
  (dss_one (ds_ret (de_frz 4))))))
abbrev s_Book_rows : Stmt := inClass (top 11) 5
abbrev N_Book_rows : List Str := ["self"]
theorem sc_Book_rows : FnScope N_Book_rows ["self"] (defScope s_Book_rows) := ⟨rfl, rfl, rfl, by decide +kernel, rfl, by decide +kernel, by decide +kernel⟩
noncomputable def b_Book_rows : DSx :=
  (retD (listD (fldD ["Book"] "kept_rows" (vr 0))))
noncomputable def d_Book_rows : Den := runD 1 b_Book_rows
theorem bd_Book_rows {P : Program} {wd : World} {K : PySem.W.Frag} {mg : Str → Option Value} {base : Heap} (T : Fx K mg)  {f : Addr} {A : Around} {outer : List Env} {s : Shared} {H : Hp} {E : XK} {cdv : Value} (hr : Room 0 (A.deeper (PyProof.Rows.envOfC "Book.rows" (defScope s_Book_rows) s.heap.objs.size f cdv))) : DSs (cxOf (L2N.CX P wd) P wd K mg base N_Book_rows "Book.rows" (defScope s_Book_rows) f cdv A outer s H E) (WEx E) (defBody s_Book_rows) b_Book_rows :=
  have sc := sc_Book_rows
  (dss_one (ds_ret (DO.fz (do_list (by rfl) T.n_list (DE.v (de_fld T.h_kept_rows (de_vr 0)))))))
abbrev s_is_within : Stmt := top 5
abbrev N_is_within : List Str := ["one", "other", "member"]
theorem sc_is_within : FnScope N_is_within ["one", "other"] (defScope s_is_within) := ⟨rfl, rfl, rfl, by decide +kernel, rfl, by decide +kernel, by decide +kernel⟩
noncomputable def e_is_within_1 : DEx :=
  (lift2 (pInX false) (vr 2) (pureE (pvw 1)))
noncomputable def b_is_within : DSx :=
  (retD (lift1 pAll (lcD (itD (vr 0)) (gN 2) yesD e_is_within_1 [2])))
noncomputable def d_is_within : Den := runD 3 b_is_within
theorem bd_is_within {P : Program} {wd : World} {K : PySem.W.Frag} {mg : Str → Option Value} {base : Heap} (T : Fx K mg)  {f : Addr} {A : Around} {outer : List Env} {s : Shared} {H : Hp} {E : XK} {cdv : Value} (hr : Room 0 (A.deeper (PyProof.Rows.envOfC "is_within" (defScope s_is_within) s.heap.objs.size f cdv))) : DSs (cxOf (L2N.CX P wd) P wd K mg base N_is_within "is_within" (defScope s_is_within) f cdv A outer s H E) (WEx E) (defBody s_is_within) b_is_within :=
  have sc := sc_is_within
  (dss_one (ds_ret (de_b1 (cr_all (by rfl)) ansC_all (by rfl) T.n_all b_all (DE.v (DO.fz (do_lc (own := [("member", 2)]) (by rfl) sc.nd (di_seq (de_vr 0)) (blkOk_by (by rfl)) (by decide) (fun _ _ _ _ _ => (dg_name (i := 2) sc.nd (by rfl) (by first | exact Or.inl (by rfl) | exact Or.inr (by rfl)))) (fun _ _ _ _ _ => dts_nil) (fun _ _ _ _ _ => (de_cmp (op_inA hr.u65) (ans_in false) (by rfl) (de_vr 2) (DPv.v (dp_vw 1))))))))))
abbrev s_thinned : Stmt := top 8
abbrev N_thinned : List Str := ["lot", "kept", "one", "other"]
theorem sc_thinned : FnScope N_thinned ["lot"] (defScope s_thinned) := ⟨rfl, rfl, rfl, by decide +kernel, rfl, by decide +kernel, by decide +kernel⟩
noncomputable def e_thinned_1 : DEx :=
  (andD (lift2 pNe (vr 3) (pureE (pvw 2))) (callD d_is_within (aCons (vr 2) (aCons (vr 3) aNil))))
noncomputable def t_thinned_2 : DEx :=
  (notD (lift1 pAny (lcD (itD (vr 0)) (gN 3) yesD e_thinned_1 [3])))
noncomputable def b_thinned : DSx :=
  (seqD (setD (lcD (itD (vr 0)) (gN 2) t_thinned_2 (vr 2) [2]) (gN 1))
  (retD (sortD (pureE (pvw 1)))))
noncomputable def d_thinned : Den := runD 4 b_thinned
theorem bd_thinned {P : Program} {wd : World} {K : PySem.W.Frag} {mg : Str → Option Value} {base : Heap} (T : Fx K mg) (C_is_within : Cal P wd K mg base 1 "is_within" 2 d_is_within) {f : Addr} {A : Around} {outer : List Env} {s : Shared} {H : Hp} {E : XK} {cdv : Value} (hr : Room 1 (A.deeper (PyProof.Rows.envOfC "thinned" (defScope s_thinned) s.heap.objs.size f cdv))) : DSs (cxOf (L2N.CX P wd) P wd K mg base N_thinned "thinned" (defScope s_thinned) f cdv A outer s H E) (WEx E) (defBody s_thinned) b_thinned :=
  have sc := sc_thinned
  (dss_cons (ds_lcF (ps_lc (i := 1) (own := [("one", 2)]) (by rfl) sc.nd (by rfl) (by rfl) (sw_true (by rfl) (by rfl) (by rfl) (by decide +kernel)) (di_seq (de_vr 0)) (blkOk_by (by rfl)) (by decide) (fun _ _ _ _ _ => (dg_name (i := 2) sc.nd (by rfl) (by first | exact Or.inl (by rfl) | exact Or.inr (by rfl)))) (fun _ _ _ _ _ => (dts_one (dt_not (dt_val (de_b1 (cr_any (by rfl)) ansC_any (by rfl) T.n_any b_any (DE.v (DO.fz (do_lc (own := [("other", 3)]) (by rfl) sc.nd (di_seq (de_vr 0)) (blkOk_by (by rfl)) (by decide) (fun _ _ _ _ _ => (dg_name (i := 3) sc.nd (by rfl) (by first | exact Or.inl (by rfl) | exact Or.inr (by rfl)))) (fun _ _ _ _ _ => dts_nil) (fun _ _ _ _ _ => (de_and (de_cmp (op_neD hr.units) ans_ne (nomark _) (de_vr 3) (DPv.v (dp_vw 2))) (de_one (Cal.call C_is_within hr (by omega) (by rfl) takesF (da_cons (de_vr 2) (da_cons (de_vr 3) da_nil)))))))))))))) (fun _ _ _ _ _ => (de_vr 2))))
  (dss_one (ds_ret (DO.fz (do_sorted hr.u80 (by rfl) T.n_sorted (DPv.v (dp_vw 1)))))))
abbrev s_runs_of : Stmt := top 7
abbrev N_runs_of : List Str := ["rows", "found", "thing", "hearers"]
theorem sc_runs_of : FnScope N_runs_of ["rows"] (defScope s_runs_of) := ⟨rfl, rfl, rfl, by decide +kernel, rfl, by decide +kernel, by decide +kernel⟩
noncomputable def f_runs_of_1 : DSx :=
  (ifD (andD (lift2 pGtX (lift1 pLen (pureE (pvw 1))) (cst (.int 0))) (lift2 pEq (pureE (plift2 pIx (plift2 pIx (pvw 1) (plift1 pNeg (pcst (.int 1)))) (pcst (.int 0)))) (pureE (pvw 2))))
    (exprD (mutED kApp (pureE (plift2 pIx (plift2 pIx (pvw 1) (plift1 pNeg (pcst (.int 1)))) (pcst (.int 1)))) (aCons (vr 3) aNil)))
    (exprD (mutD 1 kApp (aCons (aCons (vr 2) (aCons (cellE (lstD (aCons (vr 3) aNil))) aNil)) aNil))))
noncomputable def b_runs_of : DSx :=
  (seqD (setOD (lstD aNil) 1)
  (seqD (forE (itD (vr 0)) (gT (gsCons (gN 2) (gsCons (gN 3) gsNil)))
    f_runs_of_1)
  (retD (fzE (frzE 1)))))
noncomputable def d_runs_of : Den := runD 4 b_runs_of
theorem bd_runs_of {P : Program} {wd : World} {K : PySem.W.Frag} {mg : Str → Option Value} {base : Heap} (T : Fx K mg)  {f : Addr} {A : Around} {outer : List Env} {s : Shared} {H : Hp} {E : XK} {cdv : Value} (hr : Room 0 (A.deeper (PyProof.Rows.envOfC "runs_of" (defScope s_runs_of) s.heap.objs.size f cdv))) : DSs (cxOf (L2N.CX P wd) P wd K mg base N_runs_of "runs_of" (defScope s_runs_of) f cdv A outer s H E) (WEx E) (defBody s_runs_of) b_runs_of :=
  have sc := sc_runs_of
  (dss_cons (ds_setO (i := 1) sc.nd (by rfl) (Or.inl (by rfl)) (do_lst da_nil))
  (dss_cons (ds_for (passes_of (by rfl)) (by rfl) (di_seq (de_vr 0)) (dg_tup (by rfl) (dgs_cons (dg_name (i := 2) sc.nd (by rfl) (Or.inl (by rfl))) (dgs_cons (dg_name (i := 3) sc.nd (by rfl) (Or.inl (by rfl))) dgs_nil)))
    (dss_one (ds_if (DW.t (dw_and (dt_cmp (op_gtA hr.units) ans_gtX (nomark _) (de_b1 call_len ansC_len (by rfl) T.n_len b_len (DPv.v (dp_vw 1))) (DE.v de_int)) (dw_and1 (dt_cmp (op_eqD hr.units) ans_eq (nomark _) (DP.e (dp_ix (DP.pv (dp_ix (dp_vw 1) (dp_neg dp_int) (fun _ _ => (by rfl)))) dp_int (fun _ _ => (by rfl)))) (DPv.v (dp_vw 2))))))
    (dss_one (ds_expr (de_mutE PySem.F.slot_list_append PySem.F.type_list_append mt_append ansM_app (DP.e (dp_ix (DP.pv (dp_ix (dp_vw 1) (dp_neg dp_int) (fun _ _ => (by rfl)))) dp_int (fun _ _ => (by rfl)))) (da_cons (de_vr 3) da_nil))))
    (dss_one (ds_expr (de_mut (i := 1) PySem.F.slot_list_append PySem.F.type_list_append mt_append ansM_app (da_cons (de_tup (da_cons (de_vr 2) (da_cons (DO.cell (do_lst (da_cons (de_vr 3) da_nil))) da_nil))) da_nil)))))))
  (dss_one (ds_ret (DE.fzE (de_frz 1))))))
abbrev s_uncovered : Stmt := top 6
abbrev N_uncovered : List Str := ["rows", "found", "at", "thing", "hearers", "later", "behind", "other"]
theorem sc_uncovered : FnScope N_uncovered ["rows"] (defScope s_uncovered) := ⟨rfl, rfl, rfl, by decide +kernel, rfl, by decide +kernel, by decide +kernel⟩
noncomputable def e_uncovered_1 : DEx :=
  (callD d_is_within (aCons (vr 4) (aCons (vr 7) aNil)))
noncomputable def f_uncovered_2 : DSx :=
  (seqD (setD (lcD (itD (slX kSl (vr 0) (bdS (lift2 addK (vr 2) (cst (.int 1)))) bdN)) (gT (gsCons (gN 6) (gsCons (gN 7) gsNil))) yesD (vr 7) [6, 7]) (gN 5))
  (ifD (andD (lift2 pGtX (lift1 pLen (pureE (pvw 4))) (cst (.int 0))) (notD (lift1 pAny (lcD (itD (vr 5)) (gN 7) yesD e_uncovered_1 [7]))))
    (exprD (mutD 1 kApp (aCons (aCons (vr 3) (aCons (vr 4) aNil)) aNil)))
    nxD))
noncomputable def b_uncovered : DSx :=
  (seqD (setOD (lstD aNil) 1)
  (seqD (forE (enumD (aCons (vr 0) aNil)) (gT (gsCons (gN 2) (gsCons (gT (gsCons (gN 3) (gsCons (gN 4) gsNil))) gsNil)))
    f_uncovered_2)
  (retD (frzE 1))))
noncomputable def d_uncovered : Den := runD 8 b_uncovered
theorem bd_uncovered {P : Program} {wd : World} {K : PySem.W.Frag} {mg : Str → Option Value} {base : Heap} (T : Fx K mg) (C_is_within : Cal P wd K mg base 1 "is_within" 2 d_is_within) {f : Addr} {A : Around} {outer : List Env} {s : Shared} {H : Hp} {E : XK} {cdv : Value} (hr : Room 1 (A.deeper (PyProof.Rows.envOfC "uncovered" (defScope s_uncovered) s.heap.objs.size f cdv))) : DSs (cxOf (L2N.CX P wd) P wd K mg base N_uncovered "uncovered" (defScope s_uncovered) f cdv A outer s H E) (WEx E) (defBody s_uncovered) b_uncovered :=
  have sc := sc_uncovered
  (dss_cons (ds_setO (i := 1) sc.nd (by rfl) (Or.inl (by rfl)) (do_lst da_nil))
  (dss_cons (ds_for (passes_of (by rfl)) (by rfl) (di_enum (by rfl) T.n_enumerate (da_cons (de_vr 0) da_nil)) (dg_tup (by rfl) (dgs_cons (dg_name (i := 2) sc.nd (by rfl) (Or.inl (by rfl))) (dgs_cons (dg_tup (by rfl) (dgs_cons (dg_name (i := 3) sc.nd (by rfl) (Or.inl (by rfl))) (dgs_cons (dg_name (i := 4) sc.nd (by rfl) (Or.inr (by rfl))) dgs_nil))) dgs_nil)))
    (dss_cons (ds_lcF (ps_lc (i := 5) (own := [("behind", 6), ("other", 7)]) (by rfl) sc.nd (by rfl) (by rfl) (sw_true (by rfl) (by rfl) (by rfl) (by decide +kernel)) (di_seq (de_slice (de_vr 0) (db_some (de_addX (de_vr 2) de_int)) db_none)) (blkOk_by (by rfl)) (by decide) (fun _ _ _ _ _ => (dg_tup (by rfl) (dgs_cons (dg_name (i := 6) sc.nd (by rfl) (by first | exact Or.inl (by rfl) | exact Or.inr (by rfl))) (dgs_cons (dg_name (i := 7) sc.nd (by rfl) (by first | exact Or.inl (by rfl) | exact Or.inr (by rfl))) dgs_nil)))) (fun _ _ _ _ _ => dts_nil) (fun _ _ _ _ _ => (de_vr 7))))
  (dss_one (ds_if (DW.t (dw_and (dt_cmp (op_gtA hr.units) ans_gtX (nomark _) (de_b1 call_len ansC_len (by rfl) T.n_len b_len (DPv.v (dp_vw 4))) (DE.v de_int)) (dw_and1 (dt_not (dt_val (de_b1 (cr_any (by rfl)) ansC_any (by rfl) T.n_any b_any (DE.v (DO.fz (do_lc (own := [("other", 7)]) (by rfl) sc.nd (di_seq (de_vr 5)) (blkOk_by (by rfl)) (by decide) (fun _ _ _ _ _ => (dg_name (i := 7) sc.nd (by rfl) (by first | exact Or.inl (by rfl) | exact Or.inr (by rfl)))) (fun _ _ _ _ _ => dts_nil) (fun _ _ _ _ _ => (Cal.call C_is_within hr (by omega) (by rfl) takesF (da_cons (de_vr 4) (da_cons (de_vr 7) da_nil)))))))))))))
    (dss_one (ds_expr (de_mut (i := 1) PySem.F.slot_list_append PySem.F.type_list_append mt_append ansM_app (da_cons (de_tup (da_cons (de_vr 3) (da_cons (de_vr 4) da_nil))) da_nil))))
    dss_nil))))
  (dss_one (ds_ret (de_frz 1)))))
abbrev s_reduced : Stmt := top 9
abbrev N_reduced : List Str := ["rows", "left", "many", "runs", "thing", "lot", "hearers"]
theorem sc_reduced : FnScope N_reduced ["rows"] (defScope s_reduced) := ⟨rfl, rfl, rfl, by decide +kernel, rfl, by decide +kernel, by decide +kernel⟩
noncomputable def e_reduced_1 : DEx :=
  (aCons (vr 4) (aCons (vr 6) aNil))
noncomputable def e_reduced_2 : DEx :=
  (aCons (vr 4) (aCons (callD d_thinned (aCons (vr 5) aNil)) aNil))
noncomputable def w_reduced_3 : DEx :=
  (lift2 pLtX (lift1 pLen (pureE (pvw 1))) (pureE (pvw 2)))
noncomputable def f_reduced_4 : DSx :=
  (seqD (setD (lift1 pLen (pureE (pvw 1))) (gN 2))
  (seqD (setD (lcD (itD (callD d_runs_of (aCons (callD d_uncovered (aCons (vr 1) aNil)) aNil))) (gT (gsCons (gN 4) (gsCons (gN 5) gsNil))) yesD e_reduced_2 [4, 5]) (gN 3))
  (seqD (ifD (andD (lift2 pGtX (lift1 pLen (pureE (pvw 3))) (cst (.int 0))) (lift2 (pIs false) (pureE (plift2 pIx (plift2 pIx (pvw 3) (pcst (.int 0))) (pcst (.int 0)))) (cst .non)))
    (setD (slX kSl (vr 3) (bdS (cst (.int 1))) bdN) (gN 3))
    nxD)
  (setD (lc2D (itD (vr 3)) (gT (gsCons (gN 4) (gsCons (gN 5) gsNil))) yesD (itD (vr 5)) (gN 6) yesD e_reduced_1 [4, 5, 6] [6]) (gN 1)))))
noncomputable def b_reduced : DSx :=
  (seqD (setD (listD (pureE (pvw 0))) (gN 1))
  (seqD (setD (lift2 addK (lift1 pLen (pureE (pvw 1))) (cst (.int 1))) (gN 2))
  (seqD (whileD w_reduced_3
    f_reduced_4)
  (retD (vr 1)))))
noncomputable def d_reduced : Den := runD 7 b_reduced
theorem bd_reduced {P : Program} {wd : World} {K : PySem.W.Frag} {mg : Str → Option Value} {base : Heap} (T : Fx K mg) (C_uncovered : Cal P wd K mg base 2 "uncovered" 1 d_uncovered) (C_runs_of : Cal P wd K mg base 1 "runs_of" 1 d_runs_of) (C_thinned : Cal P wd K mg base 2 "thinned" 1 d_thinned) {f : Addr} {A : Around} {outer : List Env} {s : Shared} {H : Hp} {E : XK} {cdv : Value} (hr : Room 2 (A.deeper (PyProof.Rows.envOfC "reduced" (defScope s_reduced) s.heap.objs.size f cdv))) : DSs (cxOf (L2N.CX P wd) P wd K mg base N_reduced "reduced" (defScope s_reduced) f cdv A outer s H E) (WEx E) (defBody s_reduced) b_reduced :=
  have sc := sc_reduced
  (dss_cons (ds_set (i := 1) sc.nd (by rfl) (Or.inl (by rfl)) (DO.fz (do_list (by rfl) T.n_list (DPv.v (dp_vw 0)))))
  (dss_cons (ds_set (i := 2) sc.nd (by rfl) (Or.inl (by rfl)) (de_addX (de_b1 call_len ansC_len (by rfl) T.n_len b_len (DPv.v (dp_vw 1))) de_int))
  (dss_cons (ds_while (passes_of (by rfl)) (dt_cmp (op_ltA hr.units) ans_ltX (nomark _) (de_b1 call_len ansC_len (by rfl) T.n_len b_len (DPv.v (dp_vw 1))) (DPv.v (dp_vw 2)))
    (dss_cons (ds_set (i := 2) sc.nd (by rfl) (Or.inl (by rfl)) (de_b1 call_len ansC_len (by rfl) T.n_len b_len (DPv.v (dp_vw 1))))
  (dss_cons (ds_lcF (ps_lc (i := 3) (own := [("thing", 4), ("lot", 5)]) (by rfl) sc.nd (by rfl) (by rfl) (sw_true (by rfl) (by rfl) (by rfl) (by decide +kernel)) (di_seq (Cal.call C_runs_of hr (by omega) (by rfl) (L2N.takes_of (by rfl) (by rfl) (by rfl) (by rfl)) (da_cons (Cal.call C_uncovered hr (by omega) (by rfl) (L2N.takes_of (by rfl) (by rfl) (by rfl) (by rfl)) (da_cons (de_vr 1) da_nil)) da_nil))) (blkOk_by (by rfl)) (by decide) (fun _ _ _ _ _ => (dg_tup (by rfl) (dgs_cons (dg_name (i := 4) sc.nd (by rfl) (by first | exact Or.inl (by rfl) | exact Or.inr (by rfl))) (dgs_cons (dg_name (i := 5) sc.nd (by rfl) (by first | exact Or.inl (by rfl) | exact Or.inr (by rfl))) dgs_nil)))) (fun _ _ _ _ _ => dts_nil) (fun _ _ _ _ _ => (de_tup (da_cons (de_vr 4) (da_cons (Cal.call C_thinned hr (by omega) (by rfl) takesF (da_cons (de_vr 5) da_nil)) da_nil))))))
  (dss_cons (ds_if (DW.t (dw_and (dt_cmp (op_gtA hr.units) ans_gtX (nomark _) (de_b1 call_len ansC_len (by rfl) T.n_len b_len (DPv.v (dp_vw 3))) (DE.v de_int)) (dw_and1 (dt_cmp op_isN ans_isN (nomark _) (DP.e (dp_ix (DP.pv (dp_ix (dp_vw 3) dp_int (fun _ _ => (by rfl)))) dp_int (fun _ _ => (by rfl)))) (DE.v de_non)))))
    (dss_one (ds_set (i := 3) sc.nd (by rfl) (Or.inl (by rfl)) (de_slice (de_vr 3) (db_some de_int) db_none)))
    dss_nil)
  (dss_one (ds_lc2F (ps_lc2 (i := 1) (own := [("thing", 4), ("lot", 5), ("hearers", 6)]) (vs1 := [6]) (by rfl) sc.nd (by rfl) (by rfl) (sw_true (by rfl) (by rfl) (by rfl) (by decide +kernel)) (di_seq (de_vr 3)) (blkOk_by (by rfl)) (by decide) (by decide) (by decide) (fun _ _ _ _ _ => (dg_tup (by rfl) (dgs_cons (dg_name (i := 4) sc.nd (by rfl) (by first | exact Or.inl (by rfl) | exact Or.inr (by rfl))) (dgs_cons (dg_name (i := 5) sc.nd (by rfl) (by first | exact Or.inl (by rfl) | exact Or.inr (by rfl))) dgs_nil)))) (fun _ _ _ _ _ => dts_nil) (fun _ _ _ _ _ => (di_seq (de_vr 5))) (fun _ _ _ _ _ => (dg_name (i := 6) sc.nd (by rfl) (by first | exact Or.inl (by rfl) | exact Or.inr (by rfl)))) (fun _ _ _ _ _ => dts_nil) (fun _ _ _ _ _ => (de_tup (da_cons (de_vr 4) (da_cons (de_vr 6) da_nil)))))))))))
  (dss_one (ds_ret (de_vr 1))))))
abbrev s_Book___init__ : Stmt := inClass (top 11) 0
abbrev N_Book___init__ : List Str := ["self", "rows", "thing", "hearers"]
theorem sc_Book___init__ : FnScope N_Book___init__ ["self", "rows"] (defScope s_Book___init__) := ⟨rfl, rfl, rfl, by decide +kernel, rfl, by decide +kernel, by decide +kernel⟩
noncomputable def e_Book___init___1 : DEx :=
  (aCons (vr 2) (aCons (tupleD (pureE (pvw 3))) aNil))
noncomputable def b_Book___init__ : DSx :=
  (setFldD ["Book"] "kept_rows" 0 (callD d_reduced (aCons (lcD (itD (vr 1)) (gT (gsCons (gN 2) (gsCons (gN 3) gsNil))) yesD e_Book___init___1 [2, 3]) aNil)))
noncomputable def d_Book___init__ : Den := runD 4 b_Book___init__
theorem bd_Book___init__ {P : Program} {wd : World} {K : PySem.W.Frag} {mg : Str → Option Value} {base : Heap} (T : Fx K mg) (C_reduced : Cal P wd K mg base 3 "reduced" 1 d_reduced) {f : Addr} {A : Around} {outer : List Env} {s : Shared} {H : Hp} {E : XK} {cdv : Value} (hr : Room 3 (A.deeper (PyProof.Rows.envOfC "Book.__init__" (defScope s_Book___init__) s.heap.objs.size f cdv))) : DSs (cxOf (L2N.CX P wd) P wd K mg base N_Book___init__ "Book.__init__" (defScope s_Book___init__) f cdv A outer s H E) (WEx E) (defBody s_Book___init__) b_Book___init__ :=
  have sc := sc_Book___init__
  (dss_one (ds_fld (i := 0) T.h_kept_rows (Cal.call C_reduced hr (by omega) (by rfl) (L2N.takes_of (by rfl) (by rfl) (by rfl) (by rfl)) (da_cons (DO.fz (do_lc (own := [("thing", 2), ("hearers", 3)]) (by rfl) sc.nd (di_seq (de_vr 1)) (blkOk_by (by rfl)) (by decide) (fun _ _ _ _ _ => (dg_tup (by rfl) (dgs_cons (dg_name (i := 2) sc.nd (by rfl) (by first | exact Or.inl (by rfl) | exact Or.inr (by rfl))) (dgs_cons (dg_name (i := 3) sc.nd (by rfl) (by first | exact Or.inl (by rfl) | exact Or.inr (by rfl))) dgs_nil)))) (fun _ _ _ _ _ => dts_nil) (fun _ _ _ _ _ => (de_tup (da_cons (de_vr 2) (da_cons (de_tuple (by rfl) T.n_tuple (DPv.v (dp_vw 3))) da_nil)))))) da_nil))))
abbrev s__law_inside : Stmt := top 24
abbrev N__law_inside : List Str := ["_law_lot", "_law_lots", "_law_other", "_law_one"]
theorem sc__law_inside : FnScope N__law_inside ["_law_lot", "_law_lots"] (defScope s__law_inside) := ⟨rfl, rfl, rfl, by decide +kernel, rfl, by decide +kernel, by decide +kernel⟩
noncomputable def e__law_inside_1 : DEx :=
  (lift2 (pInX false) (vr 3) (pureE (pvw 2)))
noncomputable def e__law_inside_2 : DEx :=
  (lift1 pAll (lcD (itD (vr 0)) (gN 3) yesD e__law_inside_1 [3]))
noncomputable def b__law_inside : DSx :=
  (retD (lift1 pAny (lcD (itD (vr 1)) (gN 2) yesD e__law_inside_2 [2])))
noncomputable def d__law_inside : Den := runD 4 b__law_inside
theorem bd__law_inside {P : Program} {wd : World} {K : PySem.W.Frag} {mg : Str → Option Value} {base : Heap} (T : Fx K mg)  {f : Addr} {A : Around} {outer : List Env} {s : Shared} {H : Hp} {E : XK} {cdv : Value} (hr : Room 0 (A.deeper (PyProof.Rows.envOfC "_law_inside" (defScope s__law_inside) s.heap.objs.size f cdv))) : DSs (cxOf (L2N.CX P wd) P wd K mg base N__law_inside "_law_inside" (defScope s__law_inside) f cdv A outer s H E) (WEx E) (defBody s__law_inside) b__law_inside :=
  have sc := sc__law_inside
  (dss_one (ds_ret (de_b1 (cr_any (by rfl)) ansC_any (by rfl) T.n_any b_any (DE.v (DO.fz (do_lc (own := [("_law_other", 2)]) (by rfl) sc.nd (di_seq (de_vr 1)) (blkOk_by (by rfl)) (by decide) (fun _ _ _ _ _ => (dg_name (i := 2) sc.nd (by rfl) (by first | exact Or.inl (by rfl) | exact Or.inr (by rfl)))) (fun _ _ _ _ _ => dts_nil) (fun _ _ _ _ _ => (de_b1 (cr_all (by rfl)) ansC_all (by rfl) T.n_all b_all (DE.v (DO.fz (do_lc (own := [("_law_one", 3)]) (by rfl) sc.nd (di_seq (de_vr 0)) (blkOk_by (by rfl)) (by decide) (fun _ _ _ _ _ => (dg_name (i := 3) sc.nd (by rfl) (by first | exact Or.inl (by rfl) | exact Or.inr (by rfl)))) (fun _ _ _ _ _ => dts_nil) (fun _ _ _ _ _ => (de_cmp (op_inA hr.u65) (ans_in false) (by rfl) (de_vr 3) (DPv.v (dp_vw 2)))))))))))))))
abbrev s__law_needless : Stmt := top 19
abbrev N__law_needless : List Str := ["_law_rows", "_law_at", "_law_thing", "_law_lot", "_law_first", "_law_last", "_law_others", "_law_own", "_law_later", "_law_spot"]
theorem sc__law_needless : FnScope N__law_needless ["_law_rows"] (defScope s__law_needless) := ⟨rfl, rfl, rfl, by decide +kernel, rfl, by decide +kernel, by decide +kernel⟩
noncomputable def e__law_needless_1 : DEx :=
  (pureE (plift2 pIx (plift2 pIx (pvw 0) (pvr 9)) (pcst (.int 1))))
noncomputable def t__law_needless_2 : DEx :=
  (lift2 pNe (vr 9) (pureE (pvw 1)))
noncomputable def w__law_needless_3 : DEx :=
  (andD (lift2 pLtX (lift2 addK (vr 5) (cst (.int 1))) (lift1 pLen (pureE (pvw 0)))) (lift2 pEq (pureE (plift2 pIx (plift2 pIx (pvw 0) (plift2 (iop0 (· + ·)) (pvr 5) (pcst (.int 1)))) (pcst (.int 0)))) (pureE (pvw 2))))
noncomputable def f__law_needless_4 : DSx :=
  (setD (lift2 addK (vr 5) (cst (.int 1))) (gN 5))
noncomputable def w__law_needless_5 : DEx :=
  (andD (lift2 pGtX (vr 4) (cst (.int 0))) (lift2 pEq (pureE (plift2 pIx (plift2 pIx (pvw 0) (plift2 pSub (pvr 4) (pcst (.int 1)))) (pcst (.int 0)))) (pureE (pvw 2))))
noncomputable def f__law_needless_6 : DSx :=
  (setD (lift2 pSub (vr 4) (cst (.int 1))) (gN 4))
noncomputable def f__law_needless_7 : DSx :=
  (seqD (ifD (orD (lift2 pEq (vr 3) aNil) (callD d__law_inside (aCons (vr 3) (aCons (lcD (itD (slX kSl (vr 0) (bdS (lift2 addK (vr 1) (cst (.int 1)))) bdN)) (gT (gsCons (gN 7) (gsCons (gN 8) gsNil))) yesD (vr 8) [7, 8]) aNil))))
    (retD (vr 1))
    nxD)
  (seqD (par2D 4 5 (aCons (vr 1) (aCons (vr 1) aNil)))
  (seqD (whileD w__law_needless_5
    f__law_needless_6)
  (seqD (whileD w__law_needless_3
    f__law_needless_4)
  (seqD (setD (lcD (rng2 (aCons (vr 4) (aCons (lift2 addK (vr 5) (cst (.int 1))) aNil))) (gN 9) t__law_needless_2 e__law_needless_1 [9]) (gN 6))
  (ifD (orD (andD (lift2 pEq (vr 4) (cst (.int 0))) (lift2 (pIs false) (vr 2) (cst .non))) (callD d__law_inside (aCons (vr 3) (aCons (vr 6) aNil))))
    (retD (vr 1))
    nxD))))))
noncomputable def b__law_needless : DSx :=
  (seqD (forE (enumD (aCons (vr 0) aNil)) (gT (gsCons (gN 1) (gsCons (gT (gsCons (gN 2) (gsCons (gN 3) gsNil))) gsNil)))
    f__law_needless_7)
  (retD (cst .non)))
noncomputable def d__law_needless : Den := runD 10 b__law_needless
theorem bd__law_needless {P : Program} {wd : World} {K : PySem.W.Frag} {mg : Str → Option Value} {base : Heap} (T : Fx K mg) (C__law_inside : Cal P wd K mg base 1 "_law_inside" 2 d__law_inside) {f : Addr} {A : Around} {outer : List Env} {s : Shared} {H : Hp} {E : XK} {cdv : Value} (hr : Room 1 (A.deeper (PyProof.Rows.envOfC "_law_needless" (defScope s__law_needless) s.heap.objs.size f cdv))) : DSs (cxOf (L2N.CX P wd) P wd K mg base N__law_needless "_law_needless" (defScope s__law_needless) f cdv A outer s H E) (WEx E) (defBody s__law_needless) b__law_needless :=
  have sc := sc__law_needless
  (dss_cons (ds_for (passes_of (by rfl)) (by rfl) (di_enum (by rfl) T.n_enumerate (da_cons (de_vr 0) da_nil)) (dg_tup (by rfl) (dgs_cons (dg_name (i := 1) sc.nd (by rfl) (Or.inr (by rfl))) (dgs_cons (dg_tup (by rfl) (dgs_cons (dg_name (i := 2) sc.nd (by rfl) (Or.inl (by rfl))) (dgs_cons (dg_name (i := 3) sc.nd (by rfl) (Or.inl (by rfl))) dgs_nil))) dgs_nil)))
    (dss_cons (ds_if (DW.t (dw_or (dt_cmp (op_eqD hr.units) ans_eq (nomark _) (de_vr 3) (DE.v (de_tup da_nil))) (dw_or1 (dt_val (Cal.call C__law_inside hr (by omega) (by rfl) (L2N.takes_of (by rfl) (by rfl) (by rfl) (by rfl)) (da_cons (de_vr 3) (da_cons (DO.fz (do_lc (own := [("_law_own", 7), ("_law_later", 8)]) (by rfl) sc.nd (di_seq (de_slice (de_vr 0) (db_some (de_addX (de_vr 1) de_int)) db_none)) (blkOk_by (by rfl)) (by decide) (fun _ _ _ _ _ => (dg_tup (by rfl) (dgs_cons (dg_name (i := 7) sc.nd (by rfl) (by first | exact Or.inl (by rfl) | exact Or.inr (by rfl))) (dgs_cons (dg_name (i := 8) sc.nd (by rfl) (by first | exact Or.inl (by rfl) | exact Or.inr (by rfl))) dgs_nil)))) (fun _ _ _ _ _ => dts_nil) (fun _ _ _ _ _ => (de_vr 8)))) da_nil)))))))
    (dss_one (ds_ret (de_vr 1)))
    dss_nil)
  (dss_cons (ds_par (i := 4) (j := 5) (by rfl) sc.nd (by rfl) (by rfl) (by decide) (by rfl) (by rfl) (DAn.da (da_cons (de_vr 1) (da_cons (de_vr 1) da_nil))) (by rfl))
  (dss_cons (ds_while (passes_of (by rfl)) (DW.t (dw_and (dt_cmp (op_gtA hr.units) ans_gtX (nomark _) (de_vr 4) (DE.v de_int)) (dw_and1 (dt_cmp (op_eqD hr.units) ans_eq (nomark _) (DP.e (dp_ix (DP.pv (dp_ix (dp_vw 0) (dp_sub (dp_vr 4) dp_int) (fun _ _ => (by rfl)))) dp_int (fun _ _ => (by rfl)))) (DPv.v (dp_vw 2))))))
    (dss_one (ds_set (i := 4) sc.nd (by rfl) (Or.inl (by rfl)) (de_sub (de_vr 4) de_int))))
  (dss_cons (ds_while (passes_of (by rfl)) (DW.t (dw_and (dt_cmp (op_ltA hr.units) ans_ltX (nomark _) (de_addX (de_vr 5) de_int) (DE.v (de_b1 call_len ansC_len (by rfl) T.n_len b_len (DPv.v (dp_vw 0))))) (dw_and1 (dt_cmp (op_eqD hr.units) ans_eq (nomark _) (DP.e (dp_ix (DP.pv (dp_ix (dp_vw 0) (dp_add (dp_vr 5) dp_int) (fun _ _ => (by rfl)))) dp_int (fun _ _ => (by rfl)))) (DPv.v (dp_vw 2))))))
    (dss_one (ds_set (i := 5) sc.nd (by rfl) (Or.inl (by rfl)) (de_addX (de_vr 5) de_int))))
  (dss_cons (ds_lcF (ps_lc (i := 6) (own := [("_law_spot", 9)]) (by rfl) sc.nd (by rfl) (by rfl) (sw_true (by rfl) (by rfl) (by rfl) (by decide +kernel)) (di_range2 (by rfl) T.n_range (da_cons (de_vr 4) (da_cons (de_addX (de_vr 5) de_int) da_nil))) (blkOk_by (by rfl)) (by decide) (fun _ _ _ _ _ => (dg_name (i := 9) sc.nd (by rfl) (by first | exact Or.inl (by rfl) | exact Or.inr (by rfl)))) (fun _ _ _ _ _ => (dts_one (dt_cmp (op_neD hr.units) ans_ne (nomark _) (de_vr 9) (DPv.v (dp_vw 1))))) (fun _ _ _ _ _ => (DP.e (dp_ix (DP.pv (dp_ix (dp_vw 0) (dp_vr 9) (fun _ _ => (by rfl)))) dp_int (fun _ _ => (by rfl)))))))
  (dss_one (ds_if (DW.t (dw_or (DW.t (dw_and (dt_cmp (op_eqD hr.units) ans_eq (nomark _) (de_vr 4) (DE.v de_int)) (dw_and1 (dt_cmp op_isN ans_isN (nomark _) (de_vr 2) (DE.v de_non))))) (dw_or1 (dt_val (Cal.call C__law_inside hr (by omega) (by rfl) (L2N.takes_of (by rfl) (by rfl) (by rfl) (by rfl)) (da_cons (de_vr 3) (da_cons (de_vr 6) da_nil)))))))
    (dss_one (ds_ret (de_vr 1)))
    dss_nil))))))))
  (dss_one (ds_ret de_non)))
abbrev s__law_is_behind : Stmt := top 21
abbrev N__law_is_behind : List Str := ["_law_row", "_law_thing", "_law_lot"]
theorem sc__law_is_behind : FnScope N__law_is_behind ["_law_row", "_law_thing", "_law_lot"] (defScope s__law_is_behind) := ⟨rfl, rfl, rfl, by decide +kernel, rfl, by decide +kernel, by decide +kernel⟩
noncomputable def b__law_is_behind : DSx :=
  (retD (andD (lift2 pEq (pureE (plift2 pIx (pvw 0) (pcst (.int 0)))) (pureE (pvw 1))) (lift2 pGtX (pureE (plift2 pIx (pvw 0) (pcst (.int 1)))) (pureE (pvw 2)))))
noncomputable def d__law_is_behind : Den := runD 3 b__law_is_behind
theorem bd__law_is_behind {P : Program} {wd : World} {K : PySem.W.Frag} {mg : Str → Option Value} {base : Heap} (T : Fx K mg)  {f : Addr} {A : Around} {outer : List Env} {s : Shared} {H : Hp} {E : XK} {cdv : Value} (hr : Room 0 (A.deeper (PyProof.Rows.envOfC "_law_is_behind" (defScope s__law_is_behind) s.heap.objs.size f cdv))) : DSs (cxOf (L2N.CX P wd) P wd K mg base N__law_is_behind "_law_is_behind" (defScope s__law_is_behind) f cdv A outer s H E) (WEx E) (defBody s__law_is_behind) b__law_is_behind :=
  have sc := sc__law_is_behind
  (dss_one (ds_ret (de_and (de_cmp (op_eqD hr.units) ans_eq (nomark _) (DP.e (dp_ix (dp_vw 0) dp_int (fun _ _ => (by rfl)))) (DPv.v (dp_vw 1))) (de_one (de_cmp (op_gtA hr.units) ans_gtX (nomark _) (DP.e (dp_ix (dp_vw 0) dp_int (fun _ _ => (by rfl)))) (DPv.v (dp_vw 2)))))))
abbrev s__law_reduced : Stmt := top 20
abbrev N__law_reduced : List Str := ["_law_rows", "_law_left", "_law_at", "_law_found", "_law_thing", "_law_lot", "_law_place"]
theorem sc__law_reduced : FnScope N__law_reduced ["_law_rows"] (defScope s__law_reduced) := ⟨rfl, rfl, rfl, by decide +kernel, rfl, by decide +kernel, by decide +kernel⟩
noncomputable def w__law_reduced_1 : DEx :=
  (andD (lift2 pGtX (vr 6) (cst (.int 0))) (callD d__law_is_behind (aCons (pureE (plift2 pIx (pvw 3) (plift2 pSub (pvr 6) (pcst (.int 1))))) (aCons (vr 4) (aCons (vr 5) aNil)))))
noncomputable def f__law_reduced_2 : DSx :=
  (setD (lift2 pSub (vr 6) (cst (.int 1))) (gN 6))
noncomputable def f__law_reduced_3 : DSx :=
  (seqD (setD (lift1 pLen (pureE (pvw 3))) (gN 6))
  (seqD (whileD w__law_reduced_1
    f__law_reduced_2)
  (exprD (mutD 3 kIns (aCons (vr 6) (aCons (aCons (vr 4) (aCons (vr 5) aNil)) aNil))))))
noncomputable def w__law_reduced_4 : DEx :=
  (lift2 (pIs true) (vr 2) (cst .non))
noncomputable def f__law_reduced_5 : DSx :=
  (seqD (exprD (mutD 1 kPopAt (aCons (vr 2) aNil)))
  (setD (callD d__law_needless (aCons (vr 1) aNil)) (gN 2)))
noncomputable def b__law_reduced : DSx :=
  (seqD (setCD (listD (pureE (pvw 0))) 1)
  (seqD (setD (callD d__law_needless (aCons (vr 1) aNil)) (gN 2))
  (seqD (whileD w__law_reduced_4
    f__law_reduced_5)
  (seqD (setOD (lstD aNil) 3)
  (seqD (forE (itD (vr 1)) (gT (gsCons (gN 4) (gsCons (gN 5) gsNil)))
    f__law_reduced_3)
  (retD (frzE 3)))))))
noncomputable def d__law_reduced : Den := runD 7 b__law_reduced
theorem bd__law_reduced {P : Program} {wd : World} {K : PySem.W.Frag} {mg : Str → Option Value} {base : Heap} (T : Fx K mg) (C__law_is_behind : Cal P wd K mg base 1 "_law_is_behind" 3 d__law_is_behind) (C__law_needless : Cal P wd K mg base 2 "_law_needless" 1 d__law_needless) {f : Addr} {A : Around} {outer : List Env} {s : Shared} {H : Hp} {E : XK} {cdv : Value} (hr : Room 2 (A.deeper (PyProof.Rows.envOfC "_law_reduced" (defScope s__law_reduced) s.heap.objs.size f cdv))) : DSs (cxOf (L2N.CX P wd) P wd K mg base N__law_reduced "_law_reduced" (defScope s__law_reduced) f cdv A outer s H E) (WEx E) (defBody s__law_reduced) b__law_reduced :=
  have sc := sc__law_reduced
  (dss_cons (ds_setC (i := 1) sc.nd (by rfl) (Or.inl (by rfl)) (do_list (by rfl) T.n_list (DPv.v (dp_vw 0))))
  (dss_cons (ds_set (i := 2) sc.nd (by rfl) (Or.inl (by rfl)) (Cal.call C__law_needless hr (by omega) (by rfl) (L2N.takes_of (by rfl) (by rfl) (by rfl) (by rfl)) (da_cons (de_vr 1) da_nil)))
  (dss_cons (ds_while (passes_of (by rfl)) (dt_cmp op_notN ans_notN (nomark _) (de_vr 2) (DE.v de_non))
    (dss_cons (ds_expr (de_mut (i := 1) PySem.F.slot_list_pop PySem.F.type_list_pop mt_popAt ansM_popAt (da_cons (de_vr 2) da_nil)))
  (dss_one (ds_set (i := 2) sc.nd (by rfl) (Or.inl (by rfl)) (Cal.call C__law_needless hr (by omega) (by rfl) (L2N.takes_of (by rfl) (by rfl) (by rfl) (by rfl)) (da_cons (de_vr 1) da_nil))))))
  (dss_cons (ds_setO (i := 3) sc.nd (by rfl) (Or.inl (by rfl)) (do_lst da_nil))
  (dss_cons (ds_for (passes_of (by rfl)) (by rfl) (di_seq (de_vr 1)) (dg_tup (by rfl) (dgs_cons (dg_name (i := 4) sc.nd (by rfl) (Or.inl (by rfl))) (dgs_cons (dg_name (i := 5) sc.nd (by rfl) (Or.inl (by rfl))) dgs_nil)))
    (dss_cons (ds_set (i := 6) sc.nd (by rfl) (Or.inl (by rfl)) (de_b1 call_len ansC_len (by rfl) T.n_len b_len (DPv.v (dp_vw 3))))
  (dss_cons (ds_while (passes_of (by rfl)) (DW.t (dw_and (dt_cmp (op_gtA hr.units) ans_gtX (nomark _) (de_vr 6) (DE.v de_int)) (dw_and1 (dt_val (Cal.call C__law_is_behind hr (by omega) (by rfl) (L2N.takes_of (by rfl) (by rfl) (by rfl) (by rfl)) (da_cons (DP.e (dp_ix (dp_vw 3) (dp_sub (dp_vr 6) dp_int) (fun _ _ => (by rfl)))) (da_cons (de_vr 4) (da_cons (de_vr 5) da_nil))))))))
    (dss_one (ds_set (i := 6) sc.nd (by rfl) (Or.inl (by rfl)) (de_sub (de_vr 6) de_int))))
  (dss_one (ds_expr (de_mut (i := 3) PySem.F.slot_list_insert PySem.F.type_list_insert mt_insert ansM_ins (da_cons (de_vr 6) (da_cons (de_tup (da_cons (de_vr 4) (da_cons (de_vr 5) da_nil))) da_nil))))))))
  (dss_one (ds_ret (de_frz 3))))))))
abbrev s__law_same : Stmt := top 15
abbrev N__law_same : List Str := ["_law_found", "_law_due", "_law_one", "_law_other"]
theorem sc__law_same : FnScope N__law_same ["_law_found", "_law_due"] (defScope s__law_same) := ⟨rfl, rfl, rfl, by decide +kernel, rfl, by decide +kernel, by decide +kernel⟩
noncomputable def e__law_same_1 (dn : Den) : DEx :=
  (callD dn (aCons (vr 2) (aCons (vr 3) aNil)))
noncomputable def b__law_same (dn : Den) : DSx :=
  (seqD (ifD (lift1 (pIsiT ["list", "tuple"]) (pureE (pvw 1)))
    (seqD (ifD (orD (lift2 pNe (lift1 (pIsi "list") (pureE (pvw 0))) (lift1 (pIsi "list") (pureE (pvw 1)))) (lift2 pNe (lift1 (pIsi "tuple") (pureE (pvw 0))) (lift1 (pIsi "tuple") (pureE (pvw 1)))))
    (retD (cst (.bl false)))
    nxD)
  (retD (andD (lift2 pEq (lift1 pLen (pureE (pvw 0))) (lift1 pLen (pureE (pvw 1)))) (lift1 pAll (lcD (zipRD (aCons (vr 0) (aCons (vr 1) aNil))) (gT (gsCons (gN 2) (gsCons (gN 3) gsNil))) yesD (e__law_same_1 dn) [2, 3])))))
    nxD)
  (seqD (ifD (lift2 pNe (lift1 (pIsi "bool") (pureE (pvw 0))) (lift1 (pIsi "bool") (pureE (pvw 1))))
    (retD (cst (.bl false)))
    nxD)
  (retD (lift2 pEq (vr 0) (pureE (pvw 1))))))
noncomputable def d__law_same : Nat → Den
  | 0 => fun _ _ => .bad
  | n + 1 => runD 4 (b__law_same (d__law_same n))
theorem bd__law_same {P : Program} {wd : World} {K : PySem.W.Frag} {mg : Str → Option Value} {base : Heap} (T : Fx K mg)  {n : Nat} (C__law_same : Cal P wd K mg base (0 + n) "_law_same" 2 (d__law_same n)) {f : Addr} {A : Around} {outer : List Env} {s : Shared} {H : Hp} {E : XK} {cdv : Value} (hr : Room (0 + n) (A.deeper (PyProof.Rows.envOfC "_law_same" (defScope s__law_same) s.heap.objs.size f cdv))) : DSs (cxOf (L2N.CX P wd) P wd K mg base N__law_same "_law_same" (defScope s__law_same) f cdv A outer s H E) (WEx E) (defBody s__law_same) (b__law_same (d__law_same n)) :=
  have sc := sc__law_same
  (dss_cons (ds_if (dt_val (de_isiTV (by rfl) T.n_isinstance (tys_cons (by rfl) T.n_list b_list (tys_cons (by rfl) T.n_tuple b_tuple tys_nil)) (DPv.v (dp_vw 1))))
    (dss_cons (ds_if (DW.t (dw_or (dt_cmp (op_neD hr.units) ans_ne (nomark _) (de_isi (by rfl) T.n_isinstance (by rfl) T.n_list b_list (DPv.v (dp_vw 0))) (DE.v (de_isi (by rfl) T.n_isinstance (by rfl) T.n_list b_list (DPv.v (dp_vw 1))))) (dw_or1 (dt_cmp (op_neD hr.units) ans_ne (nomark _) (de_isi (by rfl) T.n_isinstance (by rfl) T.n_tuple b_tuple (DPv.v (dp_vw 0))) (DE.v (de_isi (by rfl) T.n_isinstance (by rfl) T.n_tuple b_tuple (DPv.v (dp_vw 1))))))))
    (dss_one (ds_ret de_bl))
    dss_nil)
  (dss_one (ds_ret (de_and (de_cmp (op_eqD hr.units) ans_eq (nomark _) (de_b1 call_len ansC_len (by rfl) T.n_len b_len (DPv.v (dp_vw 0))) (DE.v (de_b1 call_len ansC_len (by rfl) T.n_len b_len (DPv.v (dp_vw 1))))) (de_one (de_b1 (cr_all (by rfl)) ansC_all (by rfl) T.n_all b_all (DE.v (DO.fz (do_lc (own := [("_law_one", 2), ("_law_other", 3)]) (by rfl) sc.nd (di_zipR (by rfl) T.n_zip (da_cons (de_vr 0) (da_cons (de_vr 1) da_nil))) (blkOk_by (by rfl)) (by decide) (fun _ _ _ _ _ => (dg_tup (by rfl) (dgs_cons (dg_name (i := 2) sc.nd (by rfl) (by first | exact Or.inl (by rfl) | exact Or.inr (by rfl))) (dgs_cons (dg_name (i := 3) sc.nd (by rfl) (by first | exact Or.inl (by rfl) | exact Or.inr (by rfl))) dgs_nil)))) (fun _ _ _ _ _ => dts_nil) (fun _ _ _ _ _ => (Cal.call C__law_same hr (by omega) (by rfl) takesF (da_cons (de_vr 2) (da_cons (de_vr 3) da_nil)))))))))))))
    dss_nil)
  (dss_cons (ds_if (dt_cmp (op_neD hr.units) ans_ne (nomark _) (de_isi (by rfl) T.n_isinstance (by rfl) T.n_bool b_bool (DPv.v (dp_vw 0))) (DE.v (de_isi (by rfl) T.n_isinstance (by rfl) T.n_bool b_bool (DPv.v (dp_vw 1)))))
    (dss_one (ds_ret de_bl))
    dss_nil)
  (dss_one (ds_ret (de_cmp (op_eqD hr.units) ans_eq (nomark _) (de_vr 0) (DPv.v (dp_vw 1)))))))
abbrev s_Book_runs : Stmt := inClass (top 11) 6
abbrev N_Book_runs : List Str := ["self"]
theorem sc_Book_runs : FnScope N_Book_runs ["self"] (defScope s_Book_runs) := ⟨rfl, rfl, rfl, by decide +kernel, rfl, by decide +kernel, by decide +kernel⟩
noncomputable def b_Book_runs : DSx :=
  (retD (callD d_runs_of (aCons (fldD ["Book"] "kept_rows" (vr 0)) aNil)))
noncomputable def d_Book_runs : Den := runD 1 b_Book_runs
theorem bd_Book_runs {P : Program} {wd : World} {K : PySem.W.Frag} {mg : Str → Option Value} {base : Heap} (T : Fx K mg) (C_runs_of : Cal P wd K mg base 1 "runs_of" 1 d_runs_of) {f : Addr} {A : Around} {outer : List Env} {s : Shared} {H : Hp} {E : XK} {cdv : Value} (hr : Room 1 (A.deeper (PyProof.Rows.envOfC "Book.runs" (defScope s_Book_runs) s.heap.objs.size f cdv))) : DSs (cxOf (L2N.CX P wd) P wd K mg base N_Book_runs "Book.runs" (defScope s_Book_runs) f cdv A outer s H E) (WEx E) (defBody s_Book_runs) b_Book_runs :=
  have sc := sc_Book_runs
  (dss_one (ds_ret (Cal.call C_runs_of hr (by omega) (by rfl) (L2N.takes_of (by rfl) (by rfl) (by rfl) (by rfl)) (da_cons (de_fld T.h_kept_rows (de_vr 0)) da_nil))))
abbrev s__law_runs : Stmt := top 22
abbrev N__law_runs : List Str := ["_law_rows", "_law_found", "_law_thing", "_law_lot"]
theorem sc__law_runs : FnScope N__law_runs ["_law_rows"] (defScope s__law_runs) := ⟨rfl, rfl, rfl, by decide +kernel, rfl, by decide +kernel, by decide +kernel⟩
noncomputable def f__law_runs_1 : DSx :=
  (ifD (andD (nilP true (pvw 1)) (lift2 pEq (pureE (plift2 pIx (plift2 pIx (pvw 1) (plift1 pNeg (pcst (.int 1)))) (pcst (.int 0)))) (pureE (pvw 2))))
    (exprD (mutED kApp (pureE (plift2 pIx (plift2 pIx (pvw 1) (plift1 pNeg (pcst (.int 1)))) (pcst (.int 1)))) (aCons (vr 3) aNil)))
    (exprD (mutD 1 kApp (aCons (aCons (vr 2) (aCons (cellE (lstD (aCons (vr 3) aNil))) aNil)) aNil))))
noncomputable def b__law_runs : DSx :=
  (seqD (setOD (lstD aNil) 1)
  (seqD (forE (itD (vr 0)) (gT (gsCons (gN 2) (gsCons (gN 3) gsNil)))
    f__law_runs_1)
  (retD (fzE (frzE 1)))))
noncomputable def d__law_runs : Den := runD 4 b__law_runs
theorem bd__law_runs {P : Program} {wd : World} {K : PySem.W.Frag} {mg : Str → Option Value} {base : Heap} (T : Fx K mg)  {f : Addr} {A : Around} {outer : List Env} {s : Shared} {H : Hp} {E : XK} {cdv : Value} (hr : Room 0 (A.deeper (PyProof.Rows.envOfC "_law_runs" (defScope s__law_runs) s.heap.objs.size f cdv))) : DSs (cxOf (L2N.CX P wd) P wd K mg base N__law_runs "_law_runs" (defScope s__law_runs) f cdv A outer s H E) (WEx E) (defBody s__law_runs) b__law_runs :=
  have sc := sc__law_runs
  (dss_cons (ds_setO (i := 1) sc.nd (by rfl) (Or.inl (by rfl)) (do_lst da_nil))
  (dss_cons (ds_for (passes_of (by rfl)) (by rfl) (di_seq (de_vr 0)) (dg_tup (by rfl) (dgs_cons (dg_name (i := 2) sc.nd (by rfl) (Or.inl (by rfl))) (dgs_cons (dg_name (i := 3) sc.nd (by rfl) (Or.inl (by rfl))) dgs_nil)))
    (dss_one (ds_if (DW.t (dw_and (dt_neNil hr.units0 (dp_vw 1)) (dw_and1 (dt_cmp (op_eqD hr.units) ans_eq (nomark _) (DP.e (dp_ix (DP.pv (dp_ix (dp_vw 1) (dp_neg dp_int) (fun _ _ => (by rfl)))) dp_int (fun _ _ => (by rfl)))) (DPv.v (dp_vw 2))))))
    (dss_one (ds_expr (de_mutE PySem.F.slot_list_append PySem.F.type_list_append mt_append ansM_app (DP.e (dp_ix (DP.pv (dp_ix (dp_vw 1) (dp_neg dp_int) (fun _ _ => (by rfl)))) dp_int (fun _ _ => (by rfl)))) (da_cons (de_vr 3) da_nil))))
    (dss_one (ds_expr (de_mut (i := 1) PySem.F.slot_list_append PySem.F.type_list_append mt_append ansM_app (da_cons (de_tup (da_cons (de_vr 2) (da_cons (DO.cell (do_lst (da_cons (de_vr 3) da_nil))) da_nil))) da_nil)))))))
  (dss_one (ds_ret (DE.fzE (de_frz 1))))))
abbrev s_Book___len__ : Stmt := inClass (top 11) 2
abbrev N_Book___len__ : List Str := ["self"]
theorem sc_Book___len__ : FnScope N_Book___len__ ["self"] (defScope s_Book___len__) := ⟨rfl, rfl, rfl, by decide +kernel, rfl, by decide +kernel, by decide +kernel⟩
noncomputable def b_Book___len__ : DSx :=
  (retD (lift1 pLen (fldD ["Book"] "kept_rows" (vr 0))))
noncomputable def d_Book___len__ : Den := runD 1 b_Book___len__
theorem bd_Book___len__ {P : Program} {wd : World} {K : PySem.W.Frag} {mg : Str → Option Value} {base : Heap} (T : Fx K mg)  {f : Addr} {A : Around} {outer : List Env} {s : Shared} {H : Hp} {E : XK} {cdv : Value} (hr : Room 0 (A.deeper (PyProof.Rows.envOfC "Book.__len__" (defScope s_Book___len__) s.heap.objs.size f cdv))) : DSs (cxOf (L2N.CX P wd) P wd K mg base N_Book___len__ "Book.__len__" (defScope s_Book___len__) f cdv A outer s H E) (WEx E) (defBody s_Book___len__) b_Book___len__ :=
  have sc := sc_Book___len__
  (dss_one (ds_ret (de_b1 call_len ansC_len (by rfl) T.n_len b_len (DE.v (de_fld T.h_kept_rows (de_vr 0))))))
abbrev s__law_book_right : Stmt := top 23
abbrev N__law_book_right : List Str := ["_law_book", "_law_rows", "_law_due"]
theorem sc__law_book_right : FnScope N__law_book_right ["_law_book", "_law_rows"] (defScope s__law_book_right) := ⟨rfl, rfl, rfl, by decide +kernel, rfl, by decide +kernel, by decide +kernel⟩
noncomputable def b__law_book_right : DSx :=
  (seqD (setD (callD d__law_reduced (aCons (vr 1) aNil)) (gN 2))
  (seqD (ifD (orD (notD (callD (d__law_same 8) (aCons (methD "Book" "rows" d_Book_rows [] (vr 0) aNil) (aCons (vr 2) aNil)))) (notD (callD (d__law_same 8) (aCons (methD "Book" "runs" d_Book_runs [] (vr 0) aNil) (aCons (callD d__law_runs (aCons (vr 2) aNil)) aNil)))))
    (retD (cst (.bl false)))
    nxD)
  (retD (lift2 pEq (dun1D "Book" d_Book___len__ pNat (vr 0)) (lift1 pLen (pureE (pvw 2)))))))
noncomputable def d__law_book_right : Den := runD 3 b__law_book_right
theorem bd__law_book_right {P : Program} {wd : World} {K : PySem.W.Frag} {mg : Str → Option Value} {base : Heap} (T : Fx K mg) (C_Book___len__ : MCal P wd K mg base 1 "Book" "__len__" 1 d_Book___len__ []) (C_Book_rows : MCal P wd K mg base 1 "Book" "rows" 1 d_Book_rows []) (C__law_same : Cal P wd K mg base 8 "_law_same" 2 (d__law_same 8)) (C__law_runs : Cal P wd K mg base 1 "_law_runs" 1 d__law_runs) (C_Book_runs : MCal P wd K mg base 2 "Book" "runs" 1 d_Book_runs []) (C__law_reduced : Cal P wd K mg base 3 "_law_reduced" 1 d__law_reduced) {f : Addr} {A : Around} {outer : List Env} {s : Shared} {H : Hp} {E : XK} {cdv : Value} (hr : Room 8 (A.deeper (PyProof.Rows.envOfC "_law_book_right" (defScope s__law_book_right) s.heap.objs.size f cdv))) : DSs (cxOf (L2N.CX P wd) P wd K mg base N__law_book_right "_law_book_right" (defScope s__law_book_right) f cdv A outer s H E) (WEx E) (defBody s__law_book_right) b__law_book_right :=
  have sc := sc__law_book_right
  (dss_cons (ds_set (i := 2) sc.nd (by rfl) (Or.inl (by rfl)) (Cal.call C__law_reduced hr (by omega) (by rfl) (L2N.takes_of (by rfl) (by rfl) (by rfl) (by rfl)) (da_cons (de_vr 1) da_nil)))
  (dss_cons (ds_if (DW.t (dw_or (dt_not (dt_val (Cal.call C__law_same hr (by omega) (by rfl) (L2N.takes_of (by rfl) (by rfl) (by rfl) (by rfl)) (da_cons (MCal.call0 C_Book_rows hr (by omega) (L2N.takes_of (by rfl) (by rfl) (by rfl) (by rfl)) (de_vr 0)) (da_cons (de_vr 2) da_nil))))) (dw_or1 (dt_not (dt_val (Cal.call C__law_same hr (by omega) (by rfl) (L2N.takes_of (by rfl) (by rfl) (by rfl) (by rfl)) (da_cons (MCal.call0 C_Book_runs hr (by omega) (L2N.takes_of (by rfl) (by rfl) (by rfl) (by rfl)) (de_vr 0)) (da_cons (Cal.call C__law_runs hr (by omega) (by rfl) (L2N.takes_of (by rfl) (by rfl) (by rfl) (by rfl)) (da_cons (de_vr 2) da_nil)) da_nil))))))))
    (dss_one (ds_ret de_bl))
    dss_nil)
  (dss_one (ds_ret (de_cmp (op_eqD hr.units) ans_eq (nomark _) (de_lenI C_Book___len__ hr (by omega) (L2N.takes_of (by rfl) (by rfl) (by rfl) (by rfl)) (by rfl) T.n_len (de_vr 0)) (DE.v (de_b1 call_len ansC_len (by rfl) T.n_len b_len (DPv.v (dp_vw 2)))))))))
abbrev s_law : Stmt := top 25
abbrev N_law : List Str := ["_law_script", "_law_at", "_law_bag_here", "_law_names_here", "_law_members", "_law_lots", "_law_rows", "_law_spot", "_law_again", "_law_some_here", "_law_found", "_law_thing", "_law_lot"]
theorem sc_law : FnScope N_law ["_law_script"] (defScope s_law) := ⟨rfl, rfl, rfl, by decide +kernel, rfl, by decide +kernel, by decide +kernel⟩
noncomputable def f_law_1 : DSx :=
  (seqD (setD (methD "Book" "rows" d_Book_rows [] (fzE (makeD "Book" d_Book___init__ [] (aCons (vr 9) aNil))) aNil) (gN 10))
  (ifD (orD (notD (callD d__law_book_right (aCons (fzE (makeD "Book" d_Book___init__ [] (aCons (vr 9) aNil))) (aCons (vr 9) aNil)))) (lift2 pNe (lift1 pLen (pureE (pvw 10))) (lenSetUD (lcD (itD (vr 10)) (gT (gsCons (gN 11) (gsCons (gN 12) gsNil))) yesD (vr 12) [11, 12]))))
    (retD (cst (.bl false)))
    nxD))
noncomputable def f_law_2 : DSx :=
  (exprD (mutD 6 kApp (aCons (aCons (lift2 pIx (lift2 addK (slX kSl (vr 3) (bdS (cst (.int 8))) (bdS (cst (.int 10)))) (lstD (aCons (cst .non) aNil))) (callD d__law_take (aCons (vr 2) (aCons (cst (.int 3)) aNil)))) (aCons (lift2 pIx (vr 5) (callD d__law_take (aCons (vr 2) (aCons (lift1 pLen (pureE (pvw 5))) aNil)))) aNil)) aNil)))
noncomputable def e_law_3 : DEx :=
  (tupleD (sortD (callD d__law_some (aCons (vr 2) (aCons (vr 4) (aCons (cst (.int 4)) aNil))))))
noncomputable def f_law_4 : DSx :=
  (seqD (setD (callD d__law_bag (aCons (vr 0) (aCons (vr 1) aNil))) (gN 2))
  (seqD (setD (callD d__law_names (aCons (vr 2) (aCons (cst (.int 12)) aNil))) (gN 3))
  (seqD (setD (slX kSl (vr 3) bdN (bdS (lift2 addK (cst (.int 2)) (callD d__law_take (aCons (vr 2) (aCons (cst (.int 4)) aNil)))))) (gN 4))
  (seqD (setD (lcD (rng1 (aCons (lift2 addK (cst (.int 2)) (callD d__law_take (aCons (vr 2) (aCons (cst (.int 3)) aNil)))) aNil)) (gN 7) yesD e_law_3 [7]) (gN 5))
  (seqD (setOD (lstD aNil) 6)
  (seqD (forE (rng1 (aCons (lift2 addK (cst (.int 1)) (callD d__law_take (aCons (vr 2) (aCons (cst (.int 16)) aNil)))) aNil)) (gN 7)
    f_law_2)
  (seqD (setD (lift2 addK (frzE 6) (lstD (aCons (aCons (pureE (plift2 pIx (pvw 3) (pcst (.int 10)))) (aCons (lift2 pIx (lift2 pIx (frzE 6) (callD d__law_take (aCons (vr 2) (aCons (lift1 pLen (pureE (pvw 6))) aNil)))) (cst (.int 1))) aNil)) aNil))) (gN 8))
  (seqD (forE (itD (aCons (frzE 6) (aCons (vr 8) aNil))) (gN 9)
    f_law_1)
  (ifD (lift2 pNe (lift2 pIx (methD "Book" "runs" d_Book_runs [] (fzE (makeD "Book" d_Book___init__ [] (aCons (vr 8) aNil))) aNil) (lift1 pNeg (cst (.int 1)))) (aCons (pureE (plift2 pIx (pvw 3) (pcst (.int 10)))) (aCons (lstD (aCons (pureE (plift2 pIx (plift2 pIx (pvw 8) (plift1 pNeg (pcst (.int 1)))) (pcst (.int 1)))) aNil)) aNil)))
    (retD (cst (.bl false)))
    nxD)))))))))
noncomputable def b_law : DSx :=
  (seqD (forE (rng1 (aCons (lift2 pMax (cst (.int 1)) (lift2 pMin (cst (.int 6)) (lift1 pLen (pureE (pvw 0))))) aNil)) (gN 1)
    f_law_4)
  (retD (cst (.bl true))))
noncomputable def d_law : Den := runD 13 b_law
theorem bd_law {P : Program} {wd : World} {K : PySem.W.Frag} {mg : Str → Option Value} {base : Heap} (T : Fx K mg) (C_Book___init__ : KCal P wd K mg base 4 "Book" 2 d_Book___init__ []) (C_Book_runs : MCal P wd K mg base 2 "Book" "runs" 1 d_Book_runs []) (C__law_book_right : Cal P wd K mg base 9 "_law_book_right" 2 d__law_book_right) (C_Book_rows : MCal P wd K mg base 1 "Book" "rows" 1 d_Book_rows []) (C__law_take : Cal P wd K mg base 1 "_law_take" 2 d__law_take) (C__law_some : Cal P wd K mg base 2 "_law_some" 3 d__law_some) (C__law_names : Cal P wd K mg base 3 "_law_names" 2 d__law_names) (C__law_bag : Cal P wd K mg base 1 "_law_bag" 2 d__law_bag) {f : Addr} {A : Around} {outer : List Env} {s : Shared} {H : Hp} {E : XK} {cdv : Value} (hr : Room 9 (A.deeper (PyProof.Rows.envOfC "law" (defScope s_law) s.heap.objs.size f cdv))) : DSs (cxOf (L2N.CX P wd) P wd K mg base N_law "law" (defScope s_law) f cdv A outer s H E) (WEx E) (defBody s_law) b_law :=
  have sc := sc_law
  (dss_cons (ds_for (passes_of (by rfl)) (by rfl) (di_range1 (by rfl) T.n_range (da_cons (de_b2 (call_max2 (by rfl)) ansC_max (by rfl) T.n_max b_max de_int (DE.v (de_b2 (call_min2 (by rfl)) ansC_min (by rfl) T.n_min b_min de_int (DE.v (de_b1 call_len ansC_len (by rfl) T.n_len b_len (DPv.v (dp_vw 0))))))) da_nil)) (dg_name (i := 1) sc.nd (by rfl) (Or.inl (by rfl)))
    (dss_cons (ds_set (i := 2) sc.nd (by rfl) (Or.inr (by rfl)) (Cal.call C__law_bag hr (by omega) (by rfl) (L2N.takes_of (by rfl) (by rfl) (by rfl) (by rfl)) (da_cons (de_vr 0) (da_cons (de_vr 1) da_nil))))
  (dss_cons (ds_set (i := 3) sc.nd (by rfl) (Or.inl (by rfl)) (Cal.call C__law_names hr (by omega) (by rfl) (L2N.takes_of (by rfl) (by rfl) (by rfl) (by rfl)) (da_cons (de_vr 2) (da_cons de_int da_nil))))
  (dss_cons (ds_set (i := 4) sc.nd (by rfl) (Or.inr (by rfl)) (de_slice (de_vr 3) db_none (db_some (de_addX de_int (Cal.call C__law_take hr (by omega) (by rfl) (L2N.takes_of (by rfl) (by rfl) (by rfl) (by rfl)) (da_cons (de_vr 2) (da_cons de_int da_nil)))))))
  (dss_cons (ds_lcF (ps_lc (i := 5) (own := [("_law_spot", 7)]) (by rfl) sc.nd (by rfl) (by rfl) (sw_true (by rfl) (by rfl) (by rfl) (by decide +kernel)) (di_range1 (by rfl) T.n_range (da_cons (de_addX de_int (Cal.call C__law_take hr (by omega) (by rfl) (L2N.takes_of (by rfl) (by rfl) (by rfl) (by rfl)) (da_cons (de_vr 2) (da_cons de_int da_nil)))) da_nil)) (blkOk_by (by rfl)) (by decide) (fun _ _ _ _ _ => (dg_name (i := 7) sc.nd (by rfl) (by first | exact Or.inl (by rfl) | exact Or.inr (by rfl)))) (fun _ _ _ _ _ => dts_nil) (fun _ _ _ _ _ => (de_tuple (by rfl) T.n_tuple (DE.v (DO.fz (do_sorted hr.u80 (by rfl) T.n_sorted (DE.v (Cal.call C__law_some hr (by omega) (by rfl) takesF (da_cons (de_vr 2) (da_cons (de_vr 4) (da_cons de_int da_nil))))))))))))
  (dss_cons (ds_setO (i := 6) sc.nd (by rfl) (Or.inl (by rfl)) (do_lst da_nil))
  (dss_cons (ds_for (passes_of (by rfl)) (by rfl) (di_range1 (by rfl) T.n_range (da_cons (de_addX de_int (Cal.call C__law_take hr (by omega) (by rfl) (L2N.takes_of (by rfl) (by rfl) (by rfl) (by rfl)) (da_cons (de_vr 2) (da_cons de_int da_nil)))) da_nil)) (dg_name (i := 7) sc.nd (by rfl) (Or.inl (by rfl)))
    (dss_one (ds_expr (de_mut (i := 6) PySem.F.slot_list_append PySem.F.type_list_append mt_append ansM_app (da_cons (de_tup (da_cons (de_ix (de_addX (de_slice (de_vr 3) (db_some de_int) (db_some de_int)) (DO.fz (do_lst (da_cons de_non da_nil)))) (Cal.call C__law_take hr (by omega) (by rfl) (L2N.takes_of (by rfl) (by rfl) (by rfl) (by rfl)) (da_cons (de_vr 2) (da_cons de_int da_nil))) (fun _ _ => (by rfl))) (da_cons (de_ix (de_vr 5) (Cal.call C__law_take hr (by omega) (by rfl) (L2N.takes_of (by rfl) (by rfl) (by rfl) (by rfl)) (da_cons (de_vr 2) (da_cons (de_b1 call_len ansC_len (by rfl) T.n_len b_len (DPv.v (dp_vw 5))) da_nil))) (fun _ _ => (by rfl))) da_nil))) da_nil)))))
  (dss_cons (ds_set (i := 8) sc.nd (by rfl) (Or.inl (by rfl)) (de_addX (de_frz 6) (DO.fz (do_lst (da_cons (de_tup (da_cons (DP.e (dp_ix (dp_vw 3) dp_int (fun _ _ => (by rfl)))) (da_cons (de_ix (de_ix (de_frz 6) (Cal.call C__law_take hr (by omega) (by rfl) (L2N.takes_of (by rfl) (by rfl) (by rfl) (by rfl)) (da_cons (de_vr 2) (da_cons (de_b1 call_len ansC_len (by rfl) T.n_len b_len (DPv.v (dp_vw 6))) da_nil))) (fun _ _ => (by rfl))) de_int (fun _ _ => (by rfl))) da_nil))) da_nil)))))
  (dss_cons (ds_for (passes_of (by rfl)) (by rfl) (di_seq (de_tup (da_cons (de_frz 6) (da_cons (de_vr 8) da_nil)))) (dg_name (i := 9) sc.nd (by rfl) (Or.inl (by rfl)))
    (dss_cons (ds_set (i := 10) sc.nd (by rfl) (Or.inl (by rfl)) (MCal.call0 C_Book_rows hr (by omega) (L2N.takes_of (by rfl) (by rfl) (by rfl) (by rfl)) (DE.fzE (KCal.call C_Book___init__ hr (by omega) (by rfl) (L2N.takes_of (by rfl) (by rfl) (by rfl) (by rfl)) (da_cons (de_vr 9) da_nil)))))
  (dss_one (ds_if (DW.t (dw_or (dt_not (dt_val (Cal.call C__law_book_right hr (by omega) (by rfl) (L2N.takes_of (by rfl) (by rfl) (by rfl) (by rfl)) (da_cons (DE.fzE (KCal.call C_Book___init__ hr (by omega) (by rfl) (L2N.takes_of (by rfl) (by rfl) (by rfl) (by rfl)) (da_cons (de_vr 9) da_nil))) (da_cons (de_vr 9) da_nil))))) (dw_or1 (dt_cmp (op_neD hr.units) ans_ne (nomark _) (de_b1 call_len ansC_len (by rfl) T.n_len b_len (DPv.v (dp_vw 10))) (DE.v (de_lenSetU (by rfl) hr.u65 (by rfl) T.n_len (by rfl) T.n_set (DE.v (DO.fz (do_lc (own := [("_law_thing", 11), ("_law_lot", 12)]) (by rfl) sc.nd (di_seq (de_vr 10)) (blkOk_by (by rfl)) (by decide) (fun _ _ _ _ _ => (dg_tup (by rfl) (dgs_cons (dg_name (i := 11) sc.nd (by rfl) (by first | exact Or.inl (by rfl) | exact Or.inr (by rfl))) (dgs_cons (dg_name (i := 12) sc.nd (by rfl) (by first | exact Or.inl (by rfl) | exact Or.inr (by rfl))) dgs_nil)))) (fun _ _ _ _ _ => dts_nil) (fun _ _ _ _ _ => (de_vr 12)))))))))))
    (dss_one (ds_ret de_bl))
    dss_nil))))
  (dss_one (ds_if (dt_cmp (op_neD hr.units) ans_ne (nomark _) (de_ix (MCal.call0 C_Book_runs hr (by omega) (L2N.takes_of (by rfl) (by rfl) (by rfl) (by rfl)) (DE.fzE (KCal.call C_Book___init__ hr (by omega) (by rfl) (L2N.takes_of (by rfl) (by rfl) (by rfl) (by rfl)) (da_cons (de_vr 8) da_nil)))) (de_neg de_int) (fun _ _ => (by rfl))) (DE.v (de_tup (da_cons (DP.e (dp_ix (dp_vw 3) dp_int (fun _ _ => (by rfl)))) (da_cons (DO.fz (do_lst (da_cons (DP.e (dp_ix (DP.pv (dp_ix (dp_vw 8) (dp_neg dp_int) (fun _ _ => (by rfl)))) dp_int (fun _ _ => (by rfl)))) da_nil))) da_nil)))))
    (dss_one (ds_ret de_bl))
    dss_nil)))))))))))
  (dss_one (ds_ret de_bl)))
theorem ok__law_bag {P : Program} {wd : World} {K : PySem.W.Frag} {mg : Str → Option Value} {base : Heap} (T : Fx K mg) (Df : Dfn K mg "_law_bag" ["_law_script", "_law_at"] s__law_bag)  : Cal P wd K mg base 1 "_law_bag" 2 d__law_bag :=
  Cal.of (k := 0) Df sc__law_bag rfl rfl fun f cdv A outer s H E hr => bd__law_bag T  hr
theorem ok__law_take {P : Program} {wd : World} {K : PySem.W.Frag} {mg : Str → Option Value} {base : Heap} (T : Fx K mg) (Df : Dfn K mg "_law_take" ["_law_bag_here", "_law_many"] s__law_take)  : Cal P wd K mg base 1 "_law_take" 2 d__law_take :=
  Cal.of (k := 0) Df sc__law_take rfl rfl fun f cdv A outer s H E hr => bd__law_take T  hr
theorem ok__law_name {P : Program} {wd : World} {K : PySem.W.Frag} {mg : Str → Option Value} {base : Heap} (T : Fx K mg) (Df : Dfn K mg "_law_name" ["_law_bag_here"] s__law_name) (C__law_take : Cal P wd K mg base 1 "_law_take" 2 d__law_take) : Cal P wd K mg base 2 "_law_name" 1 d__law_name :=
  Cal.of (k := 1) Df sc__law_name rfl rfl fun f cdv A outer s H E hr => bd__law_name T C__law_take hr
theorem ok__law_names {P : Program} {wd : World} {K : PySem.W.Frag} {mg : Str → Option Value} {base : Heap} (T : Fx K mg) (Df : Dfn K mg "_law_names" ["_law_bag_here", "_law_many"] s__law_names) (C__law_name : Cal P wd K mg base 2 "_law_name" 1 d__law_name) : Cal P wd K mg base 3 "_law_names" 2 d__law_names :=
  Cal.of (k := 2) Df sc__law_names rfl rfl fun f cdv A outer s H E hr => bd__law_names T C__law_name hr
theorem ok__law_some {P : Program} {wd : World} {K : PySem.W.Frag} {mg : Str → Option Value} {base : Heap} (T : Fx K mg) (Df : Dfn K mg "_law_some" ["_law_bag_here", "_law_members", "_law_most"] s__law_some) (C__law_take : Cal P wd K mg base 1 "_law_take" 2 d__law_take) : Cal P wd K mg base 2 "_law_some" 3 d__law_some :=
  Cal.of (k := 1) Df sc__law_some rfl rfl fun f cdv A outer s H E hr => bd__law_some T C__law_take hr
theorem ok_Book_rows {P : Program} {wd : World} {K : PySem.W.Frag} {mg : Str → Option Value} {base : Heap} (T : Fx K mg) {dds : List D} (Df : Mfn K mg "Book" "rows" "Book.rows" ["self"] s_Book_rows dds)  : MCal P wd K mg base 1 "Book" "rows" 1 d_Book_rows dds :=
  MCal.of (k := 0) Df sc_Book_rows rfl rfl fun f cdv A outer s H E hr => bd_Book_rows T  hr
theorem ok_is_within {P : Program} {wd : World} {K : PySem.W.Frag} {mg : Str → Option Value} {base : Heap} (T : Fx K mg) (Df : Dfn K mg "is_within" ["one", "other"] s_is_within)  : Cal P wd K mg base 1 "is_within" 2 d_is_within :=
  Cal.of (k := 0) Df sc_is_within rfl rfl fun f cdv A outer s H E hr => bd_is_within T  hr
theorem ok_thinned {P : Program} {wd : World} {K : PySem.W.Frag} {mg : Str → Option Value} {base : Heap} (T : Fx K mg) (Df : Dfn K mg "thinned" ["lot"] s_thinned) (C_is_within : Cal P wd K mg base 1 "is_within" 2 d_is_within) : Cal P wd K mg base 2 "thinned" 1 d_thinned :=
  Cal.of (k := 1) Df sc_thinned rfl rfl fun f cdv A outer s H E hr => bd_thinned T C_is_within hr
theorem ok_runs_of {P : Program} {wd : World} {K : PySem.W.Frag} {mg : Str → Option Value} {base : Heap} (T : Fx K mg) (Df : Dfn K mg "runs_of" ["rows"] s_runs_of)  : Cal P wd K mg base 1 "runs_of" 1 d_runs_of :=
  Cal.of (k := 0) Df sc_runs_of rfl rfl fun f cdv A outer s H E hr => bd_runs_of T  hr
theorem ok_uncovered {P : Program} {wd : World} {K : PySem.W.Frag} {mg : Str → Option Value} {base : Heap} (T : Fx K mg) (Df : Dfn K mg "uncovered" ["rows"] s_uncovered) (C_is_within : Cal P wd K mg base 1 "is_within" 2 d_is_within) : Cal P wd K mg base 2 "uncovered" 1 d_uncovered :=
  Cal.of (k := 1) Df sc_uncovered rfl rfl fun f cdv A outer s H E hr => bd_uncovered T C_is_within hr
theorem ok_reduced {P : Program} {wd : World} {K : PySem.W.Frag} {mg : Str → Option Value} {base : Heap} (T : Fx K mg) (Df : Dfn K mg "reduced" ["rows"] s_reduced) (C_uncovered : Cal P wd K mg base 2 "uncovered" 1 d_uncovered) (C_runs_of : Cal P wd K mg base 1 "runs_of" 1 d_runs_of) (C_thinned : Cal P wd K mg base 2 "thinned" 1 d_thinned) : Cal P wd K mg base 3 "reduced" 1 d_reduced :=
  Cal.of (k := 2) Df sc_reduced rfl rfl fun f cdv A outer s H E hr => bd_reduced T C_uncovered C_runs_of C_thinned hr
theorem ok_Book___init__ {P : Program} {wd : World} {K : PySem.W.Frag} {mg : Str → Option Value} {base : Heap} (T : Fx K mg) {dds : List D} (Df : Kfn K mg "Book" "Book.__init__" ["self", "rows"] s_Book___init__ dds) (C_reduced : Cal P wd K mg base 3 "reduced" 1 d_reduced) : KCal P wd K mg base 4 "Book" 2 d_Book___init__ dds :=
  KCal.of (k := 3) Df sc_Book___init__ rfl rfl fun f cdv A outer s H E hr => bd_Book___init__ T C_reduced hr
theorem ok__law_inside {P : Program} {wd : World} {K : PySem.W.Frag} {mg : Str → Option Value} {base : Heap} (T : Fx K mg) (Df : Dfn K mg "_law_inside" ["_law_lot", "_law_lots"] s__law_inside)  : Cal P wd K mg base 1 "_law_inside" 2 d__law_inside :=
  Cal.of (k := 0) Df sc__law_inside rfl rfl fun f cdv A outer s H E hr => bd__law_inside T  hr
theorem ok__law_needless {P : Program} {wd : World} {K : PySem.W.Frag} {mg : Str → Option Value} {base : Heap} (T : Fx K mg) (Df : Dfn K mg "_law_needless" ["_law_rows"] s__law_needless) (C__law_inside : Cal P wd K mg base 1 "_law_inside" 2 d__law_inside) : Cal P wd K mg base 2 "_law_needless" 1 d__law_needless :=
  Cal.of (k := 1) Df sc__law_needless rfl rfl fun f cdv A outer s H E hr => bd__law_needless T C__law_inside hr
theorem ok__law_is_behind {P : Program} {wd : World} {K : PySem.W.Frag} {mg : Str → Option Value} {base : Heap} (T : Fx K mg) (Df : Dfn K mg "_law_is_behind" ["_law_row", "_law_thing", "_law_lot"] s__law_is_behind)  : Cal P wd K mg base 1 "_law_is_behind" 3 d__law_is_behind :=
  Cal.of (k := 0) Df sc__law_is_behind rfl rfl fun f cdv A outer s H E hr => bd__law_is_behind T  hr
theorem ok__law_reduced {P : Program} {wd : World} {K : PySem.W.Frag} {mg : Str → Option Value} {base : Heap} (T : Fx K mg) (Df : Dfn K mg "_law_reduced" ["_law_rows"] s__law_reduced) (C__law_is_behind : Cal P wd K mg base 1 "_law_is_behind" 3 d__law_is_behind) (C__law_needless : Cal P wd K mg base 2 "_law_needless" 1 d__law_needless) : Cal P wd K mg base 3 "_law_reduced" 1 d__law_reduced :=
  Cal.of (k := 2) Df sc__law_reduced rfl rfl fun f cdv A outer s H E hr => bd__law_reduced T C__law_is_behind C__law_needless hr
theorem ok__law_same {P : Program} {wd : World} {K : PySem.W.Frag} {mg : Str → Option Value} {base : Heap} (T : Fx K mg) (Df : Dfn K mg "_law_same" ["_law_found", "_law_due"] s__law_same)  : ∀ n : Nat, Cal P wd K mg base (0 + n) "_law_same" 2 (d__law_same n)
  | 0 => Cal.none Df rfl
  | n + 1 => Cal.of (k := 0 + n) Df sc__law_same rfl rfl fun f cdv A outer s H E hr => bd__law_same T  (ok__law_same T Df  n) hr
theorem ok_Book_runs {P : Program} {wd : World} {K : PySem.W.Frag} {mg : Str → Option Value} {base : Heap} (T : Fx K mg) {dds : List D} (Df : Mfn K mg "Book" "runs" "Book.runs" ["self"] s_Book_runs dds) (C_runs_of : Cal P wd K mg base 1 "runs_of" 1 d_runs_of) : MCal P wd K mg base 2 "Book" "runs" 1 d_Book_runs dds :=
  MCal.of (k := 1) Df sc_Book_runs rfl rfl fun f cdv A outer s H E hr => bd_Book_runs T C_runs_of hr
theorem ok__law_runs {P : Program} {wd : World} {K : PySem.W.Frag} {mg : Str → Option Value} {base : Heap} (T : Fx K mg) (Df : Dfn K mg "_law_runs" ["_law_rows"] s__law_runs)  : Cal P wd K mg base 1 "_law_runs" 1 d__law_runs :=
  Cal.of (k := 0) Df sc__law_runs rfl rfl fun f cdv A outer s H E hr => bd__law_runs T  hr
theorem ok_Book___len__ {P : Program} {wd : World} {K : PySem.W.Frag} {mg : Str → Option Value} {base : Heap} (T : Fx K mg) {dds : List D} (Df : Mfn K mg "Book" "__len__" "Book.__len__" ["self"] s_Book___len__ dds)  : MCal P wd K mg base 1 "Book" "__len__" 1 d_Book___len__ dds :=
  MCal.of (k := 0) Df sc_Book___len__ rfl rfl fun f cdv A outer s H E hr => bd_Book___len__ T  hr
theorem ok__law_book_right {P : Program} {wd : World} {K : PySem.W.Frag} {mg : Str → Option Value} {base : Heap} (T : Fx K mg) (Df : Dfn K mg "_law_book_right" ["_law_book", "_law_rows"] s__law_book_right) (C_Book___len__ : MCal P wd K mg base 1 "Book" "__len__" 1 d_Book___len__ []) (C_Book_rows : MCal P wd K mg base 1 "Book" "rows" 1 d_Book_rows []) (C__law_same : Cal P wd K mg base 8 "_law_same" 2 (d__law_same 8)) (C__law_runs : Cal P wd K mg base 1 "_law_runs" 1 d__law_runs) (C_Book_runs : MCal P wd K mg base 2 "Book" "runs" 1 d_Book_runs []) (C__law_reduced : Cal P wd K mg base 3 "_law_reduced" 1 d__law_reduced) : Cal P wd K mg base 9 "_law_book_right" 2 d__law_book_right :=
  Cal.of (k := 8) Df sc__law_book_right rfl rfl fun f cdv A outer s H E hr => bd__law_book_right T C_Book___len__ C_Book_rows C__law_same C__law_runs C_Book_runs C__law_reduced hr
theorem ok_law {P : Program} {wd : World} {K : PySem.W.Frag} {mg : Str → Option Value} {base : Heap} (T : Fx K mg) (C_Book___init__ : KCal P wd K mg base 4 "Book" 2 d_Book___init__ []) (C_Book_runs : MCal P wd K mg base 2 "Book" "runs" 1 d_Book_runs []) (C__law_book_right : Cal P wd K mg base 9 "_law_book_right" 2 d__law_book_right) (C_Book_rows : MCal P wd K mg base 1 "Book" "rows" 1 d_Book_rows []) (C__law_take : Cal P wd K mg base 1 "_law_take" 2 d__law_take) (C__law_some : Cal P wd K mg base 2 "_law_some" 3 d__law_some) (C__law_names : Cal P wd K mg base 3 "_law_names" 2 d__law_names) (C__law_bag : Cal P wd K mg base 1 "_law_bag" 2 d__law_bag) {f : Addr} {fd : FuncData} (hm : mg "law" = some (.ref f)) (F : Fun K "law" "law" s_law f fd) : FnG P wd K mg base (L2N.CX P wd) 10 f fd ["_law_script"] (spD K mg 1 d_law) :=
  FnG.of (fn_D (k := 9) (funV_of F) sc_law rfl fun cdv A outer s H E hr => bd_law T C_Book___init__ C_Book_runs C__law_book_right C_Book_rows C__law_take C__law_some C__law_names C__law_bag hr)
def BagC (n : Nat) (c : Cell) : Prop := ∃ b0 b1 b2 : Int, c = .lst [.int b0, .int b1, .int b2] ∧ 0 ≤ b0 ∧ 0 ≤ b1 ∧ b1 < 2 ^ 62 ∧ 0 ≤ b2 ∧ b2 ≤ n
theorem BagC.mono {n m : Nat} {c : Cell} (h : BagC n c) (l : n ≤ m) : BagC m c := by
  obtain ⟨b0, b1, b2, e, h1, h2, h3, h4, h5⟩ := h
  exact ⟨b0, b1, b2, e, h1, h2, h3, h4, by omega⟩
theorem bag_spec (ns : List Int) (at' : Nat) (st : Store) (h : at' < 1000) :
    ∃ c, d__law_bag [.lsk (ns.map .int), .int at'] st = .ok (.ref st.length) [] (st ++ [c]) ∧ BagC 0 c := by
  have e18 : CPow2 10 18 := ⟨by decide, by decide, Nat.lt_of_lt_of_le (by decide : Int.natAbs 10 < 2 ^ 8) (Nat.pow_le_pow_right (by decide) (by decide))⟩
  have main : ∀ z : Int, ∀ b : Int, (b = 0 ∨ b = 1) → BagC 0 (.lst [.int ((if z < 0 then -z else z) * b), .int (z % (10 ^ 18 + 9) + 7368787 * at' + 41), .int 0]) := fun z b hb => by
    refine ⟨_, _, _, rfl, ?_, ?_, ?_, by omega, by simp⟩
    · rcases hb with rfl | rfl
      · simp
      · simp; split <;> omega
    · have := Int.emod_nonneg z (show (10 ^ 18 + 9 : Int) ≠ 0 by decide)
      omega
    · have := Int.emod_lt_of_pos z (show (0 : Int) < 10 ^ 18 + 9 by decide)
      omega
  have cm1 : ∀ (z b : Int), (b = 0 ∨ b = 1) → CMul z b := fun z b hb => by
    right; rcases hb with rfl | rfl <;> decide
  have cm2 : CMul 7368787 at' := by left; decide
  by_cases hlt : at' < ns.length
  · obtain ⟨z, hz⟩ : ∃ z, ns[at'] = z := ⟨_, rfl⟩
    obtain ⟨far, hf⟩ : ∃ far : Int, (if z < 0 then -z else z) = far := ⟨_, rfl⟩
    by_cases hb : (1000000000000000000 : Int) ≤ far
    · refine ⟨_, ?_, main z 1 (.inr rfl)⟩
      simp [d__law_bag, b__law_bag, hlt, hz, hf, e18, atI, ixN, cm2, hb, cm1]
    · refine ⟨_, ?_, main z 0 (.inl rfl)⟩
      simp [d__law_bag, b__law_bag, hlt, hz, hf, e18, atI, ixN, cm2, hb, cm1]
  · refine ⟨_, ?_, main 0 0 (.inl rfl)⟩
    simp [d__law_bag, b__law_bag, hlt, e18, cm2, cm1]
theorem take_spec {n : Nat} {c : Cell} {st : Store} {l : Nat} {many : Nat} (hl : st[l]? = some c) (hc : BagC n c) (hn : n < 1000000) (h0 : 0 < many) (h1 : many < 1000000) :
    ∃ (v : Nat) (c' : Cell), d__law_take [.ref l, .int many] st = .ok (.int v) [] (st.set l c') ∧ BagC (n + 1) c' ∧ v < many := by
  obtain ⟨b0, b1, b2, rfl, p0, p1, p2, p3, p4⟩ := hc
  have hm : (0 : Int) < many := by omega
  have hm2 : (many : Int) < 1073741824 := by omega
  obtain ⟨hll, hl'⟩ := List.getElem?_eq_some_iff.mp hl
  by_cases hb : 0 < b0
  · refine ⟨(b0 % many).toNat, .lst [.int (b0 / many), .int b1, .int b2], ?_, ⟨_, _, _, rfl, Int.ediv_nonneg p0 (by omega), p1, p2, p3, by omega⟩, ?_⟩
    · have hv : ((b0 % many).toNat : Int) = b0 % many := Int.toNat_of_nonneg (Int.emod_nonneg _ (by omega))
      have cd : ∀ i : Int, CDiv i many := fun _ => ⟨hm, hm2⟩
      simp [d__law_take, b__law_take, hl', hll, atI, ixN, hb, cd, hv, h0]
    · have := Int.emod_lt_of_pos b0 hm
      have := Int.emod_nonneg b0 (show (many : Int) ≠ 0 by omega)
      omega
  · have cd : ∀ i : Int, CDiv i 4096 ∧ CDiv i 16 := fun _ => ⟨⟨by decide, by decide⟩, ⟨by decide, by decide⟩⟩
    have b0 : b0 = 0 := by omega
    subst b0
    obtain ⟨base, hbase⟩ : ∃ base : Int, b1 * (2 * (b2 + 1) + 1) + 7919 * (b2 + 1) * (b2 + 1) + 29 = base := ⟨_, rfl⟩
    have q0 : 0 ≤ b1 * (2 * (b2 + 1) + 1) := Int.mul_nonneg p1 (by omega)
    have q0' : b1 * (2 * (b2 + 1) + 1) ≤ 2 ^ 62 * (2 ^ 22) := Int.mul_le_mul (by omega) (by omega) (by omega) (by omega)
    have q1 : 0 ≤ 7919 * (b2 + 1) * (b2 + 1) := Int.mul_nonneg (by omega) (by omega)
    have q1' : 7919 * (b2 + 1) * (b2 + 1) ≤ (7919 * 2 ^ 22) * 2 ^ 22 := Int.mul_le_mul (by omega) (by omega) (by omega) (by omega)
    have q2 : 0 ≤ base ∧ base < 2 ^ 90 := by omega
    have cp : CPow2 base 3 := ⟨by decide, by decide, Nat.lt_of_lt_of_le (by omega : base.natAbs < 2 ^ 90) (Nat.pow_le_pow_right (by decide) (by decide))⟩
    have c1 : CMul b1 (2 * (b2 + 1) + 1) := .inr ⟨by omega, by omega⟩
    have c2 : ∀ i : Int, CMul 2 i ∧ CMul 7919 i := fun _ => ⟨.inl (by decide), .inl (by decide)⟩
    have c3 : CMul (7919 * (b2 + 1)) (b2 + 1) := .inr ⟨by omega, by omega⟩
    obtain ⟨mx, hmx⟩ : ∃ mx : Int, base ^ 3 % 2147483587 = mx := ⟨_, rfl⟩
    have hmx0 : 0 ≤ mx := by rw [← hmx]; exact Int.emod_nonneg _ (by decide)
    have hmx1 : mx < 2147483587 := by rw [← hmx]; exact Int.emod_lt_of_pos _ (by decide)
    have c4 : CMul mx (mx / 4096 + (b2 + 1)) := .inl ⟨by omega, by omega⟩
    obtain ⟨v, hv⟩ : ∃ v : Int, mx * (mx / 4096 + (b2 + 1)) % 2147483549 / 16 % many = v := ⟨_, rfl⟩
    have v0 : 0 ≤ v := by rw [← hv]; exact Int.emod_nonneg _ (by omega)
    have v1 : v < many := by rw [← hv]; exact Int.emod_lt_of_pos _ (by omega)
    have hv' : (v.toNat : Int) = v := Int.toNat_of_nonneg v0
    refine ⟨v.toNat, .lst [.int 0, .int b1, .int (b2 + 1)], ?_, ⟨_, _, _, rfl, by decide, p1, p2, by omega, by omega⟩, by omega⟩
    simp [d__law_take, b__law_take, hl', hll, atI, ixN, cd, h0, c1, c2, c3, hbase, cp, hmx, c4, hv, hv']
abbrev LET : Str := "abcdefghijklmnopqrstuvwxyz"
theorem LET_len : LET.length = 26 := by decide
theorem LET_size : LET.cps.size = 26 := LET_len
theorem LET_sz : LET.length ≤ sizeLine := by rw [LET_len, sizeLine_eq]; omega
theorem LET_ok : ∀ c ∈ LET.cps.toList, c < 0x110000 := by decide
structure NameS (s : Str) : Prop where
  lo : 1 ≤ s.length
  hi : s.length ≤ 8
  low : ∀ c ∈ s.cps.toList, c ∈ LET.cps.toList
theorem NameS.ok {s : Str} (h : NameS s) : okS s := fun c hc => LET_ok c (h.low c hc)
theorem name_lc {n k : Nat} {c1 : Cell} {st : Store} {l : Nat} (hll : l < st.length) (h1 : BagC (n + 1) c1) (hn : n < 900000) (hk8 : k ≤ 8) :
    ∃ (cs : List Nat) (c' : Cell), lcGo (gN 2) yesD e__law_name_1 [2] (rngItems 0 k) [] [.val (.ref l), .val (.int k), .no] (st.set l c1) =
      .ok (.lst (cs.map fun c => .str (mkS [c]))) [.val (.ref l), .val (.int k), .no] (st.set l c') ∧ BagC (n + 1 + k) c' ∧ cs.length = k ∧ ∀ c ∈ cs, c ∈ LET.cps.toList := by
  obtain ⟨ys, st', q1, q2, q3, q4⟩ := lc_inv (g := gN 2) (f := e__law_name_1) (vs := [2]) (ρ := [.val (.ref l), .val (.int k), .no])
    (fun i st' => ∃ c', st' = st.set l c' ∧ BagC (n + 1 + i) c') (fun i y => ∃ c, c ∈ LET.cps.toList ∧ y = .str (mkS [c])) (rngItems 0 k) (st.set l c1) (fun i d st' hd hi hI => by
      obtain ⟨c', rfl, hb⟩ := hI
      have hi8 : i < k := by simpa [rngItems] using hi
      obtain ⟨u, c2, e2, h2, hu⟩ := take_spec (st := st.set l c') (l := l) (c := c') (many := 26) (by simp [hll]) hb (by omega) (by decide) (by decide)
      have hu' : u < LET.cps.size := by rw [LET_size]; exact hu
      refine ⟨.str (mkS [LET.cps[u]]), (st.set l c').set l c2, ?_, ⟨c2, by simp, h2.mono (by omega)⟩, _, ?_, rfl⟩
      · simp at e2
        simp [e__law_name_1, e2, hu', LET_sz, mkS]
      · simp) ⟨c1, rfl, h1⟩
  obtain ⟨c', rfl, hb⟩ := q2
  have hlen : (rngItems 0 k).length = k := by simp [rngItems]
  rw [hlen] at hb q3
  obtain ⟨cs, rfl, hcs⟩ := of_all (f := fun c => .str (mkS [c])) (all_of_get q4)
  exact ⟨cs, c', q1, hb, by simpa using q3, hcs⟩
theorem name_spec {n : Nat} {c : Cell} {st : Store} {l : Nat} (hl : st[l]? = some c) (hc : BagC n c) (hn : n < 900000) :
    ∃ (s : Str) (c' : Cell), d__law_name [.ref l] st = .ok (.str s) [] (st.set l c') ∧ BagC (n + 9) c' ∧ NameS s := by
  obtain ⟨hll, _⟩ := List.getElem?_eq_some_iff.mp hl
  obtain ⟨v, c1, e1, h1, hv⟩ := take_spec (many := 4) hl hc (by omega) (by decide) (by decide)
  obtain ⟨k, hk, hk1, hk8⟩ : ∃ k : Nat, ([D.int 1, .int 2, .int 3, .int 8] : List D)[v]? = some (.int k) ∧ 1 ≤ k ∧ k ≤ 8 := by
    match v, hv with
    | 0, _ => exact ⟨1, rfl, by omega, by omega⟩
    | 1, _ => exact ⟨2, rfl, by omega, by omega⟩
    | 2, _ => exact ⟨3, rfl, by omega, by omega⟩
    | 3, _ => exact ⟨8, rfl, by omega, by omega⟩
  have hlen : (rngItems 0 k).length = k := by simp [rngItems]
  obtain ⟨cs, c', q1, hb, hcl, hcs⟩ := name_lc (k := k) hll h1 hn hk8
  have hjf := join_fit cs (by omega)
  refine ⟨mkS cs, c', ?_, hb.mono (by omega), ⟨by simp; omega, by simp; omega, by simpa using hcs⟩⟩
  simp at e1
  have hrk : Rg (k : Int) := .of (by omega) (by omega)
  have hsz : k ≤ sizeLine := by rw [sizeLine_eq]; omega
  simp only [d__law_name, b__law_name, runD, seqD, setD, thenF, lift2, callD, aCons, aNil, vr, cst, R.bind, enter]
  simp [-pJoin, e1, hk, hlen, hsz, hrk, q1, hjf]
theorem LET_mem {c : Nat} : c ∈ LET.cps.toList ↔ 97 ≤ c ∧ c < 123 := by
  have : LET.cps.toList = List.range' 97 26 := by decide
  rw [this, List.mem_range'_1]
theorem LET_at (u : Nat) (h : u < 26) : LET.cps.toList[u]? = some (97 + u) := by
  have : LET.cps.toList = List.range' 97 26 := by decide
  rw [this, List.getElem?_range' h]; simp
theorem occ_LET : ∀ u : Fin 26, Builtin.Str.occurrences LET (mkS [97 + u.val]) 0 LET.length 1 = [u.val] := by decide +kernel
def nmP (p : List Nat) (u : Nat) : Str := mkS (p ++ [97 + u % 26])
theorem nmP_of {s : Str} (h : NameS s) : ∃ p u, s = nmP p u ∧ p.length + 1 = s.length ∧ ∀ c ∈ p, c ∈ LET.cps.toList := by
  have hl : s.cps.toList ≠ [] := fun e => by have := h.lo; rw [len_cps, e] at this; simp at this
  have e := List.dropLast_concat_getLast hl
  have hc := h.low _ (List.getLast_mem hl)
  have hc' := LET_mem.mp hc
  refine ⟨s.cps.toList.dropLast, s.cps.toList.getLast hl - 97, ?_, ?_, fun c hc => h.low c (List.dropLast_subset _ hc)⟩
  · apply mkS_ext
    rw [nmP, mkS_cps, Nat.mod_eq_of_lt (by omega), show 97 + (s.cps.toList.getLast hl - 97) = s.cps.toList.getLast hl by omega, e]
  · rw [len_cps, List.length_dropLast]
    have := h.lo
    rw [len_cps] at this
    omega
theorem nmP_name {p : List Nat} {u : Nat} (h1 : p.length ≤ 7) (h2 : ∀ c ∈ p, c ∈ LET.cps.toList) : NameS (nmP p u) := by
  refine ⟨by simp [nmP], by simp [nmP]; omega, fun c hc => ?_⟩
  rw [nmP, mkS_cps] at hc
  rcases List.mem_append.mp hc with hc | hc
  · exact h2 c hc
  · rw [List.mem_singleton.mp hc, LET_mem]; omega
theorem nmP_inj {p : List Nat} {u v : Nat} (hu : u < 26) (hv : v < 26) (h : nmP p u = nmP p v) : u = v := by
  have := mkS_inj.mp h
  simp at this
  omega
theorem nodup_len {α : Type} [DecidableEq α] : ∀ {l m : List α}, l.Nodup → (∀ x ∈ l, x ∈ m) → l.length ≤ m.length
  | [], _, _, _ => Nat.zero_le _
  | a :: l, m, h, k => by
    obtain ⟨h1, h2⟩ := List.nodup_cons.mp h
    have ha := k a (List.mem_cons_self ..)
    have := nodup_len (l := l) (m := m.erase a) h2 fun x hx => (List.mem_erase_of_ne (fun e => h1 (by rw [← e]; exact hx))).mpr (k x (List.mem_cons_of_mem _ hx))
    rw [List.length_erase_of_mem ha] at this
    have := List.length_pos_of_mem ha
    simp; omega
theorem nm_free {F : List Str} {p : List Nat} {u : Nat} (hF : F.length < 26) : ∃ k, nmP p (u + k) ∉ F := by
  refine Classical.byContradiction fun h => ?_
  have h' : ∀ k, nmP p k ∈ F := fun k => Classical.byContradiction fun z => h ⟨k + 26 * u - u, by
    have : nmP p (u + (k + 26 * u - u)) = nmP p k := by
      unfold nmP
      rw [show (u + (k + 26 * u - u)) % 26 = k % 26 by omega]
    rw [this]; exact z⟩
  have nd : ((List.range 26).map (nmP p)).Nodup := by
    rw [List.Nodup, List.pairwise_map]
    refine List.Pairwise.imp_of_mem (R := fun a b => a ≠ b) ?_ List.nodup_range
    intro a b ha hb hne e
    exact hne (nmP_inj (List.mem_range.mp ha) (List.mem_range.mp hb) e)
  have := nodup_len nd (m := F) fun x hx => by
    obtain ⟨k, _, rfl⟩ := List.mem_map.mp hx
    exact h' k
  simp at this
  omega
theorem okS_names {F : List Str} (h : ∀ s ∈ F, NameS s) : ∀ s ∈ F, okS s := fun s hs => (h s hs).ok
theorem pIn_strs {n : Bool} {s : Str} {F : List Str} (hs : okS s) (hF : ∀ s ∈ F, okS s) : pInX n (.str s) (.lst (F.map .str)) = some (.bl (if n then !decide (s ∈ F) else decide (s ∈ F))) := pInX_lst (α := Str) hs hF
theorem atI_last {α : Type} (p : List α) (c : α) : atI (p ++ [c]) (-1) = some c := by
  unfold atI ixN
  rw [if_neg (by omega), if_pos (by simp; omega), show (-1 + (((p ++ [c]).length : Nat) : Int)).toNat = p.length by simp; omega]
  simp
theorem names_step {p : List Nat} {u : Nat} {l many : D} {F : List D} {x4 : Sl} {st : Store} (hp : p.length ≤ 7) :
    f__law_names_2 [.val l, .val many, .val (.str LET), .ml F, x4, .val (.str (nmP p u))] st = .nx [.val l, .val many, .val (.str LET), .ml F, x4, .val (.str (nmP p (u + 1)))] st := by
  have hz : (nmP p u).length ≤ sizeLine := by rw [sizeLine_eq]; simp [nmP]; omega
  have hix : atI (nmP p u).cps.toList (-1) = some (97 + u % 26) := by
    rw [nmP, mkS_cps]
    exact atI_last p _
  have hcut : cutS (nmP p u) none (some (-1)) = mkS p := by
    apply mkS_ext
    rw [cutS_cps]
    simp [nmP, HT.sIx]
    rw [show (-1 + ((p.length : Int) + 1)).toNat = p.length by omega]
    simp
  have ho := occ_LET ⟨u % 26, by omega⟩
  have hat : atI LET.cps.toList (((u : Int) + 1) % 26) = some (97 + (u + 1) % 26) := by
    rw [show ((u : Int) + 1) % 26 = (((u + 1) % 26 : Nat) : Int) by omega, DL.atI_nat]
    exact LET_at _ (by omega)
  have happ : mkS p ++ ⟨#[97 + (u + 1) % 26]⟩ = nmP p (u + 1) := mkS_app p [97 + (u + 1) % 26]
  have hL : p.length + (⟨#[97 + (u + 1) % 26]⟩ : Str).length ≤ sizeLine := by rw [sizeLine_eq]; show p.length + 1 ≤ _; omega
  have e1 : (⟨#[97 + u % 26]⟩ : Str) = mkS [97 + u % 26] := rfl
  simp [f__law_names_2, hz, hix, hcut, e1, ho, LET_sz, hat, hL, happ]
theorem names_while {p : List Nat} {l many : D} {F : List Str} {x4 : Sl} {st : Store} (hp : p.length ≤ 7) (hp2 : ∀ c ∈ p, c ∈ LET.cps.toList) (hF : ∀ s ∈ F, NameS s) : ∀ (k u : Nat), nmP p (u + k) ∉ F →
    ∃ u', nmP p u' ∉ F ∧ whileD w__law_names_1 f__law_names_2 [.val l, .val many, .val (.str LET), .ml (F.map .str), x4, .val (.str (nmP p u))] st = .nx [.val l, .val many, .val (.str LET), .ml (F.map .str), x4, .val (.str (nmP p u'))] st
  | k, u, h => by
    have hin : w__law_names_1 [.val l, .val many, .val (.str LET), .ml (F.map .str), x4, .val (.str (nmP p u))] st = .ok (.bl (decide (nmP p u ∈ F))) [.val l, .val many, .val (.str LET), .ml (F.map .str), x4, .val (.str (nmP p u))] st := by
      simp [w__law_names_1, pIn_strs (nmP_name hp hp2).ok (okS_names hF)]
    by_cases hm : nmP p u ∈ F
    · cases k with
      | zero => exact absurd hm h
      | succ k =>
        obtain ⟨u', h1, h2⟩ := names_while hp hp2 hF k (u + 1) (by rw [show u + 1 + k = u + (k + 1) by omega]; exact h)
        rw [decide_eq_true hm] at hin
        exact ⟨u', h1, whileD_true hin (names_step hp) h2 (by simp)⟩
    · rw [decide_eq_false hm] at hin
      exact ⟨u, hm, whileD_false hin⟩
theorem names_spec {n : Nat} {c : Cell} {st : Store} {l many : Nat} (hl : st[l]? = some c) (hc : BagC n c) (hn : n < 800000) (hm : many ≤ 25) :
    ∃ (ns : List Str) (c' : Cell), d__law_names [.ref l, .int many] st = .ok (.lst (ns.map .str)) [] (st.set l c') ∧ BagC (n + 9 * many) c' ∧ ns.length = many ∧ ns.Nodup ∧ ∀ s ∈ ns, NameS s := by
  obtain ⟨hll, _⟩ := List.getElem?_eq_some_iff.mp hl
  have hrk : Rg (many : Int) := .of (by omega) (by omega)
  obtain ⟨ρ', st', e, F, c', x4, x5, rfl, rfl, h1, h2, h3, h4⟩ := forD_inv (g := gN 4) (b := f__law_names_3)
    (fun i ρ st' => ∃ (F : List Str) (c' : Cell) (x4 x5 : Sl), ρ = [.val (.ref l), .val (.int many), .val (.str LET), .ml (F.map .str), x4, x5] ∧ st' = st.set l c' ∧ BagC (n + 9 * i) c' ∧ F.length = i ∧ F.Nodup ∧ ∀ s ∈ F, NameS s)
    (rngItems 0 many) 0 [.val (.ref l), .val (.int many), .val (.str LET), .ml [], .no, .no] st (by
      rintro i d ρ st' hd ⟨F, c', x4, x5, rfl, rfl, h1, h2, h3, h4⟩
      have hi : i < many := by have := (List.getElem?_eq_some_iff.mp hd).1; simpa [rngItems] using this
      rw [Nat.zero_add] at h1 h2 ⊢
      obtain ⟨s, c2, e2, b2, hs⟩ := name_spec (st := st.set l c') (l := l) (c := c') (by simp [hll]) h1 (by omega)
      obtain ⟨p, u, rfl, hp, hp2⟩ := nmP_of hs
      have hp7 : p.length ≤ 7 := by have := hs.hi; omega
      obtain ⟨k, hk⟩ := nm_free (F := F) (p := p) (u := u) (by omega)
      obtain ⟨u', hu', ew⟩ := names_while (l := .ref l) (many := .int many) (F := F) (x4 := .val d) (st := st.set l c2) hp7 hp2 h4 k u hk
      have e2' : d__law_name [.ref l] (st.set l c') = .ok (.str (nmP p u)) [] (st.set l c2) := by simpa using e2
      have hsz : F.length < sizeLine := by rw [sizeLine_eq]; omega
      refine ⟨_, [.val (.ref l), .val (.int many), .val (.str LET), .ml ((F ++ [nmP p u']).map .str), .val d, .val (.str (nmP p u'))], st.set l c2, rfl, .inl ?_, F ++ [nmP p u'], c2, .val d, .val (.str (nmP p u')), rfl, rfl, b2.mono (by omega), by simp [h2], ?_, ?_⟩
      · simp [f__law_names_3, e2', ew, hsz]
      · rw [List.nodup_append]
        exact ⟨h3, by simp, fun a ha b hb => by rw [List.mem_singleton.mp hb]; intro z; rw [z] at ha; exact hu' ha⟩
      · intro s hs'
        rcases List.mem_append.mp hs' with hs' | hs'
        · exact h4 s hs'
        · rw [List.mem_singleton.mp hs']; exact nmP_name hp7 hp2) ⟨[], c, .no, .no, rfl, by simp [List.set_getElem_self, ← (List.getElem?_eq_some_iff.mp hl).2], hc, rfl, .nil, fun _ h => by cases h⟩
  have hlen : (rngItems 0 many).length = many := by simp [rngItems]
  rw [hlen, Nat.zero_add] at h1 h2
  refine ⟨F, c', ?_, h1, h2, h3, h4⟩
  simp [d__law_names, b__law_names, hrk, e]
theorem in_hs (n : Bool) (x : Str) (s : HS) (hx : okS x) : pInX n (.str x) (Dt.d s) = some (.bl (if n then !decide (x ∈ s.l) else decide (x ∈ s.l))) := pInX_tup (α := Str) hx s.ok
theorem within_spec (a b : HS) (st : Store) (h : a.l.length ≤ 1000) : d_is_within [Dt.d a, Dt.d b] st = .ok (.bl (BK.le a b)) [] st := by
  have e := lc_mapC (g := gN 2) (e := e_is_within_1) (vs := [2]) (ρ := [.val (Dt.d a), .val (Dt.d b), .no]) (st := st) D.str (fun x => .bl (decide (x ∈ b.l))) a.l fun x hx => by
    have := in_hs false x b (a.ok x hx)
    simp only [Dt.d] at this ⊢
    simp [e_is_within_1, this]
  have hz : a.l.length ≤ sizeLine := sz _ (by omega)
  simp only [Dt.d] at e ⊢
  simp [d_is_within, b_is_within, hz, e, le_def]
def Sm (s : HS) : Prop := s.l.length ≤ 1000
theorem ne_hs (a b : HS) : pNe (Dt.d a) (Dt.d b) = some (.bl (decide (a ≠ b))) := by
  rw [pNe_dt (α := HS) trivial trivial]
  simp
theorem thinned_spec (lot : List HS) (st : Store) (h : lot.length ≤ 1000) (hs : ∀ s ∈ lot, Sm s) (hn : ∀ s ∈ lot, s ≠ BK.emp) : d_thinned [.lst (lot.map Dt.d)] st = .ok (.lst ((srtH (BK.thn lot)).map Dt.d)) [] st := by
  have hz : lot.length ≤ sizeLine := sz _ (by omega)
  have e1 : ∀ one ∈ lot, ∀ x1 : Sl, lcGo (gN 3) yesD e_thinned_1 [3] (lot.map Dt.d) [] [.val (.lst (lot.map Dt.d)), x1, .val (Dt.d one), .no] st =
      .ok (.lst (lot.map fun other => .bl (decide (other ≠ one) && BK.le one other))) [.val (.lst (lot.map Dt.d)), x1, .val (Dt.d one), .no] st := fun one ho x1 => lc_mapC (g := gN 3) (e := e_thinned_1) (vs := [3]) Dt.d _ lot fun other hx => by
    have h1 := ne_hs other one
    have h2 := within_spec one other st (hs one ho)
    simp only [Dt.d] at h1 h2 ⊢
    by_cases hd : other = one
    · subst hd
      simp [e_thinned_1, h1]
    · simp [e_thinned_1, h1, hd, h2]
  have e2 := lc_fmC (g := gN 2) (c := t_thinned_2) (e := vr 2) (vs := [2]) (ρ := [.val (.lst (lot.map Dt.d)), .no, .no, .no]) (st := st) Dt.d Dt.d (fun one => !(lot.any fun other => decide (other ≠ one) && BK.le one other)) lot fun one ho => by
    have := e1 one ho .no
    simp only [Dt.d] at this ⊢
    simp only [lc2, gN, t_thinned_2, notD, lift1, lcD, itD, vr, R.bind]
    simp only [List.set_cons_succ, List.set_cons_zero, List.getElem?_cons_zero, List.getElem?_cons_succ, D.walk, D.items, Option.map_some, D.iter, List.length_map, hz, if_true, chkE_none, wipeR, this, R.bind, pAny_map]
    cases hh : (lot.any fun other => decide (other ≠ one) && BK.le one other) <;> simp
  have hf : BK.thn lot = lot.filter fun one => !(lot.any fun other => decide (other ≠ one) && BK.le one other) := rfl
  rw [← hf] at e2
  have ok : sortOk ((BK.thn lot).map Dt.d) := sortOk_hs fun s hs => hn s (List.mem_filter.mp hs).1
  have so := sort_hs (BK.thn lot)
  simp only [Dt.d] at e2 ok so ⊢
  simp [d_thinned, b_thinned, hz, e2, sortD, ok, so]
def uncK : List Row → List Row → List Row
  | [], _ => []
  | r :: p, q => (if decide (r.2 ≠ BK.emp) && !((p ++ q).any fun z => BK.le r.2 z.2) then [r] else []) ++ uncK p q
theorem uncK_all : ∀ p q : List Row, BK.unc (p ++ q) = uncK p q ++ BK.unc q
  | [], _ => rfl
  | r :: p, q => by
    rw [List.cons_append, BK.unc, uncK_all p q, uncK]
    split <;> simp
theorem uncK_snoc : ∀ (p q : List Row) (a : Row), uncK (p ++ [a]) q = uncK p (a :: q) ++ (if decide (a.2 ≠ BK.emp) && !(q.any fun z => BK.le a.2 z.2) then [a] else [])
  | [], q, a => by simp [uncK]
  | r :: p, q, a => by
    rw [List.cons_append, uncK, uncK_snoc p q a, uncK, show p ++ [a] ++ q = p ++ a :: q by simp, List.append_assoc]
theorem uncK_len : ∀ p q : List Row, (uncK p q).length ≤ p.length
  | [], _ => Nat.le_refl _
  | r :: p, q => by
    have := uncK_len p q
    rw [uncK]
    split <;> simp <;> omega
def SmR (rows : List Row) : Prop := rows.length ≤ 1000 ∧ ∀ r ∈ rows, Sm r.2

theorem zipIdx_split {α : Type} {rows : List α} {p : List (α × Nat)} {a : α × Nat} {q : List (α × Nat)} (h : rows.zipIdx = p ++ a :: q) : rows = p.map (·.1) ++ a.1 :: q.map (·.1) ∧ a.2 = p.length := by
  have e := congrArg (List.map Prod.fst) h
  rw [List.zipIdx_map_fst] at e
  refine ⟨by simpa using e, ?_⟩
  have h2 : rows.zipIdx[p.length]? = some a := by rw [h]; simp
  rw [List.getElem?_zipIdx] at h2
  cases hr : rows[p.length]? with
  | none => rw [hr] at h2; cases h2
  | some x => rw [hr] at h2; simp at h2; rw [← h2]
theorem uncovered_spec (rows : List Row) (st : Store) (h : SmR rows) : d_uncovered [.lst (rows.map Dt.d)] st = .ok (.lst ((BK.unc rows).map Dt.d)) [] st := by
  obtain ⟨ρ', st', e, x2, x3, x4, x5, rfl, rfl⟩ := forD_pre (g := gT (gsCons (gN 2) (gsCons (gT (gsCons (gN 3) (gsCons (gN 4) gsNil))) gsNil))) (b := f_uncovered_2) (fun p : Row × Nat => D.tup [.int (p.2 : Int), Dt.d p.1])
    (fun p ρ st' => ∃ x2 x3 x4 x5 : Sl, ρ = [.val (.lst (rows.map Dt.d)), .ml ((uncK (p.map (·.1)) (rows.drop p.length)).map Dt.d), x2, x3, x4, x5, .no, .no] ∧ st' = st) rows.zipIdx [] [.val (.lst (rows.map Dt.d)), .ml [], .no, .no, .no, .no, .no, .no] st ⟨_, _, _, _, rfl, rfl⟩ (by
      rintro p a q ρ st' he ⟨x2, x3, x4, x5, rfl, rfl⟩
      obtain ⟨⟨t, s⟩, i⟩ := a
      obtain ⟨er, hi⟩ := zipIdx_split (by simpa using he)
      simp only at hi er
      subst hi
      have hlen : p.length < rows.length := by rw [er]; simp
      have hd : rows.drop p.length = (t, s) :: rows.drop (p.length + 1) := by
        rw [List.drop_eq_getElem_cons hlen]
        congr 1
        have : rows[p.length]? = some (t, s) := by rw [er]; simp
        rw [List.getElem?_eq_getElem hlen] at this
        exact Option.some.inj this
      have hs : Sm s := h.2 (t, s) (by rw [er]; simp)
      obtain ⟨post, hpost⟩ : ∃ post, rows.drop (p.length + 1) = post := ⟨_, rfl⟩
      have hpl : post.length ≤ 1000 := by have := h.1; rw [← hpost, List.length_drop]; omega
      have hz : post.length ≤ sizeLine := sz _ (by omega)
      have hk := uncK_len (p.map (·.1)) ((t, s) :: post)
      have hz2 : (uncK (p.map (·.1)) ((t, s) :: post)).length < sizeLine := by rw [sizeLine_eq]; have := h.1; simp at hk; omega
      have e1 := lc_mapC (g := gT (gsCons (gN 6) (gsCons (gN 7) gsNil))) (e := vr 7) (vs := [6, 7]) (ρ := [.val (.lst (rows.map Dt.d)), .ml ((uncK (p.map (·.1)) ((t, s) :: post)).map Dt.d), .val (.int p.length), .val (Dt.d t), .val (Dt.d s), x5, .no, .no]) (st := st') Dt.d (fun r : Row => Dt.d r.2) post fun r hr => by simp [row_d]; rfl
      have e2 := lc_mapC (g := gN 7) (e := e_uncovered_1) (vs := [7]) (ρ := [.val (.lst (rows.map Dt.d)), .ml ((uncK (p.map (·.1)) ((t, s) :: post)).map Dt.d), .val (.int p.length), .val (Dt.d t), .val (Dt.d s), .val (.lst (post.map fun r : Row => Dt.d r.2)), .no, .no]) (st := st') (fun r : Row => Dt.d r.2) (fun r : Row => .bl (BK.le s r.2)) post fun r hr => by
        simp [e_uncovered_1, within_spec s r.2 st' hs]
      have hc : cutD (rows.map Dt.d) (some ((p.length : Int) + 1)) none = post.map Dt.d := by
        rw [show ((p.length : Int) + 1) = ((p.length + 1 : Nat) : Int) by omega, cutD_from, ← List.map_drop, hpost]
      refine ⟨_, [.val (.lst (rows.map Dt.d)), .ml ((uncK (p.map (·.1)) ((t, s) :: post) ++ (if decide (s ≠ BK.emp) && !(post.any fun z => BK.le s z.2) then [(t, s)] else [])).map Dt.d), .val (.int p.length), .val (Dt.d t), .val (Dt.d s), .val (.lst (post.map fun r : Row => Dt.d r.2)), .no, .no], st', rfl, .inl ?_, .val (.int p.length), .val (Dt.d t), .val (Dt.d s), .val (.lst (post.map fun r : Row => Dt.d r.2)), ?_, rfl⟩
      · rw [hd, hpost]
        have hl0 : decide (0 < s.l.length) = decide (s ≠ BK.emp) := by
          rw [decide_eq_decide, hs_ne]
          cases s.l <;> simp
        obtain ⟨ds, hds, hdl⟩ : ∃ ds, (Dt.d s : D) = .tup ds ∧ ds.length = s.l.length := ⟨_, rfl, by simp⟩
        rw [← hdl] at hl0
        have hrd : (Dt.d ((t, s) : Row) : D) = .tup [Dt.d t, .tup ds] := by rw [row_d, ← hds]; rfl
        rw [hds] at e1 e2
        have gd : decide (0 < ds.length) = decide (s ≠ BK.emp) := hl0
        generalize uncK (p.map (·.1)) ((t, s) :: post) = kp at e1 e2 hz2 ⊢
        generalize decide (s ≠ BK.emp) = c1 at gd ⊢
        generalize hc2 : (post.any fun z => BK.le s z.2) = c2
        cases c1 with
        | false => simp [f_uncovered_2, hrd, hds, hc, hz, e1, e2, gd]
        | true =>
          cases c2 with
          | false => simp [f_uncovered_2, hrd, hds, hc, hz, e1, e2, gd, hc2, hz2]
          | true => simp [f_uncovered_2, hrd, hds, hc, hz, e1, e2, gd, hc2]
      · have em : (p ++ [((t, s), p.length)]).map (·.1) = p.map (·.1) ++ [(t, s)] := by simp
        rw [em, uncK_snoc, List.length_append, List.length_singleton, hpost])
  have hz : rows.length ≤ sizeLine := sz _ (by have := h.1; omega)
  have en : uncK (rows.zipIdx.map (·.1)) (rows.drop rows.zipIdx.length) = BK.unc rows := by
    rw [List.zipIdx_map_fst, List.length_zipIdx, List.drop_length]
    have := uncK_all rows []
    rw [List.append_nil] at this
    rw [this]; simp [BK.unc]
  rw [List.nil_append, en] at e
  simp [d_uncovered, b_uncovered, enumItems_map, e]
abbrev RunT := BK.Run Th HS
def cel (rs : List RunT) : List Cell := rs.map fun p => .lst (p.2.map Dt.d)
def tab (n : Nat) (rs : List RunT) : List D := rs.zipIdx.map fun p => .tup [Dt.d p.1.1, .ref (n + p.2)]
theorem tab_snoc (n : Nat) (rs : List RunT) (p : RunT) : tab n (rs ++ [p]) = tab n rs ++ [.tup [Dt.d p.1, .ref (n + rs.length)]] := by simp [tab, List.zipIdx_append]
theorem tab_same (n : Nat) (rs : List RunT) (t : Th) (l l' : List HS) : tab n (rs ++ [(t, l)]) = tab n (rs ++ [(t, l')]) := by rw [tab_snoc, tab_snoc]
theorem cel_snoc (rs : List RunT) (p : RunT) : cel (rs ++ [p]) = cel rs ++ [.lst (p.2.map Dt.d)] := by simp [cel]
theorem cel_len (rs : List RunT) : (cel rs).length = rs.length := by simp [cel]
theorem tab_len (n : Nat) (rs : List RunT) : (tab n rs).length = rs.length := by simp [tab]
theorem th_seen (st : Store) (t : Th) : seen st (.val (Dt.d t)) = some (Dt.d t) := by cases t <;> rfl
theorem eq_th {t u : Th} (ht : Dt.ok t) (hu : Dt.ok u) : pEq (Dt.d t) (Dt.d u) = some (.bl (decide (t = u))) := pEq_dt (α := Th) ht hu
theorem atI_m1 {α : Type} (p : List α) (c : α) : atI (p ++ [c]) (-1) = some c := atI_last p c
theorem runs_step {rows pre : List Row} {t : Th} {s : HS} {st : Store} (hp : pre.length ≤ 1000) (hok : ∀ r ∈ pre, Dt.ok r.1) (ht : Dt.ok t) :
    f_runs_of_1 [.val (.lst (rows.map Dt.d)), .ml (tab st.length (BK.runsOf pre)), .val (Dt.d t), .val (Dt.d s)] (st ++ cel (BK.runsOf pre)) =
      .nx [.val (.lst (rows.map Dt.d)), .ml (tab st.length (BK.runsOf (pre ++ [(t, s)]))), .val (Dt.d t), .val (Dt.d s)] (st ++ cel (BK.runsOf (pre ++ [(t, s)]))) := by
  have hl := BK.runsOf_len pre
  rcases List.eq_nil_or_concat (BK.runsOf pre) with e | ⟨init, p, e⟩
  · have := BK.runsOf_nil e
    subst this
    have e2 : BK.runsOf ([] ++ [(t, s)]) = [(t, [s])] := rfl
    rw [e, e2]
    simp [f_runs_of_1, tab, cel, sizeLine_eq]
  · rw [List.concat_eq_append] at e
    obtain ⟨t', lot⟩ := p
    have hl2 : lot.length ≤ pre.length := BK.runsOf_lot (p := (t', lot)) (by rw [e]; simp)
    have hil : init.length + 1 ≤ pre.length := by rw [e] at hl; simpa using hl
    have hz : init.length + 1 < sizeLine := by rw [sizeLine_eq]; omega
    have hz2 : lot.length < sizeLine := by rw [sizeLine_eq]; omega
    have ht' : Dt.ok t' := by
      have hm : (t', lot) ∈ BK.runsOf pre := by rw [e]; simp
      have hne := BK.runsOf_ne pre _ hm
      obtain ⟨x, hx⟩ := List.exists_mem_of_ne_nil _ hne
      have := BK.mem_flat hm hx
      rw [BK.flat_runsOf] at this
      exact hok _ this
    have heq := eq_th ht' ht
    have hat := atI_m1 (tab st.length init) (D.tup [Dt.d t', .ref (st.length + init.length)])
    have hc : (st ++ (cel init ++ [Cell.lst (lot.map Dt.d)]))[st.length + init.length]? = some (.lst (lot.map Dt.d)) := by
      rw [List.getElem?_append_right (by omega), List.getElem?_append_right (by rw [cel_len]; omega)]
      simp [cel_len]
    have hs : (st ++ (cel init ++ [Cell.lst (lot.map Dt.d)])).set (st.length + init.length) (.lst (lot.map Dt.d ++ [Dt.d s])) = st ++ (cel init ++ [.lst (lot.map Dt.d ++ [Dt.d s])]) := by
      rw [List.set_append_right _ _ (by omega), List.set_append_right _ _ (by rw [cel_len]; omega)]
      simp [cel_len]
    by_cases hd : t' = t
    · subst hd
      rw [BK.runsOf_same e, e, tab_same st.length init t' (lot ++ [s]) lot, tab_snoc, cel_snoc, cel_snoc]
      simp at heq
      simp [f_runs_of_1, hat, th_seen, heq, tab_len, hc, hz2, hs]
    · rw [BK.runsOf_diff e hd, e, tab_snoc st.length (init ++ [(t', lot)]), tab_snoc, cel_snoc, cel_snoc]
      simp [hd] at heq
      simp [f_runs_of_1, hat, th_seen, heq, tab_len, hz, cel_len, cel_snoc]

theorem frz_th (t : Th) (st : Store) : frz (Dt.d t) st = some (Dt.d t, st) := by
  cases t <;> simp [Dt.d, frz, frzs]
theorem frz_runs (n : Nat) : ∀ (rs : List RunT) (k : Nat) (st : Store), st.length = n + k →
    frzs (rs.zipIdx k |>.map fun p => D.tup [Dt.d p.1.1, .ref (n + p.2)]) (st ++ cel rs) = some (rs.map Dt.d, st ++ List.replicate rs.length .dead)
  | [], k, st, h => by simp [frzs, cel]
  | p :: rs, k, st, h => by
    have hc : (st ++ cel (p :: rs))[n + k]? = some (.lst (p.2.map Dt.d)) := by
      rw [List.getElem?_append_right (by omega)]
      simp [cel, h]
    have hs : (st ++ cel (p :: rs)).set (n + k) .dead = (st ++ [.dead]) ++ cel rs := by
      rw [List.set_append_right _ _ (by omega)]
      simp [cel, h]
    have ih := frz_runs n rs (k + 1) (st ++ [.dead]) (by simp; omega)
    have e1 : frz (D.tup [Dt.d p.1, .ref (n + k)]) (st ++ cel (p :: rs)) = some (Dt.d p, (st ++ [.dead]) ++ cel rs) := by
      simp only [frz, frzs, frz_th, hc, hs]
      rfl
    rw [List.zipIdx_cons, List.map_cons, frzs, e1]
    simp only [ih]
    simp [List.replicate_succ]
theorem runs_of_spec (rows : List Row) (st : Store) (h : rows.length ≤ 1000) (hok : ∀ r ∈ rows, Dt.ok r.1) : d_runs_of [.lst (rows.map Dt.d)] st = .ok (.lst ((BK.runsOf rows).map Dt.d)) [] (st ++ List.replicate (BK.runsOf rows).length .dead) := by
  obtain ⟨ρ', st', e, x2, x3, rfl, rfl⟩ := forD_pre (g := gT (gsCons (gN 2) (gsCons (gN 3) gsNil))) (b := f_runs_of_1) (Dt.d (α := Row))
    (fun p ρ st' => ∃ x2 x3 : Sl, ρ = [.val (.lst (rows.map Dt.d)), .ml (tab st.length (BK.runsOf p)), x2, x3] ∧ st' = st ++ cel (BK.runsOf p)) rows [] [.val (.lst (rows.map Dt.d)), .ml [], .no, .no] st ⟨.no, .no, rfl, by simp [BK.runsOf, cel]⟩ (by
      rintro p ⟨t, s⟩ q ρ st' he ⟨x2, x3, rfl, rfl⟩
      rw [List.nil_append] at he
      refine ⟨_, _, _, rfl, .inl (runs_step (pre := p) (by rw [he] at h; simp at h; omega) (fun r hr => hok r (by rw [he]; simp [hr])) (hok (t, s) (by rw [he]; simp))), _, _, rfl, rfl⟩)
  have hf := frz_runs st.length (BK.runsOf rows) 0 st rfl
  rw [List.nil_append] at e
  have hf' : frz (.lst (tab st.length (BK.runsOf rows))) (st ++ cel (BK.runsOf rows)) = some (.lst ((BK.runsOf rows).map Dt.d), st ++ List.replicate (BK.runsOf rows).length .dead) := by
    simp only [frz, tab, hf]
  simp [d_runs_of, b_runs_of, e, hf']
abbrev redP (n : Nat) (rows : List Row) : List Row := BK.redF srtH Th.non n rows
structure RowsOk (rows : List Row) : Prop where
  len : rows.length ≤ 1000
  sm : ∀ r ∈ rows, Sm r.2
  ok : ∀ r ∈ rows, Dt.ok r.1
theorem unc_sub : ∀ rows : List Row, (BK.unc rows).Sublist rows
  | [] => .slnil
  | r :: rest => by
    rw [BK.unc]
    split
    · exact (unc_sub rest).cons_cons r
    · exact (unc_sub rest).cons r
theorem RowsOk.sub {a b : List Row} (h : RowsOk a) (s : ∀ r ∈ b, r ∈ a) (l : b.length ≤ a.length) : RowsOk b := ⟨by have := h.len; omega, fun r hr => h.sm r (s r hr), fun r hr => h.ok r (s r hr)⟩
theorem pass_mem {rows : List Row} {r : Row} (h : r ∈ BK.pass srtH Th.non rows) : r ∈ rows := by
  obtain ⟨p, hp, hr⟩ := List.mem_flatMap.mp h
  obtain ⟨s, hs, rfl⟩ := List.mem_map.mp hr
  have hp2 : p ∈ (BK.runsOf (BK.unc rows)).map fun p => (p.1, srtH (BK.thn p.2)) := by
    unfold BK.passR BK.dropN at hp
    split at hp
    · cases hp
    · rename_i q rs e
      split at hp
      · rw [e]; exact List.mem_cons_of_mem _ hp
      · rw [e]; exact hp
  obtain ⟨q, hq, rfl⟩ := List.mem_map.mp hp2
  have hs' : s ∈ q.2 := (List.mem_filter.mp ((srtH_perm _).mem_iff.mp hs)).1
  have := BK.mem_flat hq hs'
  rw [BK.flat_runsOf] at this
  exact (unc_sub rows).subset this
theorem pass_ok {rows : List Row} (h : RowsOk rows) : RowsOk (BK.pass srtH Th.non rows) := h.sub (fun r hr => pass_mem hr) (BK.pass_len srtH_perm _ _)
abbrev midR (rows : List Row) : List RunT := (BK.runsOf (BK.unc rows)).map fun p => (p.1, srtH (BK.thn p.2))
theorem unc_ne : ∀ (rows : List Row), ∀ r ∈ BK.unc rows, r.2 ≠ BK.emp
  | [], _, h => by cases h
  | q :: rest, r, h => by
    rw [BK.unc] at h
    split at h
    · rename_i hc
      rcases List.mem_cons.mp h with rfl | h
      · simp only [Bool.and_eq_true, decide_eq_true_eq] at hc; exact hc.1
      · exact unc_ne rest r h
    · exact unc_ne rest r h
theorem run_d (p : RunT) : (Dt.d p : D) = .tup [Dt.d p.1, .lst (p.2.map Dt.d)] := rfl
theorem flat_inner (rs : List RunT) (a0 a1 a2 : Sl) (st : Store) : ∀ (acc : List D), acc.length + (BK.flat rs).length ≤ 100000 → lc2Go (gT (gsCons (gN 4) (gsCons (gN 5) gsNil))) yesD (itD (vr 5)) (gN 6) yesD e_reduced_1 [4, 5, 6] [6] (rs.map Dt.d) acc [a0, a1, a2, .val (.lst (rs.map Dt.d)), .no, .no, .no] st =
    .ok (.lst (acc ++ (BK.flat rs).map Dt.d)) [a0, a1, a2, .val (.lst (rs.map Dt.d)), .no, .no, .no] st := by
  generalize hx : Sl.val (.lst (rs.map Dt.d)) = x3
  clear hx
  induction rs with
  | nil => intro acc _; simp [lc2Go, BK.flat]
  | cons p rs ih =>
    intro acc hl
    have e1 := lc_mapC' (g := gN 6) (e := e_reduced_1) (vs := [6]) (ρ := [a0, a1, a2, x3, .val (Dt.d p.1), .val (.lst (p.2.map Dt.d)), .no]) (st := st) (Dt.d (α := HS)) (fun s => Dt.d ((p.1, s) : Row)) p.2 acc fun s hs => by simp [e_reduced_1]; rfl
    have hz : acc.length + p.2.length ≤ sizeLine := by rw [sizeLine_eq]; simp at hl; omega
    have := ih (acc ++ p.2.map fun s => Dt.d ((p.1, s) : Row)) (by simp at hl ⊢; omega)
    rw [List.map_cons, lc2Go, run_d]
    simp [hz, e1, this]
theorem pass_spec {rows : List Row} (h : RowsOk rows) (a0 a2 a3 : Sl) (st : Store) : ∃ a3', f_reduced_4 [a0, .val (.lst (rows.map Dt.d)), a2, a3, .no, .no, .no] st =
    .nx [a0, .val (.lst ((BK.pass srtH Th.non rows).map Dt.d)), .val (.int rows.length), a3', .no, .no, .no] (st ++ List.replicate (BK.runsOf (BK.unc rows)).length .dead) := by
  have hu := uncovered_spec rows st ⟨h.len, h.sm⟩
  have hsub := unc_sub rows
  have hul := hsub.length_le
  have hL := h.len
  have hr := runs_of_spec (BK.unc rows) st (by omega) fun r hr => h.ok r (hsub.subset hr)
  generalize hk : (BK.runsOf (BK.unc rows)).length = k at hr
  have hrl := BK.runsOf_len (BK.unc rows)
  have e1 := lc_mapC (g := gT (gsCons (gN 4) (gsCons (gN 5) gsNil))) (e := e_reduced_2) (vs := [4, 5]) (ρ := [a0, .val (.lst (rows.map Dt.d)), .val (.int rows.length), a3, .no, .no, .no]) (st := st ++ List.replicate k .dead) (Dt.d (α := RunT)) (fun p : RunT => Dt.d ((p.1, srtH (BK.thn p.2)) : RunT)) (BK.runsOf (BK.unc rows)) fun p hp => by
    have hl := BK.runsOf_lot hp
    have hm : ∀ s ∈ p.2, (p.1, s) ∈ BK.unc rows := fun s hs => by
      have := BK.mem_flat hp hs
      rwa [BK.flat_runsOf] at this
    have := thinned_spec p.2 (st ++ List.replicate k .dead) (by omega) (fun s hs => h.sm _ (hsub.subset (hm s hs))) fun s hs => unc_ne rows _ (hm s hs)
    simp [e_reduced_2, run_d, this]
  have hz : (BK.runsOf (BK.unc rows)).length ≤ sizeLine := sz _ (by omega)
  have hm : (BK.runsOf (BK.unc rows)).map (fun p : RunT => (Dt.d ((p.1, srtH (BK.thn p.2)) : RunT) : D)) = (midR rows).map Dt.d := by rw [List.map_map]; rfl
  rw [hm] at e1
  have hp : BK.pass srtH Th.non rows = BK.flat (BK.dropN Th.non (midR rows)) := rfl
  have hpl := BK.pass_len srtH_perm Th.non rows
  rw [hp] at hpl ⊢
  have hin := flat_inner (BK.dropN Th.non (midR rows)) a0 (.val (.lst (rows.map Dt.d))) (.val (.int rows.length)) (st ++ List.replicate k .dead) [] (by simp; omega)
  rw [hk] at hrl hz
  refine ⟨.val (.lst ((BK.dropN Th.non (midR rows)).map Dt.d)), ?_⟩
  cases hmid : midR rows with
  | nil =>
    rw [hmid] at e1 hin
    simp [BK.dropN] at hin
    simp [f_reduced_4, hu, hr, hk, hz, e1, hin, BK.dropN]
  | cons q rs =>
    rw [hmid] at e1 hin
    by_cases hq : q.1 = .non
    · simp [BK.dropN, hq] at hin
      have hc : cutD (Dt.d q :: rs.map Dt.d) (some 1) none = rs.map Dt.d := cutD_from (Dt.d q :: rs.map Dt.d) 1
      simp [f_reduced_4, hu, hr, hk, hz, e1, run_d q, hq, BK.dropN]
      rw [run_d q, hq] at hc
      simp [hc, hin]
    · simp [BK.dropN, hq] at hin
      simp [f_reduced_4, hu, hr, hk, hz, e1, run_d q, hq, BK.dropN]
      rw [run_d q] at hin
      simp [hin]

theorem reduced_spec {rows : List Row} (h : RowsOk rows) : ∃ k, ∀ st : Store, d_reduced [.lst (rows.map Dt.d)] st = .ok (.lst ((redP (rows.length + 1) rows).map Dt.d)) [] (st ++ List.replicate k .dead) := by
  have main : ∀ (n : Nat) (cur : List Row), cur.length < n → RowsOk cur → ∃ k, ∀ (many : Nat) (a0 a3 : Sl) (st : Store), cur.length < many → many ≤ 2000 → ∃ many' a3',
      whileD w_reduced_3 f_reduced_4 [a0, .val (.lst (cur.map Dt.d)), .val (.int many), a3, .no, .no, .no] st = .nx [a0, .val (.lst ((redP n cur).map Dt.d)), many', a3', .no, .no, .no] (st ++ List.replicate k .dead) := by
    intro n
    induction n with
    | zero => intro cur h; omega
    | succ n ih =>
      intro cur hn hok
      by_cases hl : (BK.pass srtH Th.non cur).length < cur.length
      · obtain ⟨k2, h2⟩ := ih (BK.pass srtH Th.non cur) (by omega) (pass_ok hok)
        refine ⟨(BK.runsOf (BK.unc cur)).length + k2, fun many a0 a3 st hm hm2 => ?_⟩
        obtain ⟨a3', e⟩ := pass_spec hok a0 (.val (.int many)) a3 st
        have hc : w_reduced_3 [a0, .val (.lst (cur.map Dt.d)), .val (.int many), a3, .no, .no, .no] st = .ok (.bl true) [a0, .val (.lst (cur.map Dt.d)), .val (.int many), a3, .no, .no, .no] st := by
          simp [w_reduced_3]; omega
        obtain ⟨m2, b2, e2⟩ := h2 cur.length a0 a3' (st ++ List.replicate (BK.runsOf (BK.unc cur)).length .dead) hl (by have := hok.len; omega)
        show ∃ many' a3', _ = Fl.nx [a0, .val (.lst ((BK.redF srtH Th.non (n + 1) cur).map Dt.d)), many', a3', .no, .no, .no] _
        rw [BK.redF, if_pos hl]
        refine ⟨m2, b2, whileD_true hc e ?_ (by simp)⟩
        rw [e2]; simp [← List.replicate_append_replicate]
      · refine ⟨(BK.runsOf (BK.unc cur)).length, fun many a0 a3 st hm hm2 => ?_⟩
        obtain ⟨a3', e⟩ := pass_spec hok a0 (.val (.int many)) a3 st
        have hc : w_reduced_3 [a0, .val (.lst (cur.map Dt.d)), .val (.int many), a3, .no, .no, .no] st = .ok (.bl true) [a0, .val (.lst (cur.map Dt.d)), .val (.int many), a3, .no, .no, .no] st := by
          simp [w_reduced_3]; omega
        show ∃ many' a3', _ = Fl.nx [a0, .val (.lst ((BK.redF srtH Th.non (n + 1) cur).map Dt.d)), many', a3', .no, .no, .no] _
        rw [BK.redF, if_neg hl]
        refine ⟨.val (.int cur.length), a3', whileD_true hc e (whileD_false ?_) (by simp)⟩
        simp [w_reduced_3]; omega
  obtain ⟨k, h2⟩ := main (rows.length + 1) rows (by omega) h
  refine ⟨k, fun st => ?_⟩
  obtain ⟨m, b, e⟩ := h2 (rows.length + 1) (.val (.lst (rows.map Dt.d))) .no st (by omega) (by have := h.len; omega)
  simp at e
  simp [d_reduced, b_reduced, e]
def red (rows : List Row) : List Row := redP (rows.length + 1) rows
theorem redP_mem : ∀ (n : Nat) {rows : List Row} {r : Row}, r ∈ redP n rows → r ∈ rows
  | 0, _, _, h => h
  | n + 1, rows, r, h => by
    have h' : r ∈ BK.redF srtH Th.non (n + 1) rows := h
    rw [BK.redF] at h'
    split at h'
    · exact pass_mem (redP_mem n h')
    · exact pass_mem h'
theorem red_mem {rows : List Row} {r : Row} (h : r ∈ red rows) : r ∈ rows := redP_mem _ h
theorem red_ok' (rows : List Row) : BK.Nf Th.non hLe (red rows) ∧ BK.Eqv Th.non rows (red rows) ∧ (red rows).length ≤ rows.length := BK.redF_ok srtH_perm srtH_pw _ rows (by omega)
theorem RowsOk.red {rows : List Row} (h : RowsOk rows) : RowsOk (red rows) := h.sub (fun r hr => red_mem hr) (red_ok' rows).2.2
theorem nf_eq {A B : List Row} (ha : BK.Nf Th.non hLe A) (hb : BK.Nf Th.non hLe B) (h : BK.Eqv Th.non A B) : A = B := BK.nf_uniq hLe_anti (fun h1 h2 n1 n2 he => sorted_ext hLe_anti h1 h2 n1 n2 he) ha hb h
abbrev bookD (rows : List Row) : D := .ins "Book" [("kept_rows", .lst ((red rows).map Dt.d))]
theorem book_init {rows : List Row} (h : RowsOk rows) : ∃ k, ∀ (st : Store) (d : D), (d = .lst (rows.map Dt.d) ∨ d = .tup (rows.map Dt.d) ∨ ∃ l, d = .ref l ∧ st[l]? = some (.lst (rows.map Dt.d))) →
    d_Book___init__ [.ref st.length, d] (st ++ [.ins "Book" []]) = .ok .non [] (st ++ [.ins "Book" [("kept_rows", .lst ((red rows).map Dt.d))]] ++ List.replicate k .dead) := by
  have hz : rows.length ≤ sizeLine := sz _ (by have := h.len; omega)
  obtain ⟨k, e2'⟩ := reduced_spec h
  refine ⟨k, fun st d hd => ?_⟩
  have e2 := e2' (st ++ [.ins "Book" []])
  have e1 : ∀ (gd : Gd) (d : D), okG gd (st ++ [.ins "Book" []]) → lcGo (gT (gsCons (gN 2) (gsCons (gN 3) gsNil))) (chkE gd yesD) (chkE gd e_Book___init___1) [2, 3] (rows.map Dt.d) [] [.val (.ref st.length), .val d, .no, .no] (st ++ [.ins "Book" []]) =
      .ok (.lst (rows.map Dt.d)) [.val (.ref st.length), .val d, .no, .no] (st ++ [.ins "Book" []]) := fun gd d og => by
    have := lc_fmC (g := gT (gsCons (gN 2) (gsCons (gN 3) gsNil))) (c := chkE gd yesD) (e := chkE gd e_Book___init___1) (vs := [2, 3]) (ρ := [.val (.ref st.length), .val d, .no, .no]) (st := st ++ [.ins "Book" []]) (Dt.d (α := Row)) (Dt.d (α := Row)) (fun _ => true) rows fun r hr => by
      simp [chkE, e_Book___init___1, og, row_d, Dt.d]
    rw [List.filter_eq_self.mpr (by simp)] at this
    exact this
  rcases hd with rfl | rfl | ⟨l, rfl, hl⟩
  · have := e1 none (.lst (rows.map Dt.d)) trivial
    simp at this e2
    simp [d_Book___init__, b_Book___init__, hz, this, e2, red]
  · have := e1 none (.tup (rows.map Dt.d)) trivial
    simp at this e2
    simp [d_Book___init__, b_Book___init__, hz, this, e2, red]
  · have hl2 : (st ++ [Cell.ins "Book" []])[l]? = some (.lst (rows.map Dt.d)) := by rw [List.getElem?_append_left (List.getElem?_eq_some_iff.mp hl).1]; exact hl
    have := e1 (some (l, rows.map Dt.d)) (.ref l) hl2
    simp at e2
    simp [d_Book___init__, b_Book___init__, hz, this, e2, red, hl2]
theorem inside_spec (s : HS) (lots : List HS) (st : Store) (h1 : Sm s) (h2 : lots.length ≤ 1000) : d__law_inside [Dt.d s, .lst (lots.map Dt.d)] st = .ok (.bl (lots.any fun o => BK.le s o)) [] st := by
  have hz : s.l.length ≤ sizeLine := sz _ (by have : s.l.length ≤ 1000 := h1; omega)
  have hz2 : lots.length ≤ sizeLine := sz _ (by omega)
  have e1 : ∀ o ∈ lots, lcGo (gN 3) yesD e__law_inside_1 [3] (s.l.map .str) [] [.val (Dt.d s), .val (.lst (lots.map Dt.d)), .val (Dt.d o), .no] st =
      .ok (.lst (s.l.map fun x => .bl (decide (x ∈ o.l)))) [.val (Dt.d s), .val (.lst (lots.map Dt.d)), .val (Dt.d o), .no] st := fun o ho => lc_mapC (g := gN 3) (e := e__law_inside_1) (vs := [3]) D.str _ s.l fun x hx => by
    have := in_hs false x o (s.ok x hx)
    simp [e__law_inside_1, this]
  have e2 := lc_mapC (g := gN 2) (e := e__law_inside_2) (vs := [2]) (ρ := [.val (Dt.d s), .val (.lst (lots.map Dt.d)), .no, .no]) (st := st) (Dt.d (α := HS)) (fun o => .bl (BK.le s o)) lots fun o ho => by
    have := e1 o ho
    have hd : (Dt.d s : D) = .tup (s.l.map .str) := rfl
    rw [hd] at this ⊢
    simp [e__law_inside_2, hz, this, le_def]
  have hd : (Dt.d s : D) = .tup (s.l.map .str) := rfl
  simp [d__law_inside, b__law_inside, hz2, e2]
def fst (rows : List Row) (t : Th) : Nat → Nat
  | 0 => 0
  | f + 1 => if (rows[f]?.map (·.1)) = some t then fst rows t f else f + 1
theorem fst_eq (rows : List Row) (t : Th) : ∀ f, f ≤ rows.length → fst rows t f + (BK.rb (rows.take f) t).length = f
  | 0, _ => by simp [fst, BK.rb]
  | f + 1, h => by
    have hf : f < rows.length := h
    have e : (rows.take (f + 1)).reverse = rows[f] :: (rows.take f).reverse := by rw [List.take_succ_eq_append_getElem hf]; simp
    have ih := fst_eq rows t f (by omega)
    unfold BK.rb at ih ⊢
    rw [fst, e, List.takeWhile_cons, List.getElem?_eq_getElem hf]
    by_cases hd : rows[f].1 = t
    · simp [hd]; omega
    · simp [hd]
theorem need_first {rows : List Row} {l : Nat} {t : Th} {st : Store} (hst : st[l]? = some (.lst (rows.map Dt.d))) (hok : ∀ r ∈ rows, Dt.ok r.1) (ht : Dt.ok t) (a1 a3 a5 a6 a7 a8 a9 : Sl) : ∀ f, f ≤ rows.length →
    whileD w__law_needless_5 f__law_needless_6 [.val (.ref l), a1, .val (Dt.d t), a3, .val (.int f), a5, a6, a7, a8, a9] st = .nx [.val (.ref l), a1, .val (Dt.d t), a3, .val (.int (fst rows t f)), a5, a6, a7, a8, a9] st
  | 0, _ => whileD_false (by simp [w__law_needless_5, fst])
  | f + 1, h => by
    have hf : f < rows.length := h
    have hat : atI (rows.map Dt.d) ((f : Int) + 1 - 1) = some (Dt.d rows[f]) := by
      rw [show (f : Int) + 1 - 1 = (f : Int) by omega, DL.atI_nat]; simp [hf]
    have heq := eq_th (hok rows[f] (List.getElem_mem hf)) ht
    have hpos : (0 : Int) < (f : Int) + 1 := by omega
    rw [fst, List.getElem?_eq_getElem hf]
    by_cases hd : rows[f].1 = t
    · rw [hd] at heq
      simp at heq
      have ih := need_first hst hok ht a1 a3 a5 a6 a7 a8 a9 f (by omega)
      refine whileD_true (ρ1 := [.val (.ref l), a1, .val (Dt.d t), a3, .val (.int ((f + 1 : Nat) : Int)), a5, a6, a7, a8, a9]) (st1 := st) ?_ (ρ2 := [.val (.ref l), a1, .val (Dt.d t), a3, .val (.int f), a5, a6, a7, a8, a9]) (st2 := st) ?_ (by simpa [hd] using ih) (by simp)
      · simp [w__law_needless_5, hst, hpos, row_d, hf, hd, heq]
      · simp [f__law_needless_6]
    · simp [hd] at heq
      refine whileD_false ?_
      simp [w__law_needless_5, hst, hpos, row_d, hf, hd, heq]

theorem need_last {rows : List Row} {l : Nat} {t : Th} {st : Store} (hst : st[l]? = some (.lst (rows.map Dt.d))) (hok : ∀ r ∈ rows, Dt.ok r.1) (ht : Dt.ok t) (a1 a3 a4 a6 a7 a8 a9 : Sl) : ∀ (n i : Nat), i + n = rows.length → i < rows.length →
    whileD w__law_needless_3 f__law_needless_4 [.val (.ref l), a1, .val (Dt.d t), a3, a4, .val (.int i), a6, a7, a8, a9] st = .nx [.val (.ref l), a1, .val (Dt.d t), a3, a4, .val (.int (i + (BK.ra (rows.drop (i + 1)) t).length : Nat)), a6, a7, a8, a9] st
  | 0, i, h, h2 => by omega
  | n + 1, i, h, h2 => by
    by_cases hlt : i + 1 < rows.length
    · have hat : atI (rows.map Dt.d) ((i : Int) + 1) = some (Dt.d rows[i + 1]) := by
        rw [show (i : Int) + 1 = ((i + 1 : Nat) : Int) by omega, DL.atI_nat]; simp [hlt]
      have heq := eq_th (hok rows[i + 1] (List.getElem_mem hlt)) ht
      have hlt' : (i : Int) + 1 < rows.length := by omega
      have ed : rows.drop (i + 1) = rows[i + 1] :: rows.drop (i + 1 + 1) := List.drop_eq_getElem_cons hlt
      by_cases hd : rows[i + 1].1 = t
      · rw [hd] at heq
        simp at heq
        have ih := need_last hst hok ht a1 a3 a4 a6 a7 a8 a9 n (i + 1) (by omega) hlt
        refine whileD_true (ρ1 := [.val (.ref l), a1, .val (Dt.d t), a3, a4, .val (.int i), a6, a7, a8, a9]) (st1 := st) ?_ (ρ2 := [.val (.ref l), a1, .val (Dt.d t), a3, a4, .val (.int ((i + 1 : Nat) : Int)), a6, a7, a8, a9]) (st2 := st) ?_ ?_ (by simp)
        · simp [w__law_needless_3, hst, hlt', row_d, hat, hd, heq]
        · simp [f__law_needless_4]
        · rw [ih, ed]
          unfold BK.ra
          rw [List.takeWhile_cons]
          simp [hd]; omega
      · simp [hd] at heq
        refine whileD_false ?_
        rw [ed]
        unfold BK.ra
        rw [List.takeWhile_cons]
        simp [w__law_needless_3, hst, hlt', row_d, hat, hd, heq]
    · have hlt' : ¬ (i : Int) + 1 < rows.length := by omega
      refine whileD_false ?_
      rw [List.drop_of_length_le (by omega)]
      simp [w__law_needless_3, hst, hlt', BK.ra]
theorem need_others {rows : List Row} {l at' : Nat} {t : Th} {st : Store} (hst : st[l]? = some (.lst (rows.map Dt.d))) (a2 a3 a4 a5 a6 a7 a8 : Sl) (f la : Nat) (hf : f ≤ la + 1) (hla : la < rows.length) :
    ∃ os : List HS, lcGo (gN 9) t__law_needless_2 e__law_needless_1 [9] (rngItems f (la + 1 - f)) [] [.val (.ref l), .val (.int at'), a2, a3, a4, a5, a6, a7, a8, .no] st = .ok (.lst (os.map Dt.d)) [.val (.ref l), .val (.int at'), a2, a3, a4, a5, a6, a7, a8, .no] st ∧
      os.length ≤ rows.length ∧ ∀ s : HS, (os.any fun o => BK.le s o) = true ↔ ∃ j r, f ≤ j ∧ j ≤ la ∧ j ≠ at' ∧ rows[j]? = some r ∧ BK.le s r.2 = true := by
  have ei : rngItems f (la + 1 - f) = (List.range' f (la + 1 - f)).map fun i : Nat => D.int (i : Int) := by
    rw [List.range'_eq_map_range]; simp [rngItems]
  have key := lc_fmC (g := gN 9) (c := t__law_needless_2) (e := e__law_needless_1) (vs := [9]) (ρ := [.val (.ref l), .val (.int at'), a2, a3, a4, a5, a6, a7, a8, .no]) (st := st) (fun i : Nat => D.int (i : Int)) (fun i => Dt.d (rows[i]?.getD (.non, .nil)).2) (fun i => decide (i ≠ at')) (List.range' f (la + 1 - f)) fun i hi => by
    have hi' := List.mem_range'_1.mp hi
    have hlt : i < rows.length := by omega
    by_cases hd : i = at'
    · subst hd; simp [t__law_needless_2]
    · have hd' : ¬ (i : Int) = at' := by omega
      simp [t__law_needless_2, hd, hd', e__law_needless_1, hst, hlt, row_d]; rfl
  refine ⟨((List.range' f (la + 1 - f)).filter fun i => decide (i ≠ at')).map fun i => (rows[i]?.getD (.non, .nil)).2, ?_, ?_, fun s => ?_⟩
  · rw [ei, key, List.map_map]; rfl
  · rw [List.length_map]
    have := List.length_filter_le (fun i => decide (i ≠ at')) (List.range' f (la + 1 - f))
    rw [List.length_range'] at this
    omega
  · rw [List.any_eq_true]
    constructor
    · rintro ⟨o, ho, hl⟩
      obtain ⟨j, hj, rfl⟩ := List.mem_map.mp ho
      obtain ⟨hj1, hj2⟩ := List.mem_filter.mp hj
      have hj' := List.mem_range'_1.mp hj1
      have hlt : j < rows.length := by omega
      rw [List.getElem?_eq_getElem hlt] at hl
      exact ⟨j, rows[j], by omega, by omega, of_decide_eq_true hj2, List.getElem?_eq_getElem hlt, hl⟩
    · rintro ⟨j, r, h1, h2, h3, h4, h5⟩
      refine ⟨r.2, List.mem_map.mpr ⟨j, List.mem_filter.mpr ⟨List.mem_range'_1.mpr ⟨h1, by omega⟩, decide_eq_true h3⟩, by rw [h4]; rfl⟩, h5⟩
theorem rb_any {rows : List Row} {i : Nat} {t : Th} (h : i ≤ rows.length) (p : Row → Bool) : (BK.rb (rows.take i) t).any p = true ↔ ∃ j r, fst rows t i ≤ j ∧ j < i ∧ rows[j]? = some r ∧ p r = true := by
  have hl := fst_eq rows t i h
  have et : BK.rb (rows.take i) t = (rows.take i).reverse.take (BK.rb (rows.take i) t).length := by
    have : BK.rb (rows.take i) t <+: (rows.take i).reverse := List.takeWhile_prefix _
    exact (List.prefix_iff_eq_take.mp this)
  generalize (BK.rb (rows.take i) t).length = k at hl et
  rw [et, List.any_eq_true]
  constructor
  · rintro ⟨r, hr, hp⟩
    obtain ⟨m, hm, e⟩ := List.getElem_of_mem hr
    have hm2 : m < k ∧ m < i := by simp at hm; omega
    have e2 : ((rows.take i).reverse.take k)[m]? = some r := by rw [List.getElem?_eq_getElem hm, e]
    rw [List.getElem?_take_of_lt hm2.1, List.getElem?_reverse (by simp; omega)] at e2
    have hlen : (rows.take i).length = i := by simp; omega
    rw [hlen, List.getElem?_take_of_lt (by omega)] at e2
    exact ⟨i - 1 - m, r, by omega, by omega, e2, hp⟩
  · rintro ⟨j, r, h1, h2, h3, h4⟩
    refine ⟨r, ?_, h4⟩
    have hlen : (rows.take i).length = i := by simp; omega
    have : ((rows.take i).reverse.take k)[i - 1 - j]? = some r := by
      rw [List.getElem?_take_of_lt (by omega), List.getElem?_reverse (by omega), hlen, List.getElem?_take_of_lt (by omega), show i - 1 - (i - 1 - j) = j by omega]
      exact h3
    exact List.mem_of_getElem? this
theorem ra_any {rows : List Row} {i : Nat} {t : Th} (p : Row → Bool) : (BK.ra (rows.drop i) t).any p = true ↔ ∃ j r, i ≤ j ∧ j < i + (BK.ra (rows.drop i) t).length ∧ rows[j]? = some r ∧ p r = true := by
  have et : BK.ra (rows.drop i) t = (rows.drop i).take (BK.ra (rows.drop i) t).length := List.prefix_iff_eq_take.mp (List.takeWhile_prefix _)
  generalize (BK.ra (rows.drop i) t).length = k at et ⊢
  rw [et, List.any_eq_true]
  constructor
  · rintro ⟨r, hr, hp⟩
    obtain ⟨m, hm, e⟩ := List.getElem_of_mem hr
    have hm2 : m < k := by simp at hm; omega
    have e2 : ((rows.drop i).take k)[m]? = some r := by rw [List.getElem?_eq_getElem hm, e]
    rw [List.getElem?_take_of_lt hm2, List.getElem?_drop] at e2
    exact ⟨i + m, r, by omega, by omega, e2, hp⟩
  · rintro ⟨j, r, h1, h2, h3, h4⟩
    refine ⟨r, ?_, h4⟩
    have : ((rows.drop i).take k)[j - i]? = some r := by
      rw [List.getElem?_take_of_lt (by omega), List.getElem?_drop, show i + (j - i) = j by omega]
      exact h3
    exact List.mem_of_getElem? this
theorem eq_emp (s : HS) : pEq (Dt.d s) (.tup []) = some (.bl (decide (s = BK.emp))) := pEq_dt (α := HS) (a := s) (b := BK.emp) trivial trivial
theorem others_any {rows pre post : List Row} {t : Th} {s : HS} {os : List HS} (er : rows = pre ++ (t, s) :: post)
    (h : ∀ s : HS, (os.any fun o => BK.le s o) = true ↔ ∃ j r, fst rows t pre.length ≤ j ∧ j ≤ pre.length + (BK.ra post t).length ∧ j ≠ pre.length ∧ rows[j]? = some r ∧ BK.le s r.2 = true) :
    (os.any fun o => BK.le s o) = ((BK.rb pre t).any (fun q => BK.le s q.2) || (BK.ra post t).any fun q => BK.le s q.2) := by
  have e1 : rows.take pre.length = pre := by rw [er]; simp
  have e2 : rows.drop (pre.length + 1) = post := by rw [er]; simp
  have hb := rb_any (rows := rows) (i := pre.length) (t := t) (by rw [er]; simp) fun q => BK.le s q.2
  have ha := ra_any (rows := rows) (i := pre.length + 1) (t := t) fun q => BK.le s q.2
  rw [e1] at hb
  rw [e2] at ha
  rw [Bool.eq_iff_iff, h, Bool.or_eq_true, hb, ha]
  constructor
  · rintro ⟨j, r, h1, h2, h3, h4, h5⟩
    by_cases hj : j < pre.length
    · exact .inl ⟨j, r, h1, hj, h4, h5⟩
    · exact .inr ⟨j, r, by omega, by omega, h4, h5⟩
  · have hf := fst_eq rows t pre.length (by rw [er]; simp)
    rintro (⟨j, r, h1, h2, h4, h5⟩ | ⟨j, r, h1, h2, h4, h5⟩)
    · exact ⟨j, r, h1, by omega, by omega, h4, h5⟩
    · exact ⟨j, r, by omega, by omega, by omega, h4, h5⟩
theorem need_step {rows pre post : List Row} {l : Nat} {t : Th} {s : HS} {st : Store} (hr : RowsOk rows) (hst : st[l]? = some (.lst (rows.map Dt.d))) (er : rows = pre ++ (t, s) :: post) (a4 a5 a6 : Sl) :
    ∃ b4 b5 b6, f__law_needless_7 [.val (.ref l), .val (.int pre.length), .val (Dt.d t), .val (Dt.d s), a4, a5, a6, .no, .no, .no] st =
      if BK.need Th.non pre (t, s) post then .rt (.int pre.length) [.val (.ref l), .val (.int pre.length), .val (Dt.d t), .val (Dt.d s), b4, b5, b6, .no, .no, .no] st
      else .nx [.val (.ref l), .val (.int pre.length), .val (Dt.d t), .val (Dt.d s), b4, b5, b6, .no, .no, .no] st := by
  have hmem : (t, s) ∈ rows := by rw [er]; simp
  have hs := hr.sm _ hmem
  have ht := hr.ok _ hmem
  have hL := hr.len
  have hlen : rows.length = pre.length + 1 + post.length := by rw [er]; simp; omega
  have e2 : rows.drop (pre.length + 1) = post := by rw [er]; simp
  have hz : post.length ≤ sizeLine := sz _ (by omega)
  have hc : cutD (rows.map Dt.d) (some ((pre.length : Int) + 1)) none = post.map Dt.d := by
    rw [show ((pre.length : Int) + 1) = ((pre.length + 1 : Nat) : Int) by omega, cutD_from, ← List.map_drop, e2]
  have e3 := lc_mapC (g := gT (gsCons (gN 7) (gsCons (gN 8) gsNil))) (e := vr 8) (vs := [7, 8]) (ρ := [.val (.ref l), .val (.int pre.length), .val (Dt.d t), .val (Dt.d s), a4, a5, a6, .no, .no, .no]) (st := st) (Dt.d (α := Row)) (fun r : Row => Dt.d r.2) post fun r hr => by simp [row_d]; rfl
  have e3' : post.map (fun r : Row => (Dt.d r.2 : D)) = (post.map (·.2)).map Dt.d := by rw [List.map_map]; rfl
  rw [e3'] at e3
  have e4 := inside_spec s (post.map (·.2)) st hs (by simp; omega)
  rw [List.any_map] at e4
  have hemp := eq_emp s
  have hds : (Dt.d s : D) = .tup (s.l.map .str) := rfl
  have hk : BK.need Th.non pre (t, s) post = (decide (s = BK.emp) || post.any (fun q => BK.le s q.2) || ((decide (fst rows t pre.length = 0) && decide (t = Th.non)) || ((BK.rb pre t).any (fun q => BK.le s q.2) || (BK.ra post t).any fun q => BK.le s q.2))) := by
    unfold BK.need
    have hf := fst_eq rows t pre.length (by omega)
    have e1 : rows.take pre.length = pre := by rw [er]; simp
    rw [e1] at hf
    congr 2
    congr 1
    simp only [decide_eq_decide]
    omega
  rw [hk]
  have e4' : d__law_inside [Dt.d s, .lst ((post.map (·.2)).map Dt.d)] st = .ok (.bl (post.any fun q => BK.le s q.2)) [] st := e4
  clear e4
  generalize post.map (·.2) = lots at e3 e4'
  cases c1 : decide (s = BK.emp) with
  | true =>
    rw [c1] at hemp
    refine ⟨a4, a5, a6, ?_⟩
    simp [f__law_needless_7, hemp]
  | false =>
    rw [c1] at hemp
    cases c2 : post.any fun q => BK.le s q.2 with
    | true =>
      rw [c2] at e4'
      refine ⟨a4, a5, a6, ?_⟩
      simp [f__law_needless_7, hemp, hst, hc, hz, e3, e4']
    | false =>
      rw [c2] at e4'
      have w1 := need_first (l := l) (t := t) hst hr.ok ht (.val (.int pre.length)) (.val (Dt.d s)) (.val (.int pre.length)) a6 .no .no .no pre.length (by omega)
      have w2 := need_last (l := l) (t := t) hst hr.ok ht (.val (.int pre.length)) (.val (Dt.d s)) (.val (.int (fst rows t pre.length))) a6 .no .no .no (post.length + 1) pre.length (by omega) (by omega)
      rw [e2] at w2
      have hf := fst_eq rows t pre.length (by omega)
      have hral : (BK.ra post t).length ≤ post.length := (List.takeWhile_prefix _).length_le
      obtain ⟨os, e5, h5, h6⟩ := need_others (at' := pre.length) (t := t) hst (.val (Dt.d t)) (.val (Dt.d s)) (.val (.int (fst rows t pre.length))) (.val (.int (pre.length + (BK.ra post t).length : Nat))) a6 .no .no (fst rows t pre.length) (pre.length + (BK.ra post t).length) (by omega) (by omega)
      have h7 := others_any er h6
      have e8 := inside_spec s os st hs (by omega)
      rw [h7] at e8
      have hr1 : Rg (fst rows t pre.length : Int) := .of (by omega) (by omega)
      have hr2 : Rg ((pre.length : Int) + ((BK.ra post t).length : Int) + 1) := .of (by omega) (by omega)
      have htn : ((pre.length : Int) + ((BK.ra post t).length : Int) + 1 - (fst rows t pre.length : Int)).toNat = pre.length + (BK.ra post t).length + 1 - fst rows t pre.length := by omega
      have hzr : (rngItems (fst rows t pre.length) (pre.length + (BK.ra post t).length + 1 - fst rows t pre.length)).length ≤ sizeLine := by
        have : (rngItems (fst rows t pre.length) (pre.length + (BK.ra post t).length + 1 - fst rows t pre.length)).length = pre.length + (BK.ra post t).length + 1 - fst rows t pre.length := by unfold rngItems; rw [List.length_map, List.length_range]
        rw [this]; exact sz _ (by omega)
      refine ⟨.val (.int (fst rows t pre.length)), .val (.int (pre.length + (BK.ra post t).length : Nat)), .val (.lst (os.map Dt.d)), ?_⟩
      simp at w2 e5
      cases c3 : decide (fst rows t pre.length = 0) with
      | false =>
        have c3' : ¬ fst rows t pre.length = 0 := of_decide_eq_false c3
        cases c4 : ((BK.rb pre t).any (fun q => BK.le s q.2) || (BK.ra post t).any fun q => BK.le s q.2) with
        | true =>
          rw [c4] at e8
          simp [f__law_needless_7, hemp, hst, hc, hz, e3, e4', w1, w2, hr1, hr2, htn, hzr, e5, c3', e8]
        | false =>
          rw [c4] at e8
          simp [f__law_needless_7, hemp, hst, hc, hz, e3, e4', w1, w2, hr1, hr2, htn, hzr, e5, c3', e8]
      | true =>
        cases c5 : decide (t = Th.non) with
        | true =>
          simp [f__law_needless_7, hemp, hst, hc, hz, e3, e4', w1, w2, hr1, hr2, htn, hzr, e5, c3, c5]
        | false =>
          cases c4 : ((BK.rb pre t).any (fun q => BK.le s q.2) || (BK.ra post t).any fun q => BK.le s q.2) with
          | true =>
            rw [c4] at e8
            simp [f__law_needless_7, hemp, hst, hc, hz, e3, e4', w1, w2, hr1, hr2, htn, hzr, e5, c3, c5, e8]
          | false =>
            rw [c4] at e8
            simp [f__law_needless_7, hemp, hst, hc, hz, e3, e4', w1, w2, hr1, hr2, htn, hzr, e5, c3, c5, e8]

def idD : Option Nat → D
  | none => .non
  | some i => .int (i : Nat)
theorem row_dd (t : Th) (s : HS) : (Dt.d ((t, s) : Row) : D) = .tup [Dt.d t, Dt.d s] := rfl
theorem needless_spec {rows : List Row} {l : Nat} {st : Store} (hr : RowsOk rows) (hst : st[l]? = some (.lst (rows.map Dt.d))) :
    d__law_needless [.ref l] st = .ok (idD (BK.needGo Th.non [] rows)) [] st := by
  have main : ∀ (post pre : List Row) (x1 x2 x3 x4 x5 x6 : Sl), rows = pre ++ post → ∃ ρ' : En, forD (gT (gsCons (gN 1) (gsCons (gT (gsCons (gN 2) (gsCons (gN 3) gsNil))) gsNil))) (chkS (some (l, rows.map Dt.d)) f__law_needless_7) ((post.zipIdx pre.length).map fun p => D.tup [.int (p.2 : Int), Dt.d p.1]) [.val (.ref l), x1, x2, x3, x4, x5, x6, .no, .no, .no] st =
      match BK.needGo Th.non pre post with | none => .nx ρ' st | some i => .rt (.int (i : Nat)) ρ' st := by
    intro post
    induction post with
    | nil => intro pre x1 x2 x3 x4 x5 x6 _; exact ⟨_, rfl⟩
    | cons r post ih =>
      obtain ⟨t, s⟩ := r
      intro pre x1 x2 x3 x4 x5 x6 er
      obtain ⟨b4, b5, b6, e⟩ := need_step hr hst er x4 x5 x6
      rw [BK.needGo]
      cases hn : BK.need Th.non pre (t, s) post with
      | true =>
        rw [hn] at e
        refine ⟨[.val (.ref l), .val (.int pre.length), .val (Dt.d t), .val (Dt.d s), b4, b5, b6, .no, .no, .no], ?_⟩
        rw [List.zipIdx_cons, List.map_cons, forD, row_dd]
        simp at e
        simp [chkS, e]
      | false =>
        rw [hn] at e
        obtain ⟨ρ', e2⟩ := ih (pre ++ [(t, s)]) (.val (.int pre.length)) (.val (Dt.d t)) (.val (Dt.d s)) b4 b5 b6 (by simp [er])
        refine ⟨ρ', ?_⟩
        rw [List.zipIdx_cons, List.map_cons, forD, row_dd]
        simp at e e2
        simp [chkS, e, hst]
        exact e2
  obtain ⟨ρ', e⟩ := main rows [] .no .no .no .no .no .no rfl
  simp only [List.length_nil] at e
  cases hn : BK.needGo Th.non [] rows with
  | none =>
    rw [hn] at e
    simp [d__law_needless, b__law_needless, hst, enumItems_map, e, idD]
  | some i =>
    rw [hn] at e
    simp [d__law_needless, b__law_needless, hst, enumItems_map, e, idD]
theorem ordB_hs (a b : HS) : ordB (fun d e => PySem.W.dataLt e d) (Dt.d a) (Dt.d b) = some (.bl (!hLe a b)) := pGtX_hs a b
theorem behind_spec (q : Row) (t : Th) (s : HS) (st : Store) (hq : Dt.ok q.1) (ht : Dt.ok t) : d__law_is_behind [Dt.d q, Dt.d t, Dt.d s] st = .ok (.bl (decide (q.1 = t) && !hLe q.2 s)) [] st := by
  have h1 := eq_th hq ht
  obtain ⟨u, z⟩ := q
  rw [row_dd]
  by_cases hd : u = t
  · simp [hd] at h1
    simp [d__law_is_behind, b__law_is_behind, h1, ordB_hs, hd]
  · simp [hd] at h1
    simp [d__law_is_behind, b__law_is_behind, h1, hd]
def plc (F : List Row) (t : Th) (s : HS) : Nat → Nat
  | 0 => 0
  | p + 1 => if (F[p]?.map fun q => decide (q.1 = t) && !hLe q.2 s) = some true then plc F t s p else p + 1
theorem plc_le (F : List Row) (t : Th) (s : HS) : ∀ p, plc F t s p ≤ p
  | 0 => Nat.le_refl _
  | p + 1 => by
    have := plc_le F t s p
    rw [plc]; split <;> omega
theorem plc_ins (F : List Row) (t : Th) (s : HS) : ∀ p, p ≤ F.length → ((F.take p).take (plc F t s p) ++ [(t, s)] ++ (F.take p).drop (plc F t s p)).reverse = BK.insR hLe (F.take p).reverse (t, s)
  | 0, _ => by simp [plc, BK.insR]
  | p + 1, h => by
    have hp : p < F.length := h
    have e : F.take (p + 1) = F.take p ++ [F[p]] := List.take_succ_eq_append_getElem hp
    have er : (F.take (p + 1)).reverse = F[p] :: (F.take p).reverse := by rw [e]; simp
    have hle := plc_le F t s p
    have ih := plc_ins F t s p (by omega)
    have hlen : (F.take p).length = p := by simp; omega
    rw [er, BK.insR, plc, List.getElem?_eq_getElem hp]
    by_cases hc : F[p].1 = t ∧ hLe F[p].2 s = false
    · rw [if_pos (by simp [hc]), if_pos hc, ← ih, e, List.take_append_of_le_length (by omega), List.drop_append_of_le_length (by omega)]
      simp
    · rw [if_neg (by simp; exact fun h => by cases e2 : hLe F[p].2 s with
        | true => rfl
        | false => exact absurd ⟨h, e2⟩ hc), if_neg hc, e]
      rw [List.take_of_length_le (by simp; omega), List.drop_of_length_le (by simp; omega)]
      simp
theorem ins_while {F : List Row} {t : Th} {s : HS} {st : Store} {a0 a1 a2 : Sl} (hF : ∀ r ∈ F, Dt.ok r.1) (ht : Dt.ok t) : ∀ p, p ≤ F.length →
    whileD w__law_reduced_1 f__law_reduced_2 [a0, a1, a2, .ml (F.map Dt.d), .val (Dt.d t), .val (Dt.d s), .val (.int p)] st = .nx [a0, a1, a2, .ml (F.map Dt.d), .val (Dt.d t), .val (Dt.d s), .val (.int (plc F t s p))] st
  | 0, _ => whileD_false (by simp [w__law_reduced_1, plc])
  | p + 1, h => by
    have hp : p < F.length := h
    have hpos : (0 : Int) < (p : Int) + 1 := by omega
    have hb := behind_spec F[p] t s st (hF _ (List.getElem_mem hp)) ht
    have hat : atI (F.map Dt.d) ((p : Int) + 1 - 1) = some (Dt.d F[p]) := by rw [show (p : Int) + 1 - 1 = (p : Int) by omega, DL.atI_nat]; simp [hp]
    have hw : w__law_reduced_1 [a0, a1, a2, .ml (F.map Dt.d), .val (Dt.d t), .val (Dt.d s), .val (.int ((p + 1 : Nat) : Int))] st = .ok (.bl (decide (F[p].1 = t) && !hLe F[p].2 s)) [a0, a1, a2, .ml (F.map Dt.d), .val (Dt.d t), .val (Dt.d s), .val (.int ((p + 1 : Nat) : Int))] st := by
      simp [w__law_reduced_1, hpos, hp, hb]
    rw [plc, List.getElem?_eq_getElem hp]
    cases hc : decide (F[p].1 = t) && !hLe F[p].2 s with
    | true =>
      rw [hc] at hw
      refine whileD_true hw (ρ2 := [a0, a1, a2, .ml (F.map Dt.d), .val (Dt.d t), .val (Dt.d s), .val (.int p)]) (st2 := st) (by simp [f__law_reduced_2]) ?_ (by simp)
      rw [ins_while hF ht p (by omega)]
      simp [hc]
    | false =>
      rw [hc] at hw
      rw [whileD_false hw]
      simp [hc]
theorem ins_step {F : List Row} {t : Th} {s : HS} {st : Store} {a0 a1 a2 a6 : Sl} (hF : ∀ r ∈ F, Dt.ok r.1) (ht : Dt.ok t) (hl : F.length ≤ 1000) : ∃ (F' : List Row) (p : Sl),
    f__law_reduced_3 [a0, a1, a2, .ml (F.map Dt.d), .val (Dt.d t), .val (Dt.d s), a6] st = .nx [a0, a1, a2, .ml (F'.map Dt.d), .val (Dt.d t), .val (Dt.d s), p] st ∧ F'.reverse = BK.insR hLe F.reverse (t, s) := by
  have w := ins_while (a0 := a0) (a1 := a1) (a2 := a2) (s := s) (st := st) hF ht F.length (Nat.le_refl _)
  have hle := plc_le F t s F.length
  have hp := plc_ins F t s F.length (Nat.le_refl _)
  rw [List.take_length] at hp
  have hz : F.length < sizeLine := by rw [sizeLine_eq]; omega
  have hrs : Rs (plc F t s F.length : Int) := .of (by omega) (by omega)
  refine ⟨F.take (plc F t s F.length) ++ [(t, s)] ++ F.drop (plc F t s F.length), .val (.int (plc F t s F.length)), ?_, hp⟩
  simp [f__law_reduced_3, w, hz, hrs, row_dd, List.map_take, List.map_drop]
theorem insR_len (F : List Row) (r : Row) : (BK.insR hLe F r).length = F.length + 1 := by
  induction F with
  | nil => rfl
  | cons q F ih =>
    rw [BK.insR]
    split <;> simp [ih]
theorem insR_mem {F : List Row} {r x : Row} (h : x ∈ BK.insR hLe F r) : x = r ∨ x ∈ F := by
  induction F with
  | nil => simp [BK.insR] at h; exact .inl h
  | cons q F ih =>
    rw [BK.insR] at h
    split at h
    · rcases List.mem_cons.mp h with rfl | h
      · exact .inr (List.mem_cons_self ..)
      · exact (ih h).imp id (List.mem_cons_of_mem _)
    · rcases List.mem_cons.mp h with rfl | h
      · exact .inl rfl
      · exact .inr h
def lred (rows : List Row) : List Row := BK.insAll hLe (BK.lawF Th.non (rows.length + 1) rows)
theorem lawF_sub : ∀ (n : Nat) (rows : List Row), (BK.lawF Th.non n rows).Sublist rows
  | 0, _ => List.Sublist.refl _
  | n + 1, rows => by
    rw [BK.lawF]
    split
    · exact List.Sublist.refl _
    · exact (lawF_sub n _).trans (List.eraseIdx_sublist ..)
theorem lawF_ok' (rows : List Row) : BK.Red Th.non (BK.lawF Th.non (rows.length + 1) rows) ∧ BK.Eqv Th.non rows (BK.lawF Th.non (rows.length + 1) rows) := BK.lawF_ok (non := Th.non) (rows.length + 1) rows (by omega)
theorem lred_eq (rows : List Row) : lred rows = red rows := by
  obtain ⟨h1, h2⟩ := lawF_ok' rows
  obtain ⟨h3, h4⟩ := BK.ins_nf (hle := hLe) (fun a b => hLe_total.total a b) (fun a b c => hLe_total.trans a b c) (BK.red_rf h1)
  exact nf_eq h3 (red_ok' rows).1 ((h4.symm.trans h2.symm).trans (red_ok' rows).2.1)
theorem RowsOk.erase {rows : List Row} (h : RowsOk rows) (i : Nat) : RowsOk (rows.eraseIdx i) := h.sub (fun r hr => (List.eraseIdx_sublist ..).subset hr) (List.eraseIdx_sublist ..).length_le
theorem erase_map {α β : Type} (f : α → β) : ∀ (l : List α) (i : Nat), (l.map f).eraseIdx i = (l.eraseIdx i).map f
  | [], _ => rfl
  | _ :: _, 0 => rfl
  | x :: l, i + 1 => by simp [erase_map f l i]
theorem law_while {l : Nat} {a0 : Sl} : ∀ (n : Nat) (rows : List Row) (st : Store), rows.length < n → RowsOk rows → st[l]? = some (.lst (rows.map Dt.d)) →
    whileD w__law_reduced_4 f__law_reduced_5 [a0, .val (.ref l), .val (idD (BK.needGo Th.non [] rows)), .no, .no, .no, .no] st =
      .nx [a0, .val (.ref l), .val .non, .no, .no, .no, .no] (st.set l (.lst ((BK.lawF Th.non n rows).map Dt.d)))
  | 0, _, _, h, _, _ => by omega
  | n + 1, rows, st, h, hr, hst => by
    rw [BK.lawF]
    cases hn : BK.needGo Th.non [] rows with
    | none =>
      simp only [idD]
      rw [set_self hst]
      exact whileD_false (by simp [w__law_reduced_4, idD])
    | some i =>
      simp only [idD]
      obtain ⟨hi, _⟩ := BK.needGo_some hn
      simp only [List.nil_append] at hi
      obtain ⟨hll, _⟩ := List.getElem?_eq_some_iff.mp hst
      have hst2 : (st.set l (.lst ((rows.eraseIdx i).map Dt.d)))[l]? = some (.lst ((rows.eraseIdx i).map Dt.d)) := by simp [hll]
      have hnd := needless_spec (hr.erase i) hst2
      have ih := law_while (a0 := a0) n (rows.eraseIdx i) _ (by rw [List.length_eraseIdx_of_lt hi]; omega) (hr.erase i) hst2
      have hL := hr.len
      have hrs : Rs (i : Int) := .of (by omega) (by omega)
      have hsx : seqIndex? (i : Int) rows.length = some i := by
        have h0 : ¬ ((i : Int) < 0) := by omega
        simp [seqIndex?, h0, hi]
      refine whileD_true (ρ1 := [a0, .val (.ref l), .val (.int i), .no, .no, .no, .no]) (st1 := st) (by simp [w__law_reduced_4, idD]) (ρ2 := [a0, .val (.ref l), .val (idD (BK.needGo Th.non [] (rows.eraseIdx i))), .no, .no, .no, .no]) (st2 := st.set l (.lst ((rows.eraseIdx i).map Dt.d))) ?_ ?_ (by simp)
      · have em : (rows.map Dt.d).eraseIdx i = (rows.eraseIdx i).map (Dt.d (α := Row)) := erase_map _ rows i
        simp only [f__law_reduced_5, seqD, exprD, thenF, mutD, holdsL, aCons, aNil, vr, R.bind]
        simp [hst, hrs, hsx, hi, em, hnd]
      · rw [ih]; simp

theorem law_reduced_spec {rows : List Row} {d : D} {st : Store} (hr : RowsOk rows) (hd : seen st (.val d) = some (.lst (rows.map Dt.d))) : ∃ c : Cell, d__law_reduced [d] st = .ok (.lst ((lred rows).map Dt.d)) [] (st ++ [c]) := by
  have hst : (st ++ [Cell.lst (rows.map Dt.d)])[st.length]? = some (.lst (rows.map Dt.d)) := by simp
  have hnd := needless_spec hr hst
  have w := law_while (l := st.length) (a0 := .val d) (rows.length + 1) rows (st ++ [.lst (rows.map Dt.d)]) (by omega) hr hst
  generalize hL : BK.lawF Th.non (rows.length + 1) rows = left at w
  have hset : (st ++ [Cell.lst (rows.map Dt.d)]).set st.length (.lst (left.map Dt.d)) = st ++ [.lst (left.map Dt.d)] := by
    rw [List.set_append_right _ _ (Nat.le_refl _)]; simp
  rw [hset] at w
  have hsub : left.Sublist rows := by rw [← hL]; exact lawF_sub _ _
  have hlen := hsub.length_le
  have hok := hr.len
  have hst2 : (st ++ [Cell.lst (left.map Dt.d)])[st.length]? = some (.lst (left.map Dt.d)) := by simp
  obtain ⟨ρ', st', e, F, x4, x5, x6, rfl, rfl, h1, h2⟩ := forD_pre (g := gT (gsCons (gN 4) (gsCons (gN 5) gsNil))) (b := chkS (some (st.length, left.map Dt.d)) f__law_reduced_3) (Dt.d (α := Row))
    (fun p ρ st' => ∃ (F : List Row) (x4 x5 x6 : Sl), ρ = [.val d, .val (.ref st.length), .val .non, .ml (F.map Dt.d), x4, x5, x6] ∧ st' = st ++ [Cell.lst (left.map Dt.d)] ∧ F.reverse = p.foldl (BK.insR hLe) [] ∧ ∀ r ∈ F, r ∈ p) left [] [.val d, .val (.ref st.length), .val .non, .ml [], .no, .no, .no] (st ++ [Cell.lst (left.map Dt.d)]) ⟨[], .no, .no, .no, rfl, rfl, rfl, fun _ h => by cases h⟩ (by
      rintro p ⟨t, s⟩ q ρ st' he ⟨F, x4, x5, x6, rfl, rfl, h1, h2⟩
      rw [List.nil_append] at he
      have hm : ∀ r ∈ F, r ∈ left := fun r hr => by rw [he]; exact List.mem_append_left _ (h2 r hr)
      have hFl : F.length = p.length := by
        have : ∀ (q : List Row) (G : List Row), (q.foldl (BK.insR hLe) G).length = G.length + q.length := by
          intro q
          induction q with
          | nil => intro G; rfl
          | cons a q ih => intro G; rw [List.foldl_cons, ih, insR_len]; simp; omega
        have e := congrArg List.length h1
        rw [this] at e
        simpa using e
      have hpl : p.length ≤ 1000 := by have := congrArg List.length he; simp at this; omega
      obtain ⟨F', p6, e', h3⟩ := ins_step (F := F) (t := t) (s := s) (st := st ++ [Cell.lst (left.map Dt.d)]) (a0 := .val d) (a1 := .val (.ref st.length)) (a2 := .val .non) (a6 := x6) (fun r hr' => hr.ok r (hsub.subset (hm r hr'))) (hr.ok (t, s) (hsub.subset (by rw [he]; simp))) (by omega)
      refine ⟨[.val d, .val (.ref st.length), .val .non, .ml (F.map Dt.d), .val (Dt.d t), .val (Dt.d s), x6], [.val d, .val (.ref st.length), .val .non, .ml (F'.map Dt.d), .val (Dt.d t), .val (Dt.d s), p6], st ++ [Cell.lst (left.map Dt.d)], by simp [row_dd], .inl (chkS_some e' hst2), F', _, _, _, rfl, rfl, ?_, fun r hr' => ?_⟩
      · rw [h3, h1, List.foldl_append]; rfl
      · have : r ∈ F'.reverse := List.mem_reverse.mpr hr'
        rw [h3] at this
        rcases insR_mem this with rfl | h
        · simp
        · exact List.mem_append_left _ (h2 r (List.mem_reverse.mp h)))
  rw [List.nil_append] at h1
  have hF : F = lred rows := by
    unfold lred BK.insAll
    rw [hL, ← h1, List.reverse_reverse]
  refine ⟨.lst (left.map Dt.d), ?_⟩
  rw [← hF]
  simp [d__law_reduced, b__law_reduced, hd, hnd, w, e]
theorem pEq_str {a b : Str} (ha : okS a) (hb : okS b) : pEq (.str a) (.str b) = some (.bl (decide (a = b))) := pEq_dt (α := Str) ha hb
inductive Pl : Nat → D → Prop
  | non (n : Nat) : Pl n .non
  | bl (n : Nat) (b : Bool) : Pl n (.bl b)
  | int (n : Nat) (i : Int) : Pl n (.int i)
  | str (n : Nat) (s : Str) : okS s → Pl n (.str s)
  | lst (n : Nat) (ds : List D) : ds.length ≤ 1000000 → (∀ d ∈ ds, Pl n d) → Pl (n + 1) (.lst ds)
  | tup (n : Nat) (ds : List D) : ds.length ≤ 1000000 → (∀ d ∈ ds, Pl n d) → Pl (n + 1) (.tup ds)
theorem same_spec : ∀ (n : Nat) (d : D) (st : Store), Pl n d → d__law_same (n + 1) [d, d] st = .ok (.bl true) [] st := by
  intro n
  induction n with
  | zero =>
    intro d st h
    cases h with
    | non =>
      have : pEq .non .non = some (.bl true) := pEq_dt (α := Th) (a := .non) (b := .non) trivial trivial
      simp [d__law_same, b__law_same, this]
    | bl _ b => simp [d__law_same, b__law_same]
    | int _ i => simp [d__law_same, b__law_same]
    | str _ s hs =>
      have : pEq (.str s) (.str s) = some (.bl true) := by rw [pEq_str hs hs]; simp
      simp [d__law_same, b__law_same, this]
  | succ n ih =>
    intro d st h
    have seq : ∀ (ds : List D) (x : D), (∀ d ∈ ds, Pl n d) → lcGo (gT (gsCons (gN 2) (gsCons (gN 3) gsNil))) yesD (e__law_same_1 (d__law_same (n + 1))) [2, 3] (zipItems ds ds) [] [.val x, .val x, .no, .no] st = .ok (.lst (ds.map fun _ => .bl true)) [.val x, .val x, .no, .no] st := fun ds x hd => by
      have e : zipItems ds ds = ds.map fun d => .tup [d, d] := by
        unfold zipItems
        induction ds with
        | nil => rfl
        | cons a ds ih => simp [ih fun d h => hd d (List.mem_cons_of_mem _ h)]
      rw [e]
      exact lc_mapC (g := gT (gsCons (gN 2) (gsCons (gN 3) gsNil))) (e := e__law_same_1 (d__law_same (n + 1))) (vs := [2, 3]) (fun d => .tup [d, d]) (fun _ => .bl true) ds fun d hd' => by
        simp [e__law_same_1, ih d st (hd d hd')]
    cases h with
    | non =>
      have : pEq .non .non = some (.bl true) := pEq_dt (α := Th) (a := .non) (b := .non) trivial trivial
      rw [d__law_same]; simp [b__law_same, this]
    | bl _ b => rw [d__law_same]; simp [b__law_same]
    | int _ i => rw [d__law_same]; simp [b__law_same]
    | str _ s hs =>
      have : pEq (.str s) (.str s) = some (.bl true) := by rw [pEq_str hs hs]; simp
      rw [d__law_same]; simp [b__law_same, this]
    | lst _ ds hl hd =>
      have e := seq ds (.lst ds) hd
      have hz : (zipItems ds ds).length ≤ sizeLine := by simp [zipItems]; exact sz _ hl
      rw [d__law_same]
      simp [b__law_same, hz, e]
    | tup _ ds hl hd =>
      have e := seq ds (.tup ds) hd
      have hz : (zipItems ds ds).length ≤ sizeLine := by simp [zipItems]; exact sz _ hl
      rw [d__law_same]
      simp [b__law_same, hz, e]
theorem Pl.mono {n m : Nat} {d : D} (h : Pl n d) (l : n ≤ m) : Pl m d := by
  induction h generalizing m with
  | non => exact .non _
  | bl => exact .bl _ _
  | int => exact .int _ _
  | str _ _ hs => exact .str _ _ hs
  | lst n ds hl _ ih =>
    cases m with
    | zero => omega
    | succ m => exact .lst m ds hl fun d hd => ih d hd (by omega)
  | tup n ds hl _ ih =>
    cases m with
    | zero => omega
    | succ m => exact .tup m ds hl fun d hd => ih d hd (by omega)
theorem pl_th {t : Th} (h : Dt.ok t) : Pl 1 (Dt.d t) := by
  cases t with
  | non => exact .non _
  | nm s => exact .str _ _ h
  | later s =>
    refine .tup 0 _ (by simp) fun d hd => ?_
    simp at hd
    rcases hd with rfl | rfl
    · exact .str _ _ (by unfold okS; decide)
    · exact .str _ _ h
theorem pl_hs {s : HS} (h : Sm s) : Pl 1 (Dt.d s) := by
  refine .tup 0 _ (by have : s.l.length ≤ 1000 := h; simp; omega) fun d hd => ?_
  obtain ⟨x, hx, rfl⟩ := List.mem_map.mp hd
  exact .str _ _ (s.ok x hx)
theorem pl_rows {rows : List Row} (h : RowsOk rows) : Pl 3 (.lst (rows.map Dt.d)) := by
  refine .lst 2 _ (by have := h.len; simp; omega) fun d hd => ?_
  obtain ⟨r, hr, rfl⟩ := List.mem_map.mp hd
  refine .tup 1 _ (by simp) fun d hd => ?_
  simp at hd
  rcases hd with rfl | rfl
  · exact pl_th (h.ok r hr)
  · exact pl_hs (h.sm r hr)
theorem pl_runs {rows : List Row} (h : RowsOk rows) : Pl 4 (.lst ((BK.runsOf rows).map Dt.d)) := by
  have hl := BK.runsOf_len rows
  refine .lst 3 _ (by have := h.len; simp; omega) fun d hd => ?_
  obtain ⟨p, hp, rfl⟩ := List.mem_map.mp hd
  have hm : ∀ s ∈ p.2, (p.1, s) ∈ rows := fun s hs => by
    have := BK.mem_flat hp hs
    rwa [BK.flat_runsOf] at this
  have hpl := BK.runsOf_lot hp
  obtain ⟨x, hx⟩ := List.exists_mem_of_ne_nil _ (BK.runsOf_ne rows p hp)
  refine .tup 2 _ (by simp) fun d hd => ?_
  simp at hd
  rcases hd with rfl | rfl
  · exact (pl_th (h.ok _ (hm x hx))).mono (by omega)
  · refine .lst 1 _ (by have := h.len; simp; omega) fun d hd => ?_
    obtain ⟨s, hs, rfl⟩ := List.mem_map.mp hd
    exact pl_hs (h.sm _ (hm s hs))
theorem same_8 {n : Nat} {d : D} (st : Store) (h : Pl n d) (hn : n ≤ 7) : d__law_same 8 [d, d] st = .ok (.bl true) [] st := same_spec 7 d st (h.mono hn)
theorem emp_snoc {α : Type} (a : List α) (b : α) : (a ++ [b]).isEmpty = false := by cases a <;> rfl
theorem lruns_step {rows pre : List Row} {t : Th} {s : HS} {st : Store} (hp : pre.length ≤ 1000) (hok : ∀ r ∈ pre, Dt.ok r.1) (ht : Dt.ok t) :
    f__law_runs_1 [.val (.lst (rows.map Dt.d)), .ml (tab st.length (BK.runsOf pre)), .val (Dt.d t), .val (Dt.d s)] (st ++ cel (BK.runsOf pre)) =
      .nx [.val (.lst (rows.map Dt.d)), .ml (tab st.length (BK.runsOf (pre ++ [(t, s)]))), .val (Dt.d t), .val (Dt.d s)] (st ++ cel (BK.runsOf (pre ++ [(t, s)]))) := by
  have hl := BK.runsOf_len pre
  rcases List.eq_nil_or_concat (BK.runsOf pre) with e | ⟨init, p, e⟩
  · have := BK.runsOf_nil e
    subst this
    have e2 : BK.runsOf ([] ++ [(t, s)]) = [(t, [s])] := rfl
    rw [e, e2]
    simp [f__law_runs_1, tab, cel, sizeLine_eq]
  · rw [List.concat_eq_append] at e
    obtain ⟨t', lot⟩ := p
    have hl2 : lot.length ≤ pre.length := BK.runsOf_lot (p := (t', lot)) (by rw [e]; simp)
    have hil : init.length + 1 ≤ pre.length := by rw [e] at hl; simpa using hl
    have hz : init.length + 1 < sizeLine := by rw [sizeLine_eq]; omega
    have hz2 : lot.length < sizeLine := by rw [sizeLine_eq]; omega
    have ht' : Dt.ok t' := by
      have hm : (t', lot) ∈ BK.runsOf pre := by rw [e]; simp
      have hne := BK.runsOf_ne pre _ hm
      obtain ⟨x, hx⟩ := List.exists_mem_of_ne_nil _ hne
      have := BK.mem_flat hm hx
      rw [BK.flat_runsOf] at this
      exact hok _ this
    have heq := eq_th ht' ht
    have hat := atI_m1 (tab st.length init) (D.tup [Dt.d t', .ref (st.length + init.length)])
    have hc : (st ++ (cel init ++ [Cell.lst (lot.map Dt.d)]))[st.length + init.length]? = some (.lst (lot.map Dt.d)) := by
      rw [List.getElem?_append_right (by omega), List.getElem?_append_right (by rw [cel_len]; omega)]
      simp [cel_len]
    have hs : (st ++ (cel init ++ [Cell.lst (lot.map Dt.d)])).set (st.length + init.length) (.lst (lot.map Dt.d ++ [Dt.d s])) = st ++ (cel init ++ [.lst (lot.map Dt.d ++ [Dt.d s])]) := by
      rw [List.set_append_right _ _ (by omega), List.set_append_right _ _ (by rw [cel_len]; omega)]
      simp [cel_len]
    by_cases hd : t' = t
    · subst hd
      rw [BK.runsOf_same e, e, tab_same st.length init t' (lot ++ [s]) lot, tab_snoc, cel_snoc, cel_snoc]
      simp at heq
      simp [f__law_runs_1, hat, emp_snoc, th_seen, heq, tab_len, hc, hz2, hs]
    · rw [BK.runsOf_diff e hd, e, tab_snoc st.length (init ++ [(t', lot)]), tab_snoc, cel_snoc, cel_snoc]
      simp [hd] at heq
      simp [f__law_runs_1, hat, emp_snoc, th_seen, heq, tab_len, hz, cel_len, cel_snoc]

theorem law_runs_spec (rows : List Row) (st : Store) (h : rows.length ≤ 1000) (hok : ∀ r ∈ rows, Dt.ok r.1) : d__law_runs [.lst (rows.map Dt.d)] st = .ok (.lst ((BK.runsOf rows).map Dt.d)) [] (st ++ List.replicate (BK.runsOf rows).length .dead) := by
  obtain ⟨ρ', st', e, x2, x3, rfl, rfl⟩ := forD_pre (g := gT (gsCons (gN 2) (gsCons (gN 3) gsNil))) (b := f__law_runs_1) (Dt.d (α := Row))
    (fun p ρ st' => ∃ x2 x3 : Sl, ρ = [.val (.lst (rows.map Dt.d)), .ml (tab st.length (BK.runsOf p)), x2, x3] ∧ st' = st ++ cel (BK.runsOf p)) rows [] [.val (.lst (rows.map Dt.d)), .ml [], .no, .no] st ⟨.no, .no, rfl, by simp [BK.runsOf, cel]⟩ (by
      rintro p ⟨t, s⟩ q ρ st' he ⟨x2, x3, rfl, rfl⟩
      rw [List.nil_append] at he
      refine ⟨_, _, _, rfl, .inl (lruns_step (pre := p) (by rw [he] at h; simp at h; omega) (fun r hr => hok r (by rw [he]; simp [hr])) (hok (t, s) (by rw [he]; simp))), _, _, rfl, rfl⟩)
  have hf := frz_runs st.length (BK.runsOf rows) 0 st rfl
  rw [List.nil_append] at e
  have hf' : frz (.lst (tab st.length (BK.runsOf rows))) (st ++ cel (BK.runsOf rows)) = some (.lst ((BK.runsOf rows).map Dt.d), st ++ List.replicate (BK.runsOf rows).length .dead) := by
    simp only [frz, tab, hf]
  simp [d__law_runs, b__law_runs, e, hf']
theorem book_rows (rows : List Row) (st : Store) : d_Book_rows [bookD rows] st = .ok (.lst ((red rows).map Dt.d)) [] st := by simp [d_Book_rows, b_Book_rows]
theorem book_len (rows : List Row) (st : Store) : d_Book___len__ [bookD rows] st = .ok (.int (red rows).length) [] st := by simp [d_Book___len__, b_Book___len__]
theorem book_runs {rows : List Row} (h : RowsOk rows) (st : Store) : d_Book_runs [bookD rows] st = .ok (.lst ((BK.runsOf (red rows)).map Dt.d)) [] (st ++ List.replicate (BK.runsOf (red rows)).length .dead) := by
  have e := runs_of_spec (red rows) st h.red.len h.red.ok
  simp [d_Book_runs, b_Book_runs, e]
theorem n_rows : ¬ (("rows" : Str) = "kept_rows") := by decide
theorem n_runs : ¬ (("runs" : Str) = "kept_rows") := by decide
theorem natL {n : Nat} (h : n ≤ 1000000) : NatL (n : Int) := ⟨by omega, by omega⟩
theorem book_right {A rows : List Row} {d : D} {st : Store} (hA : RowsOk A) (hr : RowsOk rows) (he : red A = red rows) (hd : seen st (.val d) = some (.lst (rows.map Dt.d))) : ∃ ex : Store, d__law_book_right [bookD A, d] st = .ok (.bl true) [] (st ++ ex) := by
  obtain ⟨c, e1⟩ := law_reduced_spec hr hd
  rw [lred_eq, ← he] at e1
  have s1 := fun st => same_8 st (pl_rows hA.red) (by omega)
  have e2 := book_runs hA
  have e3 := fun st => law_runs_spec (red A) st hA.red.len hA.red.ok
  have s2 := fun st => same_8 st (pl_runs hA.red) (by omega)
  have hL := hA.red.len
  have hn : NatL ((red A).length : Int) := natL (by omega)
  refine ⟨[c] ++ List.replicate (BK.runsOf (red A)).length .dead ++ List.replicate (BK.runsOf (red A)).length .dead, ?_⟩
  have er := book_rows A
  have el := book_len A
  simp only [bookD] at er el e2
  simp [d__law_book_right, b__law_book_right, e1, er, s1, e2, e3, s2, el, hn, n_rows, n_runs]
theorem frz_book {st ex : Store} {fs : List (Str × D)} : frz (.ref st.length) (st ++ .ins "Book" fs :: ex) = some (.ins "Book" fs, st ++ .dead :: ex) := by
  have h : (st ++ Cell.ins "Book" fs :: ex)[st.length]? = some (.ins "Book" fs) := by simp
  have hs : (st ++ Cell.ins "Book" fs :: ex).set st.length .dead = st ++ .dead :: ex := by
    rw [List.set_append_right _ _ (Nat.le_refl _)]; simp
  simp only [frz, h, hs]
theorem mk_book {A : List Row} (hA : RowsOk A) : ∃ k, ∀ (st : Store) (d : D), (d = .lst (A.map Dt.d) ∨ d = .tup (A.map Dt.d) ∨ ∃ l, d = .ref l ∧ st[l]? = some (.lst (A.map Dt.d))) →
    d_Book___init__ [.ref st.length, d] (st ++ [.ins "Book" []]) = .ok .non [] (st ++ .ins "Book" [("kept_rows", .lst ((red A).map Dt.d))] :: List.replicate k .dead) := by
  obtain ⟨k, e⟩ := book_init hA
  exact ⟨k, fun st d hd => by rw [e st d hd]; simp⟩

theorem lk_rows (x : D) : List.lookup ("rows" : Str) [("kept_rows", x)] = none := by
  have : (("rows" : Str) == "kept_rows") = false := by decide
  simp [List.lookup, this]
theorem lk_runs (x : D) : List.lookup ("runs" : Str) [("kept_rows", x)] = none := by
  have : (("runs" : Str) == "kept_rows") = false := by decide
  simp [List.lookup, this]
theorem meth_rows {A : List Row} {g : DEx} {ρ ρ' : En} {st st' : Store} (h : g ρ st = .ok (bookD A) ρ' st') : methD "Book" "rows" d_Book_rows [] g aNil ρ st = .ok (.lst ((red A).map Dt.d)) ρ' st' := by
  have er := book_rows A st'
  simp only [bookD] at h er
  simp only [methD, h, R.bind, insOf, lk_rows, aNil, List.append_nil, and_self, if_true, er]
theorem meth_runs {A : List Row} (hA : RowsOk A) {g : DEx} {ρ ρ' : En} {st st' : Store} (h : g ρ st = .ok (bookD A) ρ' st') : methD "Book" "runs" d_Book_runs [] g aNil ρ st = .ok (.lst ((BK.runsOf (red A)).map Dt.d)) ρ' (st' ++ List.replicate (BK.runsOf (red A)).length .dead) := by
  have er := book_runs hA st'
  simp only [bookD] at h er
  simp only [methD, h, R.bind, insOf, lk_runs, aNil, List.append_nil, and_self, if_true, er]
theorem new_book {A : List Row} (hA : RowsOk A) : ∃ k, ∀ {fa : DEx} {ρ ρ' : En} {st st' : Store} {d : D}, fa ρ st = .ok d ρ' st' → (d = .lst (A.map Dt.d) ∨ d = .tup (A.map Dt.d) ∨ ∃ l, d = .ref l ∧ st'[l]? = some (.lst (A.map Dt.d))) →
    fzE (makeD "Book" d_Book___init__ [] (aCons fa aNil)) ρ st = .ok (bookD A) ρ' (st' ++ List.replicate k .dead) := by
  obtain ⟨k, e⟩ := mk_book hA
  refine ⟨k + 1, fun {fa ρ ρ' st st' d} hf hd => ?_⟩
  simp only [fzE, makeD, aCons, aNil, hf, R.bind, List.append_nil, e st' d hd, frz_book, List.replicate_succ]
theorem eraseIdx_perm {α : Type} : ∀ (l : List α) (i : Nat) (h : i < l.length), (l[i] :: l.eraseIdx i).Perm l
  | x :: l, 0, _ => List.Perm.refl _
  | x :: l, i + 1, h => by
    have := eraseIdx_perm l i (by simpa using h)
    simp only [List.getElem_cons_succ, List.eraseIdx_cons_succ]
    exact (List.Perm.swap ..).trans (this.cons x)
theorem some_spec {n : Nat} {c : Cell} {st : Store} {l most : Nat} {ms : List Str} (hl : st[l]? = some c) (hc : BagC n c) (hn : n < 800000) (h0 : 0 < ms.length) (hms : ms.length ≤ 1000) (hmost : 0 < most) (hm2 : most ≤ 1000) (nd : ms.Nodup) :
    ∃ (ys : List Str) (c' : Cell), d__law_some [.ref l, .lst (ms.map .str), .int most] st = .ok (.lst (ys.map .str)) [] (st.set l c') ∧ BagC (n + 1 + ms.length) c' ∧ ys.Nodup ∧ (∀ x ∈ ys, x ∈ ms) ∧ 0 < ys.length ∧ ys.length ≤ ms.length ∧ ys.length ≤ most := by
  obtain ⟨hll, _⟩ := List.getElem?_eq_some_iff.mp hl
  obtain ⟨k, c0, e0, b0, hk⟩ := take_spec (st := st) (l := l) (c := c) (many := min ms.length most) hl hc (by omega) (by omega) (by omega)
  have hrk : Rg (1 + (k : Int)) := .of (by omega) (by omega)
  have hmin : (if (most : Int) < ms.length then (most : Int) else ms.length) = ((min ms.length most : Nat) : Int) := by split <;> omega
  have htn : (1 + (k : Int)).toNat = 1 + k := by omega
  obtain ⟨ρ', st', e, L, F, c', x5, rfl, rfl, h1, h2, h3⟩ := forD_inv (g := gN 5) (b := f__law_some_1)
    (fun i ρ st' => ∃ (L F : List Str) (c' : Cell) (x5 : Sl), ρ = [.val (.ref l), .val (.lst (ms.map .str)), .val (.int most), .ml (L.map .str), .ml (F.map .str), x5] ∧ st' = st.set l c' ∧ BagC (n + 1 + i) c' ∧ F.length = i ∧ (F ++ L).Perm ms)
    (rngItems 0 (1 + k)) 0 [.val (.ref l), .val (.lst (ms.map .str)), .val (.int most), .ml (ms.map .str), .ml [], .no] (st.set l c0) (by
      rintro i d ρ st' hd ⟨L, F, c', x5, rfl, rfl, h1, h2, h3⟩
      have hi : i < 1 + k := by have := (List.getElem?_eq_some_iff.mp hd).1; simpa [rngItems] using this
      rw [Nat.zero_add] at h1 h2 ⊢
      have hlen := h3.length_eq
      rw [List.length_append] at hlen
      obtain ⟨v, c1, e1, b1, hv⟩ := take_spec (st := st.set l c') (l := l) (c := c') (many := L.length) (by simp [hll]) h1 (by omega) (by omega) (by omega)
      have hrs : Rs (v : Int) := .of (by omega) (by omega)
      have hsx : seqIndex? (v : Int) L.length = some v := by
        have h0 : ¬ ((v : Int) < 0) := by omega
        simp [seqIndex?, h0, hv]
      have hz : F.length < sizeLine := by rw [sizeLine_eq]; omega
      simp at e1
      refine ⟨_, [.val (.ref l), .val (.lst (ms.map .str)), .val (.int most), .ml ((L.eraseIdx v).map .str), .ml ((F ++ [L[v]]).map .str), .val d], st.set l c1, rfl, .inl ?_, L.eraseIdx v, F ++ [L[v]], c1, .val d, rfl, rfl, b1, by simp [h2], ?_⟩
      · simp [f__law_some_1, e1, hrs, hsx, hv, hz, erase_map]
      · rw [List.append_assoc]
        exact (List.Perm.append_left F (eraseIdx_perm L v hv)).trans h3) ⟨ms, [], c0, .no, rfl, rfl, b0, rfl, List.Perm.refl _⟩
  have hlen : (rngItems 0 (1 + k)).length = 1 + k := by simp [rngItems]
  rw [hlen, Nat.zero_add] at h1 h2
  have hpl := h3.length_eq
  rw [List.length_append] at hpl
  have nd2 : (F ++ L).Nodup := h3.nodup_iff.mpr nd
  refine ⟨F, c', ?_, h1.mono (by omega), (List.nodup_append.mp nd2).1, fun x hx => h3.mem_iff.mp (List.mem_append_left _ hx), by omega, by omega, by omega⟩
  rw [← hmin] at e0
  simp at e0
  simp [d__law_some, b__law_some, e0, hrk, htn, e]
theorem lots_nodup (rows : List Row) : ((red rows).map (·.2)).Nodup := by
  have rf := (red_ok' rows).1.rf
  have e : (red rows).map (·.2) = (BK.runsOf (red rows)).flatMap (·.2) := by
    have := BK.flat_runsOf (red rows)
    generalize BK.runsOf (red rows) = rs at this
    rw [← this]
    unfold BK.flat
    rw [List.map_flatMap]
    congr 1
    funext p
    rw [List.map_map]
    exact List.map_id _
  rw [e]
  have an := rf.an
  have co := rf.co
  generalize BK.runsOf (red rows) = rs at an co
  induction rs with
  | nil => exact List.nodup_nil
  | cons p rs ih =>
    rw [List.flatMap_cons, List.nodup_append]
    rw [List.pairwise_cons] at co
    refine ⟨BK.pw_nodup (an p (by simp)), ih (fun q hq => an q (List.mem_cons_of_mem _ hq)) co.2, fun a ha b hb z => ?_⟩
    obtain ⟨q, hq, hb⟩ := List.mem_flatMap.mp hb
    subst z
    exact BK.not_le (co.1 q hq a ha a hb) (BK.refl _)
theorem last_run {rows : List Row} {t : Th} {s : HS} (ht : ∀ r ∈ rows, r.1 ≠ t) (hs : s ≠ BK.emp) (htn : t ≠ .non) : ∃ rs, BK.runsOf (red (rows ++ [(t, s)])) = rs ++ [(t, [s])] := by
  obtain ⟨nf, eqv, _⟩ := red_ok' (rows ++ [(t, s)])
  have mem : ∀ r ∈ red (rows ++ [(t, s)]), r ∈ rows ++ [(t, s)] := fun r h => red_mem h
  generalize red (rows ++ [(t, s)]) = Z at nf eqv mem
  have hits : BK.heardF BK.notEmp Th.non Z = t := by
    rw [← eqv _ BK.notEmp_up, BK.heardF_app]
    have : (BK.notEmp s : Bool) = true := by simp [BK.notEmp, BK.le_emp hs]
    simp [BK.heardF, this]
  have e0 := BK.heard_runs Th.non BK.notEmp Z
  rcases List.eq_nil_or_concat (BK.runsOf Z) with e | ⟨rs, p, e⟩
  · exfalso
    have z := BK.runsOf_nil e
    subst z
    have hz : (t : Th) = Th.non := by rw [← hits]; rfl
    exact htn hz
  · rw [List.concat_eq_append] at e
    have ro : BK.RO Th.non (p :: rs.reverse) := by
      have := BK.rf_ro (rr := p :: rs.reverse) (non := Th.non) (by
        rw [List.reverse_cons, List.reverse_reverse, ← e]
        exact nf.rf)
      exact this
    have top := BK.ro_top ro
    rw [e, List.reverse_append, List.reverse_cons, List.reverse_nil, List.nil_append, List.singleton_append, top, hits] at e0
    have hp : p ∈ BK.runsOf Z := by rw [e]; simp
    have all : ∀ x ∈ p.2, x = s := fun x hx => by
      have h1 : (p.1, x) ∈ Z := by
        have := BK.mem_flat hp hx
        rwa [BK.flat_runsOf] at this
      rcases List.mem_append.mp (mem _ h1) with h2 | h2
      · exact absurd e0.symm (ht _ h2)
      · rw [List.mem_singleton] at h2
        exact (Prod.mk.injEq ..).mp h2 |>.2
    have ne := nf.rf.ne p hp
    have nd := BK.pw_nodup (nf.rf.an p hp)
    obtain ⟨p1, p2⟩ := p
    simp only at e0 all ne nd
    subst e0
    have : p2 = [s] := by
      cases p2 with
      | nil => exact absurd rfl ne
      | cons a l =>
        have ha := all a (by simp)
        subst ha
        cases l with
        | nil => rfl
        | cons b l =>
          have hb := all b (by simp)
          subst hb
          simp at nd
    exact ⟨rs, by rw [e, this]⟩
theorem bag_at (ns : List Int) (at' : Nat) (st : Store) (h : at' < 1000) : ∃ c, d__law_bag [.lsk (ns.map .int), .int at'] st = .ok (.ref st.length) [] (st ++ [c]) ∧ BagC 0 c := bag_spec ns at' st h
theorem take_at {n : Nat} {c : Cell} {st ex : Store} {many : Nat} (hc : BagC n c) (hn : n < 1000000) (h0 : 0 < many) (h1 : many < 1000000) :
    ∃ (v : Nat) (c' : Cell), d__law_take [.ref st.length, .int many] (st ++ c :: ex) = .ok (.int v) [] (st ++ c' :: ex) ∧ BagC (n + 1) c' ∧ v < many := by
  obtain ⟨v, c', e, h⟩ := take_spec (st := st ++ c :: ex) (l := st.length) (get_mid st ex c) hc hn h0 h1
  exact ⟨v, c', by rw [e, set_mid], h⟩
theorem names_at {n : Nat} {c : Cell} {st ex : Store} {many : Nat} (hc : BagC n c) (hn : n < 800000) (hm : many ≤ 25) :
    ∃ (ns : List Str) (c' : Cell), d__law_names [.ref st.length, .int many] (st ++ c :: ex) = .ok (.lst (ns.map .str)) [] (st ++ c' :: ex) ∧ BagC (n + 9 * many) c' ∧ ns.length = many ∧ ns.Nodup ∧ ∀ s ∈ ns, NameS s := by
  obtain ⟨ns, c', e, h⟩ := names_spec (st := st ++ c :: ex) (l := st.length) (get_mid st ex c) hc hn hm
  exact ⟨ns, c', by rw [e, set_mid], h⟩
theorem turns {f : DSx} {m : Nat} {P : List Sl → Prop} {x : D} {st : Store} (h : ∀ (i : Nat) (xs : List Sl) (st : Store), P xs → i < 1000 → ∃ (xs' : List Sl) (st' : Store), f (.val x :: .val (.int i) :: xs) st = .nx (.val x :: .val (.int i) :: xs') st' ∧ P xs') (hm : m ≤ 1000) (xs : List Sl) (hx : P xs) :
    ∃ ρ' st', forD (gN 1) f (rngItems 0 m) (.val x :: .no :: xs) st = .nx ρ' st' := by
  obtain ⟨ρ', st', e, _⟩ := forD_inv (g := gN 1) (b := f) (fun i ρ st => ∃ (y : Sl) (xs : List Sl), ρ = .val x :: y :: xs ∧ P xs) (rngItems 0 m) 0 (.val x :: .no :: xs) st (by
    rintro i d ρ st hd ⟨y, xs, rfl, hx⟩
    have hi : i < m := by have := (List.getElem?_eq_some_iff.mp hd).1; simpa [rngItems] using this
    have := rngItems_get hd
    rw [Int.zero_add] at this
    subst this
    obtain ⟨xs', st', e, hx'⟩ := h i xs st hx (by omega)
    exact ⟨.val x :: .val (.int i) :: xs, .val x :: .val (.int i) :: xs', st', by simp, .inl e, .val (.int i), xs', rfl, hx'⟩) ⟨.no, xs, rfl, hx⟩
  exact ⟨ρ', st', e⟩
theorem getD_mem {ns : List Str} {i : Nat} (h : i < ns.length) : ns.getD i "" ∈ ns := by
  rw [List.getD_eq_getElem?_getD, List.getElem?_eq_getElem h]; exact List.getElem_mem _
theorem getD_at {ns : List Str} {i : Nat} (h : i < ns.length) : ns[i]? = some (ns.getD i "") := by
  rw [List.getD_eq_getElem?_getD, List.getElem?_eq_getElem h]; rfl
theorem getD_ne {ns : List Str} (nd : ns.Nodup) {i j : Nat} (hi : i < ns.length) (hj : j < ns.length) (hij : i ≠ j) : ns.getD i "" ≠ ns.getD j "" := by
  rw [List.getD_eq_getElem?_getD, List.getElem?_eq_getElem hi, List.getD_eq_getElem?_getD, List.getElem?_eq_getElem hj]
  rcases Nat.lt_or_gt_of_ne hij with h | h
  · exact List.pairwise_iff_getElem.mp nd i j hi hj h
  · exact fun e => List.pairwise_iff_getElem.mp nd j i hj hi h e.symm
theorem some_at {n : Nat} {c : Cell} {st ex : Store} {most : Nat} {ms : List Str} (hc : BagC n c) (hn : n < 800000) (h0 : 0 < ms.length) (hms : ms.length ≤ 1000) (hmost : 0 < most) (hm2 : most ≤ 1000) (nd : ms.Nodup) :
    ∃ (ys : List Str) (c' : Cell), d__law_some [.ref st.length, .lst (ms.map .str), .int most] (st ++ c :: ex) = .ok (.lst (ys.map .str)) [] (st ++ c' :: ex) ∧ BagC (n + 1 + ms.length) c' ∧ ys.Nodup ∧ (∀ x ∈ ys, x ∈ ms) ∧ 0 < ys.length ∧ ys.length ≤ ms.length ∧ ys.length ≤ most := by
  obtain ⟨ys, c', e, h⟩ := some_spec (st := st ++ c :: ex) (l := st.length) (get_mid st ex c) hc hn h0 hms hmost hm2 nd
  exact ⟨ys, c', by rw [e, set_mid], h⟩
@[simp] theorem COk_ok {d : D} {ρ ρ' : En} {st : Store} {P : D → En → Store → Prop} : COk (.ok d ρ' st) ρ P ↔ P d ρ st := Iff.rfl
def k_new (dds : List D) (P : D → En → Store → Prop) (d : D) (ρ : En) (st : Store) : Prop := EOk (fzE (makeD "Book" d_Book___init__ dds (cst d)) ρ st) P
@[simp ↓] theorem EOk_new {dds : List D} {fa : DEx} {ρ : En} {st : Store} {P : D → En → Store → Prop} : EOk (fzE (makeD "Book" d_Book___init__ dds fa) ρ st) P ↔ EOk (fa ρ st) (k_new dds P) := by
  unfold k_new fzE makeD cst
  cases fa ρ st <;> exact Iff.rfl
@[simp] def k_meth0 (c m : Str) (den : Den) (dds : List D) (P : D → En → Store → Prop) (d : D) (ρ : En) (st : Store) : Prop := match insOf st d with
  | some (c', fs) => (c' = c ∧ fs.lookup m = none) ∧ COk (den (d :: dds) st) ρ P
  | none => False
@[simp ↓] theorem EOk_meth0 {c m : Str} {den : Den} {dds : List D} {g : DEx} {ρ : En} {st : Store} {P : D → En → Store → Prop} : EOk (methD c m den dds g aNil ρ st) P ↔ EOk (g ρ st) (k_meth0 c m den dds P) := by
  refine (EOk_bind _ _).trans ⟨fun h => h.mono fun d ρ st z => ?_, fun h => h.mono fun d ρ st z => ?_⟩
  · unfold k_meth0
    cases e : insOf st d with
    | none => rw [e] at z; exact z
    | some p =>
      rw [e] at z
      simp only at z ⊢
      by_cases hc : p.1 = c ∧ p.2.lookup m = none
      · rw [if_pos hc] at z; exact ⟨hc, z⟩
      · rw [if_neg hc] at z; exact z.elim
  · unfold k_meth0 at z
    cases e : insOf st d with
    | none => rw [e] at z; exact z
    | some p =>
      rw [e] at z
      simp only at z ⊢
      rw [if_pos z.1]; exact z.2
@[simp] def k_mutE (k : MutK) (f : DEx) (P : D → En → Store → Prop) (d : D) (ρ : En) (st : Store) : Prop := EOk (match d with
  | .ref l => (match st[l]? with
    | some (.lst _) => (f ρ st).bind fun a ρ st => (match a with
      | .tup args => (match st[l]? with
        | some (.lst ds) => (match k ds args with
          | some (ds', z) => .ok z ρ (st.set l (.lst ds'))
          | none => .bad)
        | _ => .bad)
      | _ => .bad)
    | _ => .bad)
  | _ => .bad) P
@[simp ↓] theorem EOk_mutE {k : MutK} {g f : DEx} {ρ : En} {st : Store} {P : D → En → Store → Prop} : EOk (mutED k g f ρ st) P ↔ EOk (g ρ st) (k_mutE k f P) := EOk_bind _ _
theorem new_ok {A : List Row} (hA : RowsOk A) {P : D → En → Store → Prop} {ρ : En} {st : Store} {d : D} (hd : d = .lst (A.map Dt.d) ∨ d = .tup (A.map Dt.d) ∨ ∃ l, d = .ref l ∧ st[l]? = some (.lst (A.map Dt.d))) (k : ∀ n, P (bookD A) ρ (st ++ List.replicate n .dead)) : k_new [] P (.tup [d]) ρ st := by
  obtain ⟨n, e⟩ := mk_book hA
  have e' := e st d hd
  unfold k_new
  simp only [fzE, makeD, cst, R.bind, List.append_nil, e', frz_book]
  exact k (n + 1)
theorem right_ok {A rows : List Row} {d : D} {st : Store} {Q : D → Store → Prop} (hA : RowsOk A) (hr : RowsOk rows) (he : red A = red rows) (hd : seen st (.val d) = some (.lst (rows.map Dt.d))) (k : ∀ ex, Q (.bl true) (st ++ ex)) : DOk (d__law_book_right [bookD A, d] st) Q := by
  obtain ⟨ex, e⟩ := book_right hA hr he hd
  exact ⟨_, _, e, k ex⟩
theorem NameS.th {s : Str} (h : NameS s) : Dt.ok (Th.nm s) := h.ok
theorem of_d {ys : List Str} {nd : ys.Nodup} {hn : ∀ s ∈ ys, okS s} : (Dt.d (HS.of ys nd hn) : D) = .tup ((srt ys).map .str) := rfl
theorem of_len {ys : List Str} {nd : ys.Nodup} {hn : ∀ s ∈ ys, okS s} : (HS.of ys nd hn).l.length = ys.length := (srt_perm ys).length_eq
theorem of_ne {ys : List Str} {nd : ys.Nodup} {hn : ∀ s ∈ ys, okS s} (h : 0 < ys.length) : HS.of ys nd hn ≠ BK.emp := fun z => by
  have e := congrArg (fun h : HS => h.l.length) z
  rw [of_len] at e
  have : (BK.emp : HS).l.length = 0 := rfl
  omega
structure L14 (o : HS) : Prop where
  le : o.l.length ≤ 4
  ne : o ≠ BK.emp
theorem lots_at {n : Nat} {c : Cell} {st ex : Store} {ms : List Str} {m : Nat} {a0 a1 a3 a5 a6 a8 a9 a10 a11 a12 : Sl} (hc : BagC n c) (hn : n < 700000) (h0 : 2 ≤ ms.length) (hms : ms.length ≤ 5) (ndm : ms.Nodup) (hmm : ∀ s ∈ ms, NameS s) (hm : m ≤ 4) :
    ∃ (lots : List HS) (c' : Cell), lcGo (gN 7) yesD e_law_3 [7] (rngItems 0 m) [] [a0, a1, .val (.ref st.length), a3, .val (.lst (ms.map .str)), a5, a6, .no, a8, a9, a10, a11, a12] (st ++ c :: ex) =
      .ok (.lst (lots.map Dt.d)) [a0, a1, .val (.ref st.length), a3, .val (.lst (ms.map .str)), a5, a6, .no, a8, a9, a10, a11, a12] (st ++ c' :: ex) ∧ BagC (n + 100) c' ∧ lots.length = m ∧ ∀ o ∈ lots, L14 o := by
  obtain ⟨ys, st', e, ⟨c', rfl, b'⟩, hl, hP⟩ := lc_inv (g := gN 7) (f := e_law_3) (vs := [7]) (ρ := [a0, a1, .val (.ref st.length), a3, .val (.lst (ms.map .str)), a5, a6, .no, a8, a9, a10, a11, a12])
    (fun i st' => ∃ c', st' = st ++ c' :: ex ∧ BagC (n + 6 * i) c') (fun _ y => ∃ o : HS, L14 o ∧ y = Dt.d o) (rngItems 0 m) (st ++ c :: ex) (by
      rintro i d st' hd hi ⟨c', rfl, b⟩
      have hi' : i < m := by simpa [rngItems] using hi
      obtain ⟨ys, c1, e1, b1, hys, hsub, hy0, hy1, hy2⟩ := some_at (st := st) (ex := ex) (c := c') (most := 4) (ms := ms) b (by omega) (by omega) (by omega) (by omega) (by omega) ndm
      simp at e1
      refine ⟨Dt.d (HS.of ys hys fun s hs => (hmm s (hsub s hs)).ok), st ++ c1 :: ex, ?_, ⟨c1, rfl, b1.mono (by omega)⟩, _, ⟨by rw [of_len]; omega, of_ne hy0⟩, rfl⟩
      simp [e_law_3, e1, sortD, sortOk_strs, sort_strs, of_d]) ⟨c, rfl, hc⟩
  obtain ⟨lots, rfl, hlo⟩ := of_all (f := (Dt.d : HS → D)) (P := L14) (all_of_get hP)
  have hlen : (rngItems 0 m).length = m := by simp [rngItems]
  rw [hlen] at b' hl
  exact ⟨lots, c', e, b'.mono (by omega), by simpa using hl, hlo⟩
structure R14 (w8 w9 : Str) (lots : List HS) (r : Row) : Prop where
  th : r.1 = .nm w8 ∨ r.1 = .nm w9 ∨ r.1 = .non
  lot : r.2 ∈ lots
theorem thing_at {w8 w9 : Str} {v : Nat} (hv : v < 3) : ∃ t : Th, ([.str w8, .str w9, .non] : List D)[v]? = some (Dt.d t) ∧ (t = .nm w8 ∨ t = .nm w9 ∨ t = .non) := by
  rcases (show v = 0 ∨ v = 1 ∨ v = 2 by omega) with rfl | rfl | rfl
  · exact ⟨.nm w8, rfl, .inl rfl⟩
  · exact ⟨.nm w9, rfl, .inr (.inl rfl)⟩
  · exact ⟨.non, rfl, .inr (.inr rfl)⟩
theorem lot_at {lots : List HS} {v : Nat} (hv : v < lots.length) : ∃ o : HS, (lots.map (Dt.d : HS → D))[v]? = some (Dt.d o) ∧ o ∈ lots := by
  refine ⟨lots[v], ?_, List.getElem_mem hv⟩
  rw [List.getElem?_map, List.getElem?_eq_getElem hv]
  rfl
theorem two_of {ns : List Str} (h : ns.length = 12) : cutD (ns.map D.str) (some 8) (some 10) = [.str (ns.getD 8 ""), .str (ns.getD 9 "")] := by
  have e := cutD_range (ns.map D.str) 8 10 (by omega)
  refine Eq.trans e ?_
  match ns, h with
  | [a, b, c, d, e, f, g, h, i, j, k, l], _ => rfl
def I14 (w8 w9 : Str) (st : Store) (n : Nat) (x0 x1 : Sl) (ns : List Str) (x4 : Sl) (lots : List HS) (x8 x9 x10 x11 x12 : Sl) (q : Nat) (ρ : En) (st' : Store) : Prop :=
  ∃ (rows : List Row) (c' : Cell) (x7 : Sl), ρ = [x0, x1, .val (.ref st.length), .val (.lst (ns.map .str)), x4, .val (.lst (lots.map Dt.d)), .ml (rows.map Dt.d), x7, x8, x9, x10, x11, x12] ∧ st' = st ++ [c'] ∧ BagC (n + 2 * q) c' ∧ rows.length = q ∧ ∀ r ∈ rows, R14 w8 w9 lots r
theorem row_ok {w8 w9 : Str} {st : Store} {n q : Nat} {x0 x1 x4 x7 x8 x9 x10 x11 x12 : Sl} {ns : List Str} {lots : List HS} {rows : List Row} {c : Cell} {V : D → Store → Prop} (hn : n < 700000) (hq : q < 16) (cut : cutD (ns.map D.str) (some 8) (some 10) = [.str w8, .str w9]) (hl : 0 < lots.length) (hl4 : lots.length ≤ 4) (hb : BagC (n + 2 * q) c) (hr : rows.length = q) (hR : ∀ r ∈ rows, R14 w8 w9 lots r) :
    SOk (f_law_2 [x0, x1, .val (.ref st.length), .val (.lst (ns.map .str)), x4, .val (.lst (lots.map Dt.d)), .ml (rows.map Dt.d), x7, x8, x9, x10, x11, x12] (st ++ [c])) (I14 w8 w9 st n x0 x1 ns x4 lots x8 x9 x10 x11 x12 (q + 1)) V := by
  obtain ⟨v, c1, e1, b1, hv⟩ := take_at (st := st) (ex := []) (c := c) (many := 3) hb (by omega) (by omega) (by omega)
  obtain ⟨u, c2, e2, b2, hu⟩ := take_at (st := st) (ex := []) (c := c1) (many := lots.length) b1 (by omega) hl (by omega)
  obtain ⟨t, ht1, ht2⟩ := thing_at (w8 := w8) (w9 := w9) hv
  obtain ⟨o, ho1, ho2⟩ := lot_at hu
  have z : lots.length ≤ sizeLine := by rw [sizeLine_eq]; omega
  have zr : rows.length < sizeLine := by rw [sizeLine_eq]; omega
  have z3 : 3 ≤ sizeLine := by rw [sizeLine_eq]; omega
  simp at e1 e2
  unfold f_law_2
  simp [-List.getElem?_map, cut, z3, e1, ht1, z, e2, ho1, zr]
  refine ⟨rows ++ [(t, o)], c2, x7, by simp; rfl, rfl, b2.mono (by omega), by simp [hr], fun r hr => ?_⟩
  rcases List.mem_append.mp hr with h | h
  · exact hR r h
  · rw [List.mem_singleton] at h
    subst h
    exact ⟨ht2, ho2⟩
theorem strL_hs (o : HS) : strL (o.l.map D.str) = some o.l := by
  generalize o.l = l
  induction l with
  | nil => rfl
  | cons x l ih => simp [strL, ih]
theorem tupsL_lots : ∀ R : List Row, tupsL (R.map fun r => (Dt.d r.2 : D)) = some (R.map fun r => r.2.l)
  | [] => rfl
  | r :: R => by
    have e : (Dt.d r.2 : D) = .tup (r.2.l.map .str) := rfl
    rw [List.map_cons, e]
    unfold tupsL
    rw [strL_hs, tupsL_lots R]
    rfl
theorem lots_le {w8 w9 : Str} {lots : List HS} {A : List Row} (hA : ∀ r ∈ A, r.2 ∈ lots) (hl : lots.length ≤ 4) : (red A).length ≤ 4 ∧ ((red A).map fun r => r.2.l).Nodup := by
  have nd := lots_nodup A
  have h1 := nodup_len (m := lots) nd fun o ho => by
    obtain ⟨r, hr, rfl⟩ := List.mem_map.mp ho
    exact hA r (red_mem hr)
  rw [List.length_map] at h1
  refine ⟨by omega, ?_⟩
  have e : ((red A).map fun r => r.2.l) = ((red A).map (·.2)).map (fun o : HS => o.l) := by rw [List.map_map]; rfl
  rw [e]
  exact List.pairwise_map.mpr (nd.imp fun h z => h (HS.ext' z))
section
variable {x0 x1 x2 x3 x4 x5 x6 x7 x8 x10 x11 x12 : Sl} {lots : List HS} {A : List Row} {st : Store}
theorem set_eq (hA : RowsOk A) (hl : ∀ r ∈ A, r.2 ∈ lots) (h4 : lots.length ≤ 4) {x9 : Sl} :
    lenSetUD (lcD (itD (vr 10)) (gT (gsCons (gN 11) (gsCons (gN 12) gsNil))) yesD (vr 12) [11, 12]) [x0, x1, x2, x3, x4, x5, x6, x7, x8, x9, .val (.lst ((red A).map Dt.d)), x11, x12] st = .ok (.int (red A).length) [x0, x1, x2, x3, x4, x5, x6, x7, x8, x9, .val (.lst ((red A).map Dt.d)), .no, .no] st := by
  have hz : (red A).length ≤ sizeLine := by have := hA.red.len; rw [sizeLine_eq]; omega
  obtain ⟨l4, nd⟩ := lots_le (w8 := "") (w9 := "") hl h4
  have L := lc_mapC (g := gT (gsCons (gN 11) (gsCons (gN 12) gsNil))) (e := vr 12) (vs := [11, 12]) (ρ := [x0, x1, x2, x3, x4, x5, x6, x7, x8, x9, .val (.lst ((red A).map Dt.d)), .no, .no]) (st := st) (Dt.d (α := Row)) (fun r => (Dt.d r.2 : D)) (red A) fun r hr => by
    have e : (Dt.d r : D) = .tup [Dt.d r.1, Dt.d r.2] := rfl
    simp [e]
  have tl := tupsL_lots (red A)
  have c : ((red A).map fun r => r.2.l).length ≤ 4 ∧ ((red A).map fun r => r.2.l).Nodup := ⟨by rw [List.length_map]; exact l4, nd⟩
  have P3 : lcD (itD (vr 10)) (gT (gsCons (gN 11) (gsCons (gN 12) gsNil))) yesD (vr 12) [11, 12] [x0, x1, x2, x3, x4, x5, x6, x7, x8, x9, .val (.lst ((red A).map Dt.d)), x11, x12] st = .ok (.lst ((red A).map fun r => (Dt.d r.2 : D))) [x0, x1, x2, x3, x4, x5, x6, x7, x8, x9, .val (.lst ((red A).map Dt.d)), .no, .no] st := by
    simp only [lcD, itD, vr, List.getElem?_cons_succ, List.getElem?_cons_zero, R.bind, D.walk, D.items, Option.map_some, D.iter, List.length_map, hz, if_true, chkE_none, wipeR, List.set_cons_succ, List.set_cons_zero]
    exact L
  simp only [lenSetUD, P3, R.bind, tl]
  rw [if_pos c, List.length_map]
theorem one_ok {V : D → Store → Prop} (hA : RowsOk A) (hl : ∀ r ∈ A, r.2 ∈ lots) (h4 : lots.length ≤ 4) :
    SOk (f_law_1 [x0, x1, x2, x3, x4, x5, x6, x7, x8, .val (.lst (A.map Dt.d)), x10, x11, x12] st) (fun ρ st' => (∃ y10 y11 y12, ρ = [x0, x1, x2, x3, x4, x5, x6, x7, x8, .val (.lst (A.map Dt.d)), y10, y11, y12]) ∧ ∃ ex, st' = st ++ ex) V := by
  obtain ⟨n, e⟩ := new_book hA
  have e1 := e (fa := vr 9) (ρ := [x0, x1, x2, x3, x4, x5, x6, x7, x8, .val (.lst (A.map Dt.d)), x10, x11, x12]) (st := st) rfl (.inl rfl)
  have M := meth_rows e1
  have lz : (red A).length ≤ sizeLine := by have := hA.red.len; rw [sizeLine_eq]; omega
  have S1 : setD (methD "Book" "rows" d_Book_rows [] (fzE (makeD "Book" d_Book___init__ [] (aCons (vr 9) aNil))) aNil) (gN 10) [x0, x1, x2, x3, x4, x5, x6, x7, x8, .val (.lst (A.map Dt.d)), x10, x11, x12] st = .nx [x0, x1, x2, x3, x4, x5, x6, x7, x8, .val (.lst (A.map Dt.d)), .val (.lst ((red A).map Dt.d)), x11, x12] (st ++ List.replicate n .dead) := by
    simp only [setD, thenF, M]
    rfl
  unfold f_law_1
  simp only [SOk_seq, S1, SOk_nx, k_seq]
  simp
  refine new_ok hA (.inl rfl) fun n2 => ?_
  simp
  refine COk.of (right_ok hA hA rfl rfl fun ex2 => ?_)
  have N : ∀ s : Store, lift2 pNe (lift1 pLen (pureE (pvw 10))) (lenSetUD (lcD (itD (vr 10)) (gT (gsCons (gN 11) (gsCons (gN 12) gsNil))) yesD (vr 12) [11, 12])) [x0, x1, x2, x3, x4, x5, x6, x7, x8, .val (.lst (A.map Dt.d)), .val (.lst ((red A).map Dt.d)), x11, x12] s = .ok (.bl false) [x0, x1, x2, x3, x4, x5, x6, x7, x8, .val (.lst (A.map Dt.d)), .val (.lst ((red A).map Dt.d)), .no, .no] s := fun s => by
    have S := set_eq (x0 := x0) (x1 := x1) (x2 := x2) (x3 := x3) (x4 := x4) (x5 := x5) (x6 := x6) (x7 := x7) (x8 := x8) (x9 := .val (.lst (A.map Dt.d))) (x11 := x11) (x12 := x12) (st := s) hA hl h4
    have L10 : lift1 pLen (pureE (pvw 10)) [x0, x1, x2, x3, x4, x5, x6, x7, x8, .val (.lst (A.map Dt.d)), .val (.lst ((red A).map Dt.d)), x11, x12] s = .ok (.int (red A).length) [x0, x1, x2, x3, x4, x5, x6, x7, x8, .val (.lst (A.map Dt.d)), .val (.lst ((red A).map Dt.d)), x11, x12] s := by
      simp [lz]
    have pn : pNe (.int (red A).length) (.int (red A).length) = some (.bl false) := by simp
    simp only [lift2, L10, R.bind, S, pn]
  simp only [k_EOk_not, Bool.not_true, EOk_ok, k_EOk_or_bl, Bool.false_eq_true, if_false]
  rw [N, EOk_ok, k_SOk_if_bl, if_neg (by decide)]
  simp only [nxD, SOk_nx]
  refine ⟨⟨_, _, _, rfl⟩, ?_⟩
  simp only [List.append_assoc]
  exact ⟨_, rfl⟩
end
def T14 (ns : List Int) (_ : Nat) (ρ : En) (_ : Store) : Prop := ∃ x1 x2 x3 x4 x5 x6 x7 x8 x9 x10 x11 x12, ρ = [.val (.lsk (ns.map .int)), x1, x2, x3, x4, x5, x6, x7, x8, x9, x10, x11, x12]
theorem r14_ok {w8 w9 : Str} {lots : List HS} {rows : List Row} (h8 : NameS w8) (h9 : NameS w9) (hl : ∀ o ∈ lots, L14 o) (hR : ∀ r ∈ rows, R14 w8 w9 lots r) (hn : rows.length ≤ 20) : RowsOk rows := by
  refine ⟨by omega, fun r hr => ?_, fun r hr => ?_⟩
  · have := (hl _ (hR r hr).lot).le
    show r.2.l.length ≤ 1000
    omega
  · rcases (hR r hr).th with e | e | e
    · rw [e]; exact h8.th
    · rw [e]; exact h9.th
    · rw [e]; trivial
theorem SOk_ex {r : Fl} {N : En → Store → Prop} (h : SOk r N (fun _ _ => False)) : ∃ ρ st, r = .nx ρ st ∧ N ρ st := by
  cases r with
  | nx ρ st => exact ⟨ρ, st, rfl, h⟩
  | _ => exact h.elim
theorem ix_end (l : List D) (d : D) (hl : l.length ≤ 1000) : pIx (.lst (l ++ [d])) (.int (-1)) = some d := by
  have r1 : Rs (-1 : Int) := .of (by omega) (by omega)
  have hz : l.length + 1 ≤ sizeLine := by rw [sizeLine_eq]; omega
  have h1 : (1 : Int) ≤ (l.length : Int) + 1 := by omega
  have h2 : (-1 + ((l.length : Int) + 1)).toNat = l.length := by omega
  simp [atI, ixN, r1, hz, h1, h2]
theorem two_eq {x0 x1 x2 x3 x4 x5 x6 x7 x8 x9 x10 x11 x12 : Sl} {lots : List HS} {A B : List Row} {st : Store} (hA : RowsOk A) (hB : RowsOk B) (lA : ∀ r ∈ A, r.2 ∈ lots) (lB : ∀ r ∈ B, r.2 ∈ lots) (h4 : lots.length ≤ 4) :
    ∃ y9 y10 y11 y12 ex, forD (gN 9) f_law_1 [.lst (A.map Dt.d), .lst (B.map Dt.d)] [x0, x1, x2, x3, x4, x5, x6, x7, x8, x9, x10, x11, x12] st = .nx [x0, x1, x2, x3, x4, x5, x6, x7, x8, y9, y10, y11, y12] (st ++ ex) := by
  obtain ⟨ρ1, st1, e1, ⟨a10, a11, a12, rfl⟩, ex1, rfl⟩ := SOk_ex (one_ok (x0 := x0) (x1 := x1) (x2 := x2) (x3 := x3) (x4 := x4) (x5 := x5) (x6 := x6) (x7 := x7) (x8 := x8) (x10 := x10) (x11 := x11) (x12 := x12) (st := st) (V := fun _ _ => False) hA lA h4)
  obtain ⟨ρ2, st2, e2, ⟨b10, b11, b12, rfl⟩, ex2, rfl⟩ := SOk_ex (one_ok (x0 := x0) (x1 := x1) (x2 := x2) (x3 := x3) (x4 := x4) (x5 := x5) (x6 := x6) (x7 := x7) (x8 := x8) (x10 := a10) (x11 := a11) (x12 := a12) (st := st ++ ex1) (V := fun _ _ => False) hB lB h4)
  refine ⟨.val (.lst (B.map Dt.d)), b10, b11, b12, ex1 ++ ex2, ?_⟩
  have g1 : gN 9 (.lst (A.map Dt.d)) [x0, x1, x2, x3, x4, x5, x6, x7, x8, x9, x10, x11, x12] = some [x0, x1, x2, x3, x4, x5, x6, x7, x8, .val (.lst (A.map Dt.d)), x10, x11, x12] := rfl
  have g2 : gN 9 (.lst (B.map Dt.d)) [x0, x1, x2, x3, x4, x5, x6, x7, x8, .val (.lst (A.map Dt.d)), a10, a11, a12] = some [x0, x1, x2, x3, x4, x5, x6, x7, x8, .val (.lst (B.map Dt.d)), a10, a11, a12] := rfl
  simp only [forD, g1, e1, g2, e2, List.append_assoc]
theorem k14_turn {ns0 : List Int} {i : Nat} {st : Store} {x2 x3 x4 x5 x6 x7 x8 x9 x10 x11 x12 : Sl} {V : D → Store → Prop} (hi : i < 1000) : SOk (f_law_4 [.val (.lsk (ns0.map .int)), .val (.int i), x2, x3, x4, x5, x6, x7, x8, x9, x10, x11, x12] st) (T14 ns0 (i + 1)) V := by
  obtain ⟨c0, e0, b0⟩ := bag_at ns0 i st hi
  obtain ⟨ns, c1, e1, b1, hl, nd, hnm⟩ := names_at (st := st) (ex := []) (many := 12) b0 (by omega) (by omega)
  obtain ⟨v, c2, e2, b2, hv⟩ := take_at (st := st) (ex := []) (c := c1) (many := 4) b1 (by omega) (by omega) (by omega)
  obtain ⟨u, c3, e3, b3, hu⟩ := take_at (st := st) (ex := []) (c := c2) (many := 3) b2 (by omega) (by omega) (by omega)
  obtain ⟨ms, hms⟩ : ∃ ms, ns.take (2 + v) = ms := ⟨_, rfl⟩
  have hml : ms.length = 2 + v := by rw [← hms]; simp; omega
  have ndm : ms.Nodup := by rw [← hms]; exact nd.sublist (List.take_sublist ..)
  have hmm : ∀ s ∈ ms, NameS s := fun s hs => hnm s (by rw [← hms] at hs; exact List.mem_of_mem_take hs)
  have hcut : cutD (ns.map .str) none (some (2 + (v : Int))) = ms.map D.str := by
    have := cutD_to (ns.map D.str) (2 + v)
    rw [← List.map_take, hms] at this
    rw [← this]; congr 2
  obtain ⟨lots, c4, e4, b4, ll, hlo⟩ := lots_at (st := st) (ex := []) (c := c3) (ms := ms) (m := 2 + u) (a0 := .val (.lsk (ns0.map .int))) (a1 := .val (.int i)) (a3 := .val (.lst (ns.map .str))) (a5 := x5) (a6 := x6) (a8 := x8) (a9 := x9) (a10 := x10) (a11 := x11) (a12 := x12) b3 (by omega) (by omega) (by omega) ndm hmm (by omega)
  obtain ⟨z, c5, e5, b5, hz⟩ := take_at (st := st) (ex := []) (c := c4) (many := 16) b4 (by omega) (by omega) (by omega)
  obtain ⟨w8, w9, w10, n8, n9, n10, cut, d8, d9, at10⟩ : ∃ w8 w9 w10, NameS w8 ∧ NameS w9 ∧ NameS w10 ∧ cutD (ns.map D.str) (some 8) (some 10) = [.str w8, .str w9] ∧ w8 ≠ w10 ∧ w9 ≠ w10 ∧ ns[10]? = some w10 :=
    ⟨ns.getD 8 "", ns.getD 9 "", ns.getD 10 "", hnm _ (getD_mem (by omega)), hnm _ (getD_mem (by omega)), hnm _ (getD_mem (by omega)), two_of hl, getD_ne nd (by omega) (by omega) (by omega), getD_ne nd (by omega) (by omega) (by omega), getD_at (by omega)⟩
  have ru : Rg (2 + (u : Int)) := .of (by omega) (by omega)
  have rz : Rg (1 + (z : Int)) := .of (by omega) (by omega)
  have tu : (2 + (u : Int)).toNat = 2 + u := by omega
  have tz : (1 + (z : Int)).toNat = 1 + z := by omega
  have rl : (rngItems 0 (2 + u)).length ≤ sizeLine := by
    have : (rngItems 0 (2 + u)).length = 2 + u := by simp [rngItems]
    rw [this, sizeLine_eq]
    omega
  simp at e1 e2 e3 e4 e5
  unfold f_law_4
  simp [e0, e1, e2, e3, hcut, ru, tu, rl, e4, e5, rz, tz]
  refine SOk_rng (1 + z) (I14 w8 w9 st 1000 (.val (.lsk (ns0.map .int))) (.val (.int i)) ns (.val (.lst (ms.map .str))) lots x8 x9 x10 x11 x12) ⟨[], c5, .no, rfl, rfl, b5.mono (by omega), rfl, fun _ h => nomatch h⟩ ?_ ?_
  · rintro q ρ st' hq ⟨rows, c, x7, rfl, rfl, hb, hr, hR⟩
    exact ⟨_, rfl, row_ok (by omega) (by omega) cut (by omega) (by omega) hb hr hR⟩
  · rintro ρ st' ⟨rows, c, x7, rfl, rfl, hb, hr, hR⟩
    have rok := r14_ok n8 n9 hlo hR (by omega)
    obtain ⟨y, c6, e6, b6, hy⟩ := take_at (st := st) (ex := []) (c := c) (many := rows.length) hb (by omega) (by omega) (by omega)
    obtain ⟨r0, hr0, hm0⟩ : ∃ r0, rows[y]? = some r0 ∧ r0 ∈ rows := ⟨rows[y], List.getElem?_eq_getElem hy, List.getElem_mem hy⟩
    have lr0 := (hR r0 hm0).lot
    have rr0 : (Dt.d r0 : D) = .tup [Dt.d r0.1, Dt.d r0.2] := rfl
    have zr : rows.length ≤ sizeLine := by rw [sizeLine_eq]; omega
    have zr1 : rows.length + 1 ≤ sizeLine := by rw [sizeLine_eq]; omega
    have r10 : Rs (10 : Int) := .of (by omega) (by omega)
    try simp at e6
    simp [zr, e6, hr0, rr0, r10, at10, zr1]
    have lr : ∀ r ∈ rows, r.2 ∈ lots := fun r hr => (hR r hr).lot
    have lr2 : ∀ r ∈ rows ++ [(Th.nm w10, r0.2)], r.2 ∈ lots := fun r hr => by
      rcases List.mem_append.mp hr with h | h
      · exact lr r h
      · rw [List.mem_singleton] at h; subst h; exact lr0
    have rok2 : RowsOk (rows ++ [(Th.nm w10, r0.2)]) := by
      refine ⟨by simp; omega, fun r hr => ?_, fun r hr => ?_⟩
      · rcases List.mem_append.mp hr with h | h
        · exact rok.sm r h
        · rw [List.mem_singleton] at h; subst h; exact rok.sm r0 hm0
      · rcases List.mem_append.mp hr with h | h
        · exact rok.ok r h
        · rw [List.mem_singleton] at h; subst h; exact n10.th
    have e2r : rows.map (Dt.d (α := Row)) ++ [D.tup [.str w10, Dt.d r0.2]] = (rows ++ [(Th.nm w10, r0.2)]).map Dt.d := by rw [List.map_append]; rfl
    rw [e2r]
    obtain ⟨rs, hrs⟩ := last_run (rows := rows) (t := .nm w10) (s := r0.2) (fun r hr e => by
      rcases (hR r hr).th with q | q | q
      · rw [q] at e; exact d8 (Th.nm.inj e)
      · rw [q] at e; exact d9 (Th.nm.inj e)
      · rw [q] at e; cases e) (hlo _ lr0).ne (fun z => by cases z)
    obtain ⟨y9, y10, y11, y12, ex, e7⟩ := two_eq (x0 := .val (.lsk (ns0.map .int))) (x1 := .val (.int i)) (x2 := .val (.ref st.length)) (x3 := .val (.lst (ns.map .str))) (x4 := .val (.lst (ms.map .str))) (x5 := .val (.lst (lots.map Dt.d))) (x6 := .val (.lst (rows.map Dt.d))) (x7 := x7) (x8 := .val (.lst ((rows ++ [(Th.nm w10, r0.2)]).map Dt.d))) (x9 := x9) (x10 := x10) (x11 := x11) (x12 := x12) (st := st ++ [c6]) rok rok2 lr lr2 (by omega)
    rw [e7, SOk_nx]
    obtain ⟨n, eb⟩ := new_book rok2
    have e8 := eb (fa := vr 8) (ρ := [.val (.lsk (ns0.map .int)), .val (.int i), .val (.ref st.length), .val (.lst (ns.map .str)), .val (.lst (ms.map .str)), .val (.lst (lots.map Dt.d)), .val (.lst (rows.map Dt.d)), x7, .val (.lst ((rows ++ [(Th.nm w10, r0.2)]).map Dt.d)), y9, y10, y11, y12]) (st := st ++ [c6] ++ ex) rfl (.inl rfl)
    have M := meth_runs rok2 e8
    rw [hrs] at M
    have lrs : rs.length ≤ 900 := by
      have h1 := BK.runsOf_len (red (rows ++ [(Th.nm w10, r0.2)]))
      have h2 := rok2.red.len
      rw [hrs, List.length_append] at h1
      have h3 := (red_ok' (rows ++ [(Th.nm w10, r0.2)])).2.2
      simp at h1 h3
      omega
    have I1 := ix_end (rs.map (Dt.d (α := Th × List HS))) (Dt.d ((Th.nm w10, [r0.2]) : Th × List HS)) (by rw [List.length_map]; omega)
    have I2 := ix_end (rows.map (Dt.d (α := Row))) (Dt.d ((Th.nm w10, r0.2) : Row)) (by rw [List.length_map]; omega)
    have em : (rs ++ [(Th.nm w10, [r0.2])]).map (Dt.d (α := Th × List HS)) = rs.map (Dt.d (α := Th × List HS)) ++ [Dt.d ((Th.nm w10, [r0.2]) : Th × List HS)] := by rw [List.map_append]; rfl
    have em2 : (rows ++ [(Th.nm w10, r0.2)]).map (Dt.d (α := Row)) = rows.map (Dt.d (α := Row)) ++ [Dt.d ((Th.nm w10, r0.2) : Row)] := by rw [List.map_append]; rfl
    rw [em] at M
    have ng : ∀ (ρ : En) (s : Store), lift1 pNeg (cst (.int 1)) ρ s = .ok (.int (-1)) ρ s := fun _ _ => by simp
    have P10 : ∀ s : Store, pureE (plift2 pIx (pvw 3) (pcst (.int 10))) [.val (.lsk (ns0.map .int)), .val (.int i), .val (.ref st.length), .val (.lst (ns.map .str)), .val (.lst (ms.map .str)), .val (.lst (lots.map Dt.d)), .val (.lst (rows.map Dt.d)), x7, .val (.lst ((rows ++ [(Th.nm w10, r0.2)]).map Dt.d)), y9, y10, y11, y12] s = .ok (.str w10) [.val (.lsk (ns0.map .int)), .val (.int i), .val (.ref st.length), .val (.lst (ns.map .str)), .val (.lst (ms.map .str)), .val (.lst (lots.map Dt.d)), .val (.lst (rows.map Dt.d)), x7, .val (.lst ((rows ++ [(Th.nm w10, r0.2)]).map Dt.d)), y9, y10, y11, y12] s := fun s => by simp [r10, at10]
    have r1 : Rs (1 : Int) := .of (by omega) (by omega)
    have P8 : ∀ s : Store, pureE (plift2 pIx (plift2 pIx (pvw 8) (plift1 pNeg (pcst (.int 1)))) (pcst (.int 1))) [.val (.lsk (ns0.map .int)), .val (.int i), .val (.ref st.length), .val (.lst (ns.map .str)), .val (.lst (ms.map .str)), .val (.lst (lots.map Dt.d)), .val (.lst (rows.map Dt.d)), x7, .val (.lst ((rows ++ [(Th.nm w10, r0.2)]).map Dt.d)), y9, y10, y11, y12] s = .ok (Dt.d r0.2) [.val (.lsk (ns0.map .int)), .val (.int i), .val (.ref st.length), .val (.lst (ns.map .str)), .val (.lst (ms.map .str)), .val (.lst (lots.map Dt.d)), .val (.lst (rows.map Dt.d)), x7, .val (.lst ((rows ++ [(Th.nm w10, r0.2)]).map Dt.d)), y9, y10, y11, y12] s := fun s => by
      have sn : seen s (.val (.lst ((rows ++ [(Th.nm w10, r0.2)]).map (Dt.d (α := Row))))) = some (.lst ((rows ++ [(Th.nm w10, r0.2)]).map Dt.d)) := rfl
      have pn : pNeg (.int 1) = some (.int (-1)) := by simp
      rw [em2] at sn ⊢
      have p2 : pIx (Dt.d ((Th.nm w10, r0.2) : Row)) (.int 1) = some (Dt.d r0.2) := rfl
      simp only [pureE, plift2, plift1, pvw, pcst, List.getElem?_cons_succ, List.getElem?_cons_zero, sn, pn, I2, p2]
    have pn : pNe (Dt.d ((Th.nm w10, [r0.2]) : Th × List HS)) (Dt.d ((Th.nm w10, [r0.2]) : Th × List HS)) = some (.bl false) := by
      have := pNe_dt (α := Th × List HS) (a := (Th.nm w10, [r0.2])) (b := (Th.nm w10, [r0.2])) ⟨n10.th, fun _ _ => trivial⟩ ⟨n10.th, fun _ _ => trivial⟩
      rw [decide_eq_true rfl] at this
      exact this
    have dd : (Dt.d ((Th.nm w10, [r0.2]) : Th × List HS) : D) = .tup [.str w10, .lst [Dt.d r0.2]] := rfl
    rw [dd] at pn
    have I1' : pIx (.lst (rs.map (Dt.d (α := Th × List HS)) ++ [Dt.d ((Th.nm w10, [r0.2]) : Th × List HS)])) (.int (-1)) = some (.tup [.str w10, .lst [Dt.d r0.2]]) := I1
    simp only [k_seq, SOk_if, EOk_ok]
    have F : lift2 pNe (lift2 pIx (methD "Book" "runs" d_Book_runs [] (fzE (makeD "Book" d_Book___init__ [] (aCons (vr 8) aNil))) aNil) (lift1 pNeg (cst (.int 1)))) (aCons (pureE (plift2 pIx (pvw 3) (pcst (.int 10)))) (aCons (lstD (aCons (pureE (plift2 pIx (plift2 pIx (pvw 8) (plift1 pNeg (pcst (.int 1)))) (pcst (.int 1)))) aNil)) aNil)) [.val (.lsk (ns0.map .int)), .val (.int i), .val (.ref st.length), .val (.lst (ns.map .str)), .val (.lst (ms.map .str)), .val (.lst (lots.map Dt.d)), .val (.lst (rows.map Dt.d)), x7, .val (.lst ((rows ++ [(Th.nm w10, r0.2)]).map Dt.d)), y9, y10, y11, y12] (st ++ [c6] ++ ex) = .ok (.bl false) [.val (.lsk (ns0.map .int)), .val (.int i), .val (.ref st.length), .val (.lst (ns.map .str)), .val (.lst (ms.map .str)), .val (.lst (lots.map Dt.d)), .val (.lst (rows.map Dt.d)), x7, .val (.lst ((rows ++ [(Th.nm w10, r0.2)]).map Dt.d)), y9, y10, y11, y12] (st ++ [c6] ++ ex ++ List.replicate n .dead ++ List.replicate (rs ++ [(Th.nm w10, [r0.2])]).length .dead) := by
      simp only [lift2, M, R.bind, ng, I1', aCons, P10, lstD, P8, aNil, pn]
    rw [F, EOk_ok, k_SOk_if_bl, if_neg (by decide)]
    exact ⟨_, _, _, _, _, _, _, _, _, _, _, _, rfl⟩
theorem hd : ∀ ns : List Int, ns.length ≤ 63 → ∃ st, d_law [.lsk (ns.map .int)] [] = .ok (.bl true) [] st := fun ns hl => by
  have : DOk (d_law [.lsk (ns.map .int)] []) fun d _ => d = .bl true := by
    unfold d_law
    refine DOk_run ?_
    unfold b_law
    obtain ⟨m, hm, em⟩ : ∃ m : Nat, m ≤ 6 ∧ (if (1 : Int) < (if (ns.length : Int) < 6 then (ns.length : Int) else 6) then (if (ns.length : Int) < 6 then (ns.length : Int) else 6) else 1) = (m : Int) := by
      by_cases h : (ns.length : Int) < 6
      · by_cases h1 : (1 : Int) < (ns.length : Int)
        · exact ⟨ns.length, by omega, by rw [if_pos h, if_pos h1]⟩
        · exact ⟨1, by omega, by rw [if_pos h, if_neg h1]; rfl⟩
      · exact ⟨6, by omega, by simp [h]⟩
    have r1 : Rg (m : Int) := .of (by omega) (by omega)
    simp [em, r1]
    refine SOk_rng m (T14 ns) ⟨.no, .no, .no, .no, .no, .no, .no, .no, .no, .no, .no, .no, rfl⟩ ?_ ?_
    · rintro q ρ st' hq ⟨x1, x2, x3, x4, x5, x6, x7, x8, x9, x10, x11, x12, rfl⟩
      exact ⟨_, rfl, k14_turn (by omega)⟩
    · rintro ρ st' ⟨x1, x2, x3, x4, x5, x6, x7, x8, x9, x10, x11, x12, rfl⟩
      simp
  obtain ⟨d, st, e, rfl⟩ := this
  exact ⟨st, e⟩
theorem all_mk {l : PySem.W.OpenLaw} {w : World} {K : PySem.W.Frag} {h : Heap} {mg : Str → Option Value} {fa : Addr} (hd : ∀ ns : List Int, ns.length ≤ 63 → ∃ st, d_law [.lsk (ns.map .int)] [] = .ok (.bl true) [] st) (X : K.In h) (G : h.Ns mainGlobals mg) (hfa : mg "law" = some (.ref fa))
    {K_Book : Addr}
    {f0 : Addr} {od0 an0 : Option Addr} {sl0 : Array (Option Value)} {oc0 kV0 dc0 pm0 cd0 ct0 : Value}
    {f1 : Addr} {od1 an1 : Option Addr} {sl1 : Array (Option Value)} {oc1 kV1 dc1 pm1 cd1 ct1 : Value}
    {f2 : Addr} {od2 an2 : Option Addr} {sl2 : Array (Option Value)} {oc2 kV2 dc2 pm2 cd2 ct2 : Value}
    {f3 : Addr} {od3 an3 : Option Addr} {sl3 : Array (Option Value)} {oc3 kV3 dc3 pm3 cd3 ct3 : Value}
    {f4 : Addr} {od4 an4 : Option Addr} {sl4 : Array (Option Value)} {oc4 kV4 dc4 pm4 cd4 ct4 : Value}
    {f5 : Addr} {od5 an5 : Option Addr} {sl5 : Array (Option Value)} {oc5 kV5 dc5 pm5 cd5 ct5 : Value}
    {f6 : Addr} {od6 an6 : Option Addr} {sl6 : Array (Option Value)} {oc6 kV6 dc6 pm6 cd6 ct6 : Value}
    {f7 : Addr} {od7 an7 : Option Addr} {sl7 : Array (Option Value)} {oc7 kV7 dc7 pm7 cd7 ct7 : Value}
    {f8 : Addr} {od8 an8 : Option Addr} {sl8 : Array (Option Value)} {oc8 kV8 dc8 pm8 cd8 ct8 : Value}
    {f9 : Addr} {od9 an9 : Option Addr} {sl9 : Array (Option Value)} {oc9 kV9 dc9 pm9 cd9 ct9 : Value}
    {f10 : Addr} {od10 an10 : Option Addr} {sl10 : Array (Option Value)} {oc10 kV10 dc10 pm10 cd10 ct10 : Value}
    {f11 : Addr} {od11 an11 : Option Addr} {sl11 : Array (Option Value)} {oc11 kV11 dc11 pm11 cd11 ct11 : Value}
    {T11 : Addr} {tc11 : Value} {td11 : Option Addr} {tn11 : Nat} {ts11 : Array (Option Value)}
    {tv11_0 : Addr}
    {qc11_0 : Option Addr} {qn11_0 : Nat} {qs11_0 : Array (Option Value)}
    {f12 : Addr} {od12 an12 : Option Addr} {sl12 : Array (Option Value)} {oc12 kV12 dc12 pm12 cd12 ct12 : Value}
    {f13 : Addr} {od13 an13 : Option Addr} {sl13 : Array (Option Value)} {oc13 kV13 dc13 pm13 cd13 ct13 : Value}
    {f14 : Addr} {od14 an14 : Option Addr} {sl14 : Array (Option Value)} {oc14 kV14 dc14 pm14 cd14 ct14 : Value}
    {f15 : Addr} {od15 an15 : Option Addr} {sl15 : Array (Option Value)} {oc15 kV15 dc15 pm15 cd15 ct15 : Value}
    {f16 : Addr} {od16 an16 : Option Addr} {sl16 : Array (Option Value)} {oc16 kV16 dc16 pm16 cd16 ct16 : Value}
    {f17 : Addr} {od17 an17 : Option Addr} {sl17 : Array (Option Value)} {oc17 kV17 dc17 pm17 cd17 ct17 : Value}
    {f18 : Addr} {od18 an18 : Option Addr} {sl18 : Array (Option Value)} {oc18 kV18 dc18 pm18 cd18 ct18 : Value}
    {f19 : Addr} {od19 an19 : Option Addr} {sl19 : Array (Option Value)} {oc19 kV19 dc19 pm19 cd19 ct19 : Value}
    {f20 : Addr} {od20 an20 : Option Addr} {sl20 : Array (Option Value)} {oc20 kV20 dc20 pm20 cd20 ct20 : Value}
    {f21 : Addr} {od21 an21 : Option Addr} {sl21 : Array (Option Value)} {oc21 kV21 dc21 pm21 cd21 ct21 : Value}
    (aC_Book : PySem.W.nsIn K mainGlobals "Book" = some (some (.ref K_Book)))
    (pg_Book : PySem.W.plainGet K K_Book Str.empty = true)
    (hd_Book : PySem.W.hasDictIn K K_Book = true)
    (po_Book : PySem.W.plainOver K K_Book = true)
    (sa_Book : PySem.W.findIn K (.ref K_Book) "__setattr__" = some (some (.builtin "object.__setattr__")))
    (mk_Book : PySem.W.makesIn K K_Book = true)
    (kc_Book : PySem.W.keepIn K (.ref K_Book) = true)
    (na_Book_kept_rows : PySem.W.findIn K (.ref K_Book) "kept_rows" = some none)
    (a0 : PySem.W.nsIn K mainGlobals "_law_bag" = some (some (.ref f0)))
    (l0 : K.lookup f0 = some ⟨oc0, od0, .func (PySem.W.fnOf "_law_bag" "_law_bag" (defArgs s__law_bag) (defBody s__law_bag) (defScope s__law_bag) .none kV0 dc0 pm0 an0 cd0 ct0), sl0⟩)
    (c0_ : PySem.W.codeIn K cd0 "_law_bag" = true)
    (k0 : PySem.W.keepIn K (.ref f0) = true)
    (a1 : PySem.W.nsIn K mainGlobals "_law_take" = some (some (.ref f1)))
    (l1 : K.lookup f1 = some ⟨oc1, od1, .func (PySem.W.fnOf "_law_take" "_law_take" (defArgs s__law_take) (defBody s__law_take) (defScope s__law_take) .none kV1 dc1 pm1 an1 cd1 ct1), sl1⟩)
    (c1_ : PySem.W.codeIn K cd1 "_law_take" = true)
    (k1 : PySem.W.keepIn K (.ref f1) = true)
    (a2 : PySem.W.nsIn K mainGlobals "_law_name" = some (some (.ref f2)))
    (l2 : K.lookup f2 = some ⟨oc2, od2, .func (PySem.W.fnOf "_law_name" "_law_name" (defArgs s__law_name) (defBody s__law_name) (defScope s__law_name) .none kV2 dc2 pm2 an2 cd2 ct2), sl2⟩)
    (c2_ : PySem.W.codeIn K cd2 "_law_name" = true)
    (k2 : PySem.W.keepIn K (.ref f2) = true)
    (a3 : PySem.W.nsIn K mainGlobals "_law_names" = some (some (.ref f3)))
    (l3 : K.lookup f3 = some ⟨oc3, od3, .func (PySem.W.fnOf "_law_names" "_law_names" (defArgs s__law_names) (defBody s__law_names) (defScope s__law_names) .none kV3 dc3 pm3 an3 cd3 ct3), sl3⟩)
    (c3_ : PySem.W.codeIn K cd3 "_law_names" = true)
    (k3 : PySem.W.keepIn K (.ref f3) = true)
    (a4 : PySem.W.nsIn K mainGlobals "_law_some" = some (some (.ref f4)))
    (l4 : K.lookup f4 = some ⟨oc4, od4, .func (PySem.W.fnOf "_law_some" "_law_some" (defArgs s__law_some) (defBody s__law_some) (defScope s__law_some) .none kV4 dc4 pm4 an4 cd4 ct4), sl4⟩)
    (c4_ : PySem.W.codeIn K cd4 "_law_some" = true)
    (k4 : PySem.W.keepIn K (.ref f4) = true)
    (a5 : PySem.W.findIn K (.ref K_Book) "rows" = some (some (.ref f5)))
    (i5 : PySem.W.isFn K (.ref f5) = true)
    (l5 : K.lookup f5 = some ⟨oc5, od5, .func (PySem.W.fnOf "rows" "Book.rows" (defArgs s_Book_rows) (defBody s_Book_rows) (defScope s_Book_rows) .none kV5 dc5 pm5 an5 cd5 ct5), sl5⟩)
    (c5_ : PySem.W.codeIn K cd5 "Book.rows" = true)
    (k5 : PySem.W.keepIn K (.ref f5) = true)
    (a6 : PySem.W.nsIn K mainGlobals "is_within" = some (some (.ref f6)))
    (l6 : K.lookup f6 = some ⟨oc6, od6, .func (PySem.W.fnOf "is_within" "is_within" (defArgs s_is_within) (defBody s_is_within) (defScope s_is_within) .none kV6 dc6 pm6 an6 cd6 ct6), sl6⟩)
    (c6_ : PySem.W.codeIn K cd6 "is_within" = true)
    (k6 : PySem.W.keepIn K (.ref f6) = true)
    (a7 : PySem.W.nsIn K mainGlobals "thinned" = some (some (.ref f7)))
    (l7 : K.lookup f7 = some ⟨oc7, od7, .func (PySem.W.fnOf "thinned" "thinned" (defArgs s_thinned) (defBody s_thinned) (defScope s_thinned) .none kV7 dc7 pm7 an7 cd7 ct7), sl7⟩)
    (c7_ : PySem.W.codeIn K cd7 "thinned" = true)
    (k7 : PySem.W.keepIn K (.ref f7) = true)
    (a8 : PySem.W.nsIn K mainGlobals "runs_of" = some (some (.ref f8)))
    (l8 : K.lookup f8 = some ⟨oc8, od8, .func (PySem.W.fnOf "runs_of" "runs_of" (defArgs s_runs_of) (defBody s_runs_of) (defScope s_runs_of) .none kV8 dc8 pm8 an8 cd8 ct8), sl8⟩)
    (c8_ : PySem.W.codeIn K cd8 "runs_of" = true)
    (k8 : PySem.W.keepIn K (.ref f8) = true)
    (a9 : PySem.W.nsIn K mainGlobals "uncovered" = some (some (.ref f9)))
    (l9 : K.lookup f9 = some ⟨oc9, od9, .func (PySem.W.fnOf "uncovered" "uncovered" (defArgs s_uncovered) (defBody s_uncovered) (defScope s_uncovered) .none kV9 dc9 pm9 an9 cd9 ct9), sl9⟩)
    (c9_ : PySem.W.codeIn K cd9 "uncovered" = true)
    (k9 : PySem.W.keepIn K (.ref f9) = true)
    (a10 : PySem.W.nsIn K mainGlobals "reduced" = some (some (.ref f10)))
    (l10 : K.lookup f10 = some ⟨oc10, od10, .func (PySem.W.fnOf "reduced" "reduced" (defArgs s_reduced) (defBody s_reduced) (defScope s_reduced) .none kV10 dc10 pm10 an10 cd10 ct10), sl10⟩)
    (c10_ : PySem.W.codeIn K cd10 "reduced" = true)
    (k10 : PySem.W.keepIn K (.ref f10) = true)
    (a11 : PySem.W.findIn K (.ref K_Book) "__init__" = some (some (.ref f11)))
    (i11 : PySem.W.isFn K (.ref f11) = true)
    (l11 : K.lookup f11 = some ⟨oc11, od11, .func (PySem.W.fnOf "__init__" "Book.__init__" (defArgs s_Book___init__) (defBody s_Book___init__) (defScope s_Book___init__) (.ref T11) kV11 dc11 pm11 an11 cd11 ct11), sl11⟩)
    (c11_ : PySem.W.codeIn K cd11 "Book.__init__" = true)
    (k11 : PySem.W.keepIn K (.ref f11) = true)
    (t11 : K.lookup T11 = some ⟨tc11, td11, .seq #[.ref tv11_0] tn11, ts11⟩)
    (q11_0 : K.lookup tv11_0 = some ⟨.type "tuple", qc11_0, .seq #[] qn11_0, qs11_0⟩)
    (a12 : PySem.W.nsIn K mainGlobals "_law_inside" = some (some (.ref f12)))
    (l12 : K.lookup f12 = some ⟨oc12, od12, .func (PySem.W.fnOf "_law_inside" "_law_inside" (defArgs s__law_inside) (defBody s__law_inside) (defScope s__law_inside) .none kV12 dc12 pm12 an12 cd12 ct12), sl12⟩)
    (c12_ : PySem.W.codeIn K cd12 "_law_inside" = true)
    (k12 : PySem.W.keepIn K (.ref f12) = true)
    (a13 : PySem.W.nsIn K mainGlobals "_law_needless" = some (some (.ref f13)))
    (l13 : K.lookup f13 = some ⟨oc13, od13, .func (PySem.W.fnOf "_law_needless" "_law_needless" (defArgs s__law_needless) (defBody s__law_needless) (defScope s__law_needless) .none kV13 dc13 pm13 an13 cd13 ct13), sl13⟩)
    (c13_ : PySem.W.codeIn K cd13 "_law_needless" = true)
    (k13 : PySem.W.keepIn K (.ref f13) = true)
    (a14 : PySem.W.nsIn K mainGlobals "_law_is_behind" = some (some (.ref f14)))
    (l14 : K.lookup f14 = some ⟨oc14, od14, .func (PySem.W.fnOf "_law_is_behind" "_law_is_behind" (defArgs s__law_is_behind) (defBody s__law_is_behind) (defScope s__law_is_behind) .none kV14 dc14 pm14 an14 cd14 ct14), sl14⟩)
    (c14_ : PySem.W.codeIn K cd14 "_law_is_behind" = true)
    (k14 : PySem.W.keepIn K (.ref f14) = true)
    (a15 : PySem.W.nsIn K mainGlobals "_law_reduced" = some (some (.ref f15)))
    (l15 : K.lookup f15 = some ⟨oc15, od15, .func (PySem.W.fnOf "_law_reduced" "_law_reduced" (defArgs s__law_reduced) (defBody s__law_reduced) (defScope s__law_reduced) .none kV15 dc15 pm15 an15 cd15 ct15), sl15⟩)
    (c15_ : PySem.W.codeIn K cd15 "_law_reduced" = true)
    (k15 : PySem.W.keepIn K (.ref f15) = true)
    (a16 : PySem.W.nsIn K mainGlobals "_law_same" = some (some (.ref f16)))
    (l16 : K.lookup f16 = some ⟨oc16, od16, .func (PySem.W.fnOf "_law_same" "_law_same" (defArgs s__law_same) (defBody s__law_same) (defScope s__law_same) .none kV16 dc16 pm16 an16 cd16 ct16), sl16⟩)
    (c16_ : PySem.W.codeIn K cd16 "_law_same" = true)
    (k16 : PySem.W.keepIn K (.ref f16) = true)
    (a17 : PySem.W.findIn K (.ref K_Book) "runs" = some (some (.ref f17)))
    (i17 : PySem.W.isFn K (.ref f17) = true)
    (l17 : K.lookup f17 = some ⟨oc17, od17, .func (PySem.W.fnOf "runs" "Book.runs" (defArgs s_Book_runs) (defBody s_Book_runs) (defScope s_Book_runs) .none kV17 dc17 pm17 an17 cd17 ct17), sl17⟩)
    (c17_ : PySem.W.codeIn K cd17 "Book.runs" = true)
    (k17 : PySem.W.keepIn K (.ref f17) = true)
    (a18 : PySem.W.nsIn K mainGlobals "_law_runs" = some (some (.ref f18)))
    (l18 : K.lookup f18 = some ⟨oc18, od18, .func (PySem.W.fnOf "_law_runs" "_law_runs" (defArgs s__law_runs) (defBody s__law_runs) (defScope s__law_runs) .none kV18 dc18 pm18 an18 cd18 ct18), sl18⟩)
    (c18_ : PySem.W.codeIn K cd18 "_law_runs" = true)
    (k18 : PySem.W.keepIn K (.ref f18) = true)
    (a19 : PySem.W.findIn K (.ref K_Book) "__len__" = some (some (.ref f19)))
    (i19 : PySem.W.isFn K (.ref f19) = true)
    (l19 : K.lookup f19 = some ⟨oc19, od19, .func (PySem.W.fnOf "__len__" "Book.__len__" (defArgs s_Book___len__) (defBody s_Book___len__) (defScope s_Book___len__) .none kV19 dc19 pm19 an19 cd19 ct19), sl19⟩)
    (c19_ : PySem.W.codeIn K cd19 "Book.__len__" = true)
    (k19 : PySem.W.keepIn K (.ref f19) = true)
    (a20 : PySem.W.nsIn K mainGlobals "_law_book_right" = some (some (.ref f20)))
    (l20 : K.lookup f20 = some ⟨oc20, od20, .func (PySem.W.fnOf "_law_book_right" "_law_book_right" (defArgs s__law_book_right) (defBody s__law_book_right) (defScope s__law_book_right) .none kV20 dc20 pm20 an20 cd20 ct20), sl20⟩)
    (c20_ : PySem.W.codeIn K cd20 "_law_book_right" = true)
    (k20 : PySem.W.keepIn K (.ref f20) = true)
    (a21 : PySem.W.nsIn K mainGlobals "law" = some (some (.ref f21)))
    (l21 : K.lookup f21 = some ⟨oc21, od21, .func (PySem.W.fnOf "law" "law" (defArgs s_law) (defBody s_law) (defScope s_law) .none kV21 dc21 pm21 an21 cd21 ct21), sl21⟩)
    (c21_ : PySem.W.codeIn K cd21 "law" = true)
    (k21 : PySem.W.keepIn K (.ref f21) = true)
    (z_abs : PySem.W.nsIn K mainGlobals "abs" = some none)
    (z_all : PySem.W.nsIn K mainGlobals "all" = some none)
    (z_any : PySem.W.nsIn K mainGlobals "any" = some none)
    (z_bool : PySem.W.nsIn K mainGlobals "bool" = some none)
    (z_enumerate : PySem.W.nsIn K mainGlobals "enumerate" = some none)
    (z_int : PySem.W.nsIn K mainGlobals "int" = some none)
    (z_isinstance : PySem.W.nsIn K mainGlobals "isinstance" = some none)
    (z_len : PySem.W.nsIn K mainGlobals "len" = some none)
    (z_list : PySem.W.nsIn K mainGlobals "list" = some none)
    (z_max : PySem.W.nsIn K mainGlobals "max" = some none)
    (z_min : PySem.W.nsIn K mainGlobals "min" = some none)
    (z_range : PySem.W.nsIn K mainGlobals "range" = some none)
    (z_set : PySem.W.nsIn K mainGlobals "set" = some none)
    (z_sorted : PySem.W.nsIn K mainGlobals "sorted" = some none)
    (z_tuple : PySem.W.nsIn K mainGlobals "tuple" = some none)
    (z_zip : PySem.W.nsIn K mainGlobals "zip" = some none) :
    ∃ fd : FuncData, (∀ (s : Shared) (v : Value), BindsTo s fd ⟨[v], []⟩ [("_law_script", v)]) ∧ ∀ base : Heap, K.In base → base.Ns mainGlobals mg → FnG l.prog w K mg base (L2N.CX l.prog w) 10 fa fd ["_law_script"] (spLaw K) := by
  have e := hfa.symm.trans (PySem.W.mg_of X G a21)
  cases e
  have T : Fx K mg := ⟨PySem.W.mg_none_of X G z_abs, PySem.W.mg_none_of X G z_all, PySem.W.mg_none_of X G z_any, PySem.W.mg_none_of X G z_bool, PySem.W.mg_none_of X G z_enumerate, PySem.W.mg_none_of X G z_int, PySem.W.mg_none_of X G z_isinstance, PySem.W.mg_none_of X G z_len, PySem.W.mg_none_of X G z_list, PySem.W.mg_none_of X G z_max, PySem.W.mg_none_of X G z_min, PySem.W.mg_none_of X G z_range, PySem.W.mg_none_of X G z_set, PySem.W.mg_none_of X G z_sorted, PySem.W.mg_none_of X G z_tuple, PySem.W.mg_none_of X G z_zip, hld1 (PySem.W.mg_of X G aC_Book) ⟨pg_Book, hd_Book, po_Book, sa_Book⟩ na_Book_kept_rows⟩
  have F0 := fun_mk (st := s__law_bag) l0 c0_ k0
  have D0 : Dfn K mg "_law_bag" ["_law_script", "_law_at"] s__law_bag := ⟨_, _, F0, PySem.W.mg_of X G a0, (F0.binds (ps := ["_law_script", "_law_at"]) fun _ _ _ _ _ _ us hl => match us, hl with | [_, _], _ => rfl)⟩
  have F1 := fun_mk (st := s__law_take) l1 c1_ k1
  have D1 : Dfn K mg "_law_take" ["_law_bag_here", "_law_many"] s__law_take := ⟨_, _, F1, PySem.W.mg_of X G a1, (F1.binds (ps := ["_law_bag_here", "_law_many"]) fun _ _ _ _ _ _ us hl => match us, hl with | [_, _], _ => rfl)⟩
  have F2 := fun_mk (st := s__law_name) l2 c2_ k2
  have D2 : Dfn K mg "_law_name" ["_law_bag_here"] s__law_name := ⟨_, _, F2, PySem.W.mg_of X G a2, (F2.binds (ps := ["_law_bag_here"]) fun _ _ _ _ _ _ us hl => match us, hl with | [_], _ => rfl)⟩
  have F3 := fun_mk (st := s__law_names) l3 c3_ k3
  have D3 : Dfn K mg "_law_names" ["_law_bag_here", "_law_many"] s__law_names := ⟨_, _, F3, PySem.W.mg_of X G a3, (F3.binds (ps := ["_law_bag_here", "_law_many"]) fun _ _ _ _ _ _ us hl => match us, hl with | [_, _], _ => rfl)⟩
  have F4 := fun_mk (st := s__law_some) l4 c4_ k4
  have D4 : Dfn K mg "_law_some" ["_law_bag_here", "_law_members", "_law_most"] s__law_some := ⟨_, _, F4, PySem.W.mg_of X G a4, (F4.binds (ps := ["_law_bag_here", "_law_members", "_law_most"]) fun _ _ _ _ _ _ us hl => match us, hl with | [_, _, _], _ => rfl)⟩
  have F5 := fun_mk (st := s_Book_rows) l5 c5_ k5
  have D5 : Mfn K mg "Book" "rows" "Book.rows" ["self"] s_Book_rows [] := ⟨_, _, _, _, _, PySem.W.mg_of X G aC_Book, ⟨pg_Book, hd_Book, po_Book, sa_Book⟩, ⟨a5, i5, k5⟩, funV_of F5, (F5.binds (ps := ["self"]) fun _ _ _ _ _ _ us hl => match us, hl with | [_], _ => rfl), .nil, fun _ _ _ => .nil⟩
  have F6 := fun_mk (st := s_is_within) l6 c6_ k6
  have D6 : Dfn K mg "is_within" ["one", "other"] s_is_within := ⟨_, _, F6, PySem.W.mg_of X G a6, (F6.binds (ps := ["one", "other"]) fun _ _ _ _ _ _ us hl => match us, hl with | [_, _], _ => rfl)⟩
  have F7 := fun_mk (st := s_thinned) l7 c7_ k7
  have D7 : Dfn K mg "thinned" ["lot"] s_thinned := ⟨_, _, F7, PySem.W.mg_of X G a7, (F7.binds (ps := ["lot"]) fun _ _ _ _ _ _ us hl => match us, hl with | [_], _ => rfl)⟩
  have F8 := fun_mk (st := s_runs_of) l8 c8_ k8
  have D8 : Dfn K mg "runs_of" ["rows"] s_runs_of := ⟨_, _, F8, PySem.W.mg_of X G a8, (F8.binds (ps := ["rows"]) fun _ _ _ _ _ _ us hl => match us, hl with | [_], _ => rfl)⟩
  have F9 := fun_mk (st := s_uncovered) l9 c9_ k9
  have D9 : Dfn K mg "uncovered" ["rows"] s_uncovered := ⟨_, _, F9, PySem.W.mg_of X G a9, (F9.binds (ps := ["rows"]) fun _ _ _ _ _ _ us hl => match us, hl with | [_], _ => rfl)⟩
  have F10 := fun_mk (st := s_reduced) l10 c10_ k10
  have D10 : Dfn K mg "reduced" ["rows"] s_reduced := ⟨_, _, F10, PySem.W.mg_of X G a10, (F10.binds (ps := ["rows"]) fun _ _ _ _ _ _ us hl => match us, hl with | [_], _ => rfl)⟩
  have F11 : FunD K "__init__" "Book.__init__" (defArgs s_Book___init__) (defBody s_Book___init__) (defScope s_Book___init__) [.ref tv11_0] [] f11 _ := ⟨⟨_, _, _, _, _, _, _, _, _, _, rfl, l11, c11_, .inr ⟨by simp, T11, _, [.ref tv11_0], _, rfl, t11, rfl, .cons rfl (.nil)⟩, .inl rfl⟩, k11⟩
  obtain ⟨ds11_f, vd11_f, B11_f⟩ := F11.binds1 (ps := ["self", "rows"]) 2 1 (by simp) rfl fun _ _ _ _ _ _ _ us its hl hi => match us, hl, its, hi with | [_, _], _, [_], _ => ⟨_, rfl, rfl⟩
  have e11_f := vals_nil vd11_f
  subst e11_f
  have D11 : Kfn K mg "Book" "Book.__init__" ["self", "rows"] s_Book___init__ [] := ⟨_, _, _, _, _, PySem.W.mg_of X G aC_Book, ⟨mk_Book, a11, i11, kc_Book⟩, funD_v F11, B11_f, .nil, fun _ _ _ => .nil⟩
  have F12 := fun_mk (st := s__law_inside) l12 c12_ k12
  have D12 : Dfn K mg "_law_inside" ["_law_lot", "_law_lots"] s__law_inside := ⟨_, _, F12, PySem.W.mg_of X G a12, (F12.binds (ps := ["_law_lot", "_law_lots"]) fun _ _ _ _ _ _ us hl => match us, hl with | [_, _], _ => rfl)⟩
  have F13 := fun_mk (st := s__law_needless) l13 c13_ k13
  have D13 : Dfn K mg "_law_needless" ["_law_rows"] s__law_needless := ⟨_, _, F13, PySem.W.mg_of X G a13, (F13.binds (ps := ["_law_rows"]) fun _ _ _ _ _ _ us hl => match us, hl with | [_], _ => rfl)⟩
  have F14 := fun_mk (st := s__law_is_behind) l14 c14_ k14
  have D14 : Dfn K mg "_law_is_behind" ["_law_row", "_law_thing", "_law_lot"] s__law_is_behind := ⟨_, _, F14, PySem.W.mg_of X G a14, (F14.binds (ps := ["_law_row", "_law_thing", "_law_lot"]) fun _ _ _ _ _ _ us hl => match us, hl with | [_, _, _], _ => rfl)⟩
  have F15 := fun_mk (st := s__law_reduced) l15 c15_ k15
  have D15 : Dfn K mg "_law_reduced" ["_law_rows"] s__law_reduced := ⟨_, _, F15, PySem.W.mg_of X G a15, (F15.binds (ps := ["_law_rows"]) fun _ _ _ _ _ _ us hl => match us, hl with | [_], _ => rfl)⟩
  have F16 := fun_mk (st := s__law_same) l16 c16_ k16
  have D16 : Dfn K mg "_law_same" ["_law_found", "_law_due"] s__law_same := ⟨_, _, F16, PySem.W.mg_of X G a16, (F16.binds (ps := ["_law_found", "_law_due"]) fun _ _ _ _ _ _ us hl => match us, hl with | [_, _], _ => rfl)⟩
  have F17 := fun_mk (st := s_Book_runs) l17 c17_ k17
  have D17 : Mfn K mg "Book" "runs" "Book.runs" ["self"] s_Book_runs [] := ⟨_, _, _, _, _, PySem.W.mg_of X G aC_Book, ⟨pg_Book, hd_Book, po_Book, sa_Book⟩, ⟨a17, i17, k17⟩, funV_of F17, (F17.binds (ps := ["self"]) fun _ _ _ _ _ _ us hl => match us, hl with | [_], _ => rfl), .nil, fun _ _ _ => .nil⟩
  have F18 := fun_mk (st := s__law_runs) l18 c18_ k18
  have D18 : Dfn K mg "_law_runs" ["_law_rows"] s__law_runs := ⟨_, _, F18, PySem.W.mg_of X G a18, (F18.binds (ps := ["_law_rows"]) fun _ _ _ _ _ _ us hl => match us, hl with | [_], _ => rfl)⟩
  have F19 := fun_mk (st := s_Book___len__) l19 c19_ k19
  have D19 : Mfn K mg "Book" "__len__" "Book.__len__" ["self"] s_Book___len__ [] := ⟨_, _, _, _, _, PySem.W.mg_of X G aC_Book, ⟨pg_Book, hd_Book, po_Book, sa_Book⟩, ⟨a19, i19, k19⟩, funV_of F19, (F19.binds (ps := ["self"]) fun _ _ _ _ _ _ us hl => match us, hl with | [_], _ => rfl), .nil, fun _ _ _ => .nil⟩
  have F20 := fun_mk (st := s__law_book_right) l20 c20_ k20
  have D20 : Dfn K mg "_law_book_right" ["_law_book", "_law_rows"] s__law_book_right := ⟨_, _, F20, PySem.W.mg_of X G a20, (F20.binds (ps := ["_law_book", "_law_rows"]) fun _ _ _ _ _ _ us hl => match us, hl with | [_, _], _ => rfl)⟩
  have FL := fun_mk (st := s_law) l21 c21_ k21
  refine ⟨PySem.W.fnOf "law" "law" (defArgs s_law) (defBody s_law) (defScope s_law) .none kV21 dc21 pm21 an21 cd21 ct21, fun s v => .of_eq rfl, fun base _ _ => ?_⟩
  have C__law_bag := ok__law_bag (P := l.prog) (wd := w) (base := base) T D0 
  have C__law_take := ok__law_take (P := l.prog) (wd := w) (base := base) T D1 
  have C__law_name := ok__law_name (P := l.prog) (wd := w) (base := base) T D2 C__law_take
  have C__law_names := ok__law_names (P := l.prog) (wd := w) (base := base) T D3 C__law_name
  have C__law_some := ok__law_some (P := l.prog) (wd := w) (base := base) T D4 C__law_take
  have C_Book_rows := ok_Book_rows (P := l.prog) (wd := w) (base := base) T D5 
  have C_is_within := ok_is_within (P := l.prog) (wd := w) (base := base) T D6 
  have C_thinned := ok_thinned (P := l.prog) (wd := w) (base := base) T D7 C_is_within
  have C_runs_of := ok_runs_of (P := l.prog) (wd := w) (base := base) T D8 
  have C_uncovered := ok_uncovered (P := l.prog) (wd := w) (base := base) T D9 C_is_within
  have C_reduced := ok_reduced (P := l.prog) (wd := w) (base := base) T D10 C_uncovered C_runs_of C_thinned
  have C_Book___init__ := ok_Book___init__ (P := l.prog) (wd := w) (base := base) T D11 C_reduced
  have C__law_inside := ok__law_inside (P := l.prog) (wd := w) (base := base) T D12 
  have C__law_needless := ok__law_needless (P := l.prog) (wd := w) (base := base) T D13 C__law_inside
  have C__law_is_behind := ok__law_is_behind (P := l.prog) (wd := w) (base := base) T D14 
  have C__law_reduced := ok__law_reduced (P := l.prog) (wd := w) (base := base) T D15 C__law_is_behind C__law_needless
  have C__law_same := ok__law_same (P := l.prog) (wd := w) (base := base) T D16  8
  have C_Book_runs := ok_Book_runs (P := l.prog) (wd := w) (base := base) T D17 C_runs_of
  have C__law_runs := ok__law_runs (P := l.prog) (wd := w) (base := base) T D18 
  have C_Book___len__ := ok_Book___len__ (P := l.prog) (wd := w) (base := base) T D19 
  have C__law_book_right := ok__law_book_right (P := l.prog) (wd := w) (base := base) T D20 C_Book___len__ C_Book_rows C__law_same C__law_runs C_Book_runs C__law_reduced
  exact lawG_of (ok_law (P := l.prog) (wd := w) (base := base) T C_Book___init__ C_Book_runs C__law_book_right C_Book_rows C__law_take C__law_some C__law_names C__law_bag (PySem.W.mg_of X G a21) FL) hd
end LW
open PySem PySem.W PyProof.Rows
set_option maxRecDepth 100000 in
set_option maxHeartbeats 0 in
theorem PySem.Challenge.cw_allheard_k14_repeated_rows_go_holds : PySem.Challenge.rw_allheard_k14_repeated_rows_go.Holds := by
  refine LW.headQ.2 ?_
  unfold LW.headQ
  dsimp only
  k_fill
  refine DL.law_walkG (l := PySem.Challenge.rw_allheard_k14_repeated_rows_go) (k := 10) (x := "_law_script") rfl rfl ⟨rfl, by decide, by decide⟩ (fun w h Y => PySem.W.kIn_of Y) ?F
  case F =>
    intro w mg fa h KX G hmg
    refine' LW.all_mk LW.hd KX G hmg ?aC_Book ?pg_Book ?hd_Book ?po_Book ?sa_Book ?mk_Book ?kc_Book ?na_Book_kept_rows ?a0 ?l0 ?c0_ ?k0 ?a1 ?l1 ?c1_ ?k1 ?a2 ?l2 ?c2_ ?k2 ?a3 ?l3 ?c3_ ?k3 ?a4 ?l4 ?c4_ ?k4 ?a5 ?i5 ?l5 ?c5_ ?k5 ?a6 ?l6 ?c6_ ?k6 ?a7 ?l7 ?c7_ ?k7 ?a8 ?l8 ?c8_ ?k8 ?a9 ?l9 ?c9_ ?k9 ?a10 ?l10 ?c10_ ?k10 ?a11 ?i11 ?l11 ?c11_ ?k11 ?t11 ?q11_0 ?a12 ?l12 ?c12_ ?k12 ?a13 ?l13 ?c13_ ?k13 ?a14 ?l14 ?c14_ ?k14 ?a15 ?l15 ?c15_ ?k15 ?a16 ?l16 ?c16_ ?k16 ?a17 ?i17 ?l17 ?c17_ ?k17 ?a18 ?l18 ?c18_ ?k18 ?a19 ?i19 ?l19 ?c19_ ?k19 ?a20 ?l20 ?c20_ ?k20 ?a21 ?l21 ?c21_ ?k21 ?z_abs ?z_all ?z_any ?z_bool ?z_enumerate ?z_int ?z_isinstance ?z_len ?z_list ?z_max ?z_min ?z_range ?z_set ?z_sorted ?z_tuple ?z_zip
    (case aC_Book => k_is)
    (case pg_Book => k_is)
    (case hd_Book => k_is)
    (case po_Book => k_is)
    (case sa_Book => k_is)
    (case mk_Book => k_is)
    (case kc_Book => k_is)
    (case na_Book_kept_rows => k_is)
    (case a0 => k_is)
    (case l0 => k_is)
    (case c0_ => k_is)
    (case k0 => k_is)
    (case a1 => k_is)
    (case l1 => k_is)
    (case c1_ => k_is)
    (case k1 => k_is)
    (case a2 => k_is)
    (case l2 => k_is)
    (case c2_ => k_is)
    (case k2 => k_is)
    (case a3 => k_is)
    (case l3 => k_is)
    (case c3_ => k_is)
    (case k3 => k_is)
    (case a4 => k_is)
    (case l4 => k_is)
    (case c4_ => k_is)
    (case k4 => k_is)
    (case a5 => k_is)
    (case i5 => k_is)
    (case l5 => k_is)
    (case c5_ => k_is)
    (case k5 => k_is)
    (case a6 => k_is)
    (case l6 => k_is)
    (case c6_ => k_is)
    (case k6 => k_is)
    (case a7 => k_is)
    (case l7 => k_is)
    (case c7_ => k_is)
    (case k7 => k_is)
    (case a8 => k_is)
    (case l8 => k_is)
    (case c8_ => k_is)
    (case k8 => k_is)
    (case a9 => k_is)
    (case l9 => k_is)
    (case c9_ => k_is)
    (case k9 => k_is)
    (case a10 => k_is)
    (case l10 => k_is)
    (case c10_ => k_is)
    (case k10 => k_is)
    (case a11 => k_is)
    (case i11 => k_is)
    (case l11 => k_is)
    (case c11_ => k_is)
    (case k11 => k_is)
    (case t11 => k_is)
    (case q11_0 => k_is)
    (case a12 => k_is)
    (case l12 => k_is)
    (case c12_ => k_is)
    (case k12 => k_is)
    (case a13 => k_is)
    (case l13 => k_is)
    (case c13_ => k_is)
    (case k13 => k_is)
    (case a14 => k_is)
    (case l14 => k_is)
    (case c14_ => k_is)
    (case k14 => k_is)
    (case a15 => k_is)
    (case l15 => k_is)
    (case c15_ => k_is)
    (case k15 => k_is)
    (case a16 => k_is)
    (case l16 => k_is)
    (case c16_ => k_is)
    (case k16 => k_is)
    (case a17 => k_is)
    (case i17 => k_is)
    (case l17 => k_is)
    (case c17_ => k_is)
    (case k17 => k_is)
    (case a18 => k_is)
    (case l18 => k_is)
    (case c18_ => k_is)
    (case k18 => k_is)
    (case a19 => k_is)
    (case i19 => k_is)
    (case l19 => k_is)
    (case c19_ => k_is)
    (case k19 => k_is)
    (case a20 => k_is)
    (case l20 => k_is)
    (case c20_ => k_is)
    (case k20 => k_is)
    (case a21 => k_is)
    (case l21 => k_is)
    (case c21_ => k_is)
    (case k21 => k_is)
    (case z_abs => k_is)
    (case z_all => k_is)
    (case z_any => k_is)
    (case z_bool => k_is)
    (case z_enumerate => k_is)
    (case z_int => k_is)
    (case z_isinstance => k_is)
    (case z_len => k_is)
    (case z_list => k_is)
    (case z_max => k_is)
    (case z_min => k_is)
    (case z_range => k_is)
    (case z_set => k_is)
    (case z_sorted => k_is)
    (case z_tuple => k_is)
    (case z_zip => k_is)
#print axioms PySem.Challenge.cw_allheard_k14_repeated_rows_go_holds

