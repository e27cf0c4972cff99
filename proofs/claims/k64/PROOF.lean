import PyProof.Rows.All
import Wide.All
import OpenK.AllK
import Wide.FinOn
import HandS.ExcCtx
import HandS.ForMost
import HandS.ForExc
import HandS.NestedK
import HandS.TryMany
import HandS.ExcInit
import HandS.ExcField
import HandS.ExcIs
import HandS.Deep
import HandS.IsInst
import HandS.TupLe
import HandS.Walk
import HandS.More
import KE.SortData
import HandS.Style
import HandS.Defaults
import HandS.Zip
import PyProof.NeKinds
import HandS.OwnEq
import PyProof.InstNe
import KE.DataCmp
import HandS.DictComp
import HandS.CallSlots
import PyProof.ReprRoads
import PyProof.ReprBulk
import HandS.EndTab
import HandS.MakeKw
import HandS.SetKeys
import HandS.ListItems
import HandS.Finally
import KE.KEqNest
import KE.KEqDict
import HandS.SetTxt0
import HandS.SetFor
import HandS.Strs
import HandS.TupAny
import HandS.HotCalls
import HandS.ExcInitHot
import HandS.ExcValue
import KE.KExcIs
import HandS.Replace
import KE.KNestM
import KE.HD2
import HandS.SetBool
import KE.KUnpackStar
import HandS.CallLocal
import HandS.Call
import KE.KItemsList
import KE.SortKeyHeap
import HandS.FStr
import KE.KCallOwn
import HandS.WideBits
import HandS.HeadHook3
import KE.DataMinMax
import HandS.TryOnly
import PyProof.EqKinds
import PyProof.NeData
import PySem.Challenge.RW_allheard_k64_futures_of_any_object
set_option Elab.async false
set_option linter.all false
set_option autoImplicit false
set_option maxRecDepth 100000
namespace DL
open PySem PySem.W HeadRun PyProof.Rows
section
variable (r : OpenRow) (q : Program) (M : Nat) (loose : List PySem.Str)
noncomputable def endT (w : World) (os : OsState) : Option SharedT := endF (stepQ (denQ tabQ) r.prog w) M r.prog w os
noncomputable def sawT (s : SharedT) := seenQ q loose (importedModules r.prog.main.body) (fun s => xlAt q [] s && recOk r.toRowW.records s) s.abs
def Part1 {α : Type} (ob : SharedT → α) (v : World → α) : Prop := ∀ (w : World) (os : OsState), (endT r M w os).map (fun s => (looksF r.prog (boot_heap w.params) s.abs, ob s)) = some (true, v w)
def Part2 : Prop := ∀ (w : World) (os : OsState), (endT r M w os).map (fun s => ((sawT r q loose s).1, (sawT r q loose s).2.1, (sawT r q loose s).2.2.2.2.1)) = some (expectedOf q, bltViewBooted, pinGoodD (drecsOf q))
def Part3 : Prop := ∀ (w : World) (os : OsState), (endT r M w os).map (fun s => ((sawT r q loose s).2.2.1, (sawT r q loose s).2.2.2.1)) = some (true, true)
def Part4 : Prop := ∀ (w : World) (os : OsState), (endT r M w os).map (fun s => ((sawT r q loose s).2.2.2.2.2.1, (sawT r q loose s).2.2.2.2.2.2.1, (sawT r q loose s).2.2.2.2.2.2.2.1, (sawT r q loose s).2.2.2.2.2.2.2.2)) =
  some (plainGoodE q (looseW q loose), plainGoodD q loose, wideGood q, clsGoodW q loose)
def HLook {α : Type} (f : SharedT → α) (v : α) : Prop := ∀ (w : World) (os : OsState), (endT r M w os).map f = some v
noncomputable def hSaw3 (lw : List PySem.Str) (s : SharedT) : Bool :=
  Fast.tw10880121769531294198 s.abs.heap lw (R.mapR (fun x => x.name) (Fast.tw3399658132070893891 q)) (R.mapR (fun x => x.fst) (Fast.tw7409074990110511671 q)) (R.mapR (fun x => x.name) (Fast.tw13664370479719496447 q lw)) &&
    Fast.tw14722251495701143533 s.abs.heap (importedModules r.prog.main.body) && s.abs.heap.isNs mainGlobals && s.abs.heap.isNs builtinsNs && Fast.tw10994771534591457954 q s.abs.heap && (xlAt q [] s.abs && recOk r.toRowW.records s.abs) && (if true = true then s.abs.gens.size == 0 else !leftWithCleanup s.abs.gens)
noncomputable def hSaw6 (lw : List PySem.Str) (s : SharedT) : List (Option PlainShape) := Fast.tw2386780881361962483 q lw s.abs
noncomputable def lookAll (lw : List PySem.Str) (s : SharedT) := ((sawT r q loose s).2.1, (sawT r q loose s).2.2.2.2.1, (sawT r q loose s).2.2.2.2.2.2.1, (sawT r q loose s).2.2.2.2.2.2.2.2, hSaw3 r q lw s, hSaw6 q lw s)
variable {r q M loose}
theorem HLook.is {α : Type} {f : SharedT → α} {v : α} (h : HLook r M f v) {w : World} {os : OsState} {s : SharedT} (e : endT r M w os = some s) : f s = v := by
  have := h w os
  rw [e] at this
  exact Option.some.inj this
theorem HLook.get {α : Type} {f : SharedT → α} {v : α} (h : HLook r M f v) (w : World) (os : OsState) : ∃ s, endT r M w os = some s := by
  have := h w os
  cases e : endT r M w os with
  | none => rw [e] at this; cases this
  | some s => exact ⟨s, rfl⟩
noncomputable def hSaw1 (q : Program) (nm : List PySem.Str) (s : SharedT) : Seen := Fast.tw5160383126252970620 nm (Fast.tw5991557255702980513 q) [] { heap := s.abs.heap, drawn := s.abs.drawn, toks := s.abs.toks, os := s.abs.os }
theorem hSaw1_eq {nm : List PySem.Str} (h : R.mapR (fun x => x.name) (Fast.tw3399658132070893891 q) = nm) (s : SharedT) : (sawT r q loose s).1 = hSaw1 q nm s := by
  subst h; rfl
theorem hLook1 {nm : List PySem.Str} (h : R.mapR (fun x => x.name) (Fast.tw3399658132070893891 q) = nm) (k : HLook r M (hSaw1 q nm) (expectedOf q)) : HLook r M (fun s => (sawT r q loose s).1) (expectedOf q) := by
  have e : (fun s => (sawT r q loose s).1) = hSaw1 q nm := funext fun s => hSaw1_eq h s
  rw [e]
  exact k
theorem allR_map {α β : Type} (f : α → β) (p : β → Bool) : ∀ l : List α, R.allR l (fun a => p (f a)) = R.allR (R.mapR f l) p
  | [] => rfl
  | a :: l => by
    have ih := allR_map f p l
    have e1 : R.allR (a :: l) (fun a => p (f a)) = (p (f a) && R.allR l fun a => p (f a)) := by
      show @Bool.rec (fun _ => Bool) false (R.allR l fun a => p (f a)) (p (f a)) = _
      cases p (f a) <;> rfl
    have e2 : R.allR (R.mapR f (a :: l)) p = (p (f a) && R.allR (R.mapR f l) p) := by
      show @Bool.rec (fun _ => Bool) false (R.allR (R.mapR f l) p) (p (f a)) = _
      cases p (f a) <;> rfl
    rw [e1, e2, ih]
noncomputable def hSaw4 (q : Program) (nm : List PySem.Str) (s : SharedT) : Bool :=
  (R.allR nm fun n => Fast.tw5930804224584009831 s.abs.heap n) && Fast.tw5244371056499926238 s.abs.heap && Fast.tw2578726214315757710 q s.abs.heap && (!Fast.tw2458874890965802552 q || Fast.tw9649274521512697073 s.abs.heap)
theorem hLook4 {nm : List PySem.Str} (h : R.mapR (fun x => x.name) (Fast.tw3399658132070893891 q) = nm) (k : HLook r M (hSaw4 q nm) true) : HLook r M (fun s => (sawT r q loose s).2.2.2.1) true := by
  have e : (fun s => (sawT r q loose s).2.2.2.1) = hSaw4 q nm := funext fun s => by
    subst h
    show Fast.tw479339242167458305 q s.abs = _
    unfold Fast.tw479339242167458305 hSaw4
    have z := allR_map (fun x : DefRec => x.name) (fun n => Fast.tw5930804224584009831 s.abs.heap n) (Fast.tw3399658132070893891 q)
    rw [z]
  rw [e]
  exact k
theorem hSaw3_eq {lw : List PySem.Str} (h : Fast.tw821141287760084731 q loose = lw) (s : SharedT) : (sawT r q loose s).2.2.1 = hSaw3 r q lw s := by
  subst h; rfl
theorem hSaw6_eq {lw : List PySem.Str} (h : Fast.tw821141287760084731 q loose = lw) (s : SharedT) : (sawT r q loose s).2.2.2.2.2.1 = hSaw6 q lw s := by
  subst h; rfl
section
variable {lw : List PySem.Str} (hF : Fast.tw821141287760084731 q loose = lw) (hL : looseW q loose = lw)
  (h1 : HLook r M (fun s => (sawT r q loose s).1) (expectedOf q)) (h4 : HLook r M (fun s => (sawT r q loose s).2.2.2.1) true) (h7 : HLook r M (fun s => (sawT r q loose s).2.2.2.2.2.2.2.1) (wideGood q))
  (hD : HLook r M (lookAll r q loose lw) (bltViewBooted, pinGoodD (drecsOf q), plainGoodD q loose, clsGoodW q loose, true, plainGoodE q lw))
include hF hL h1 h4 h7 hD
theorem hPart2 : Part2 r q M loose := fun w os => by
  obtain ⟨s, e⟩ := h1.get w os
  have a1 := h1.is e
  have a2 := hD.is e
  simp only [lookAll, Prod.mk.injEq] at a2
  rw [e]
  exact congrArg some (Prod.ext a1 (Prod.ext a2.1 a2.2.1))
theorem hPart3 : Part3 r q M loose := fun w os => by
  obtain ⟨s, e⟩ := h1.get w os
  have a1 := h4.is e
  have a2 := hD.is e
  simp only [lookAll, Prod.mk.injEq] at a2
  rw [e]
  exact congrArg some (Prod.ext ((hSaw3_eq hF s).trans a2.2.2.2.2.1) a1)
theorem hPart4 : Part4 r q M loose := fun w os => by
  obtain ⟨s, e⟩ := h1.get w os
  have a7 := h7.is e
  have a2 := hD.is e
  simp only [lookAll, Prod.mk.injEq] at a2
  rw [e]
  have a6 : (sawT r q loose s).2.2.2.2.2.1 = plainGoodE q (looseW q loose) := by rw [hL]; exact (hSaw6_eq hF s).trans a2.2.2.2.2.2
  exact congrArg some (Prod.ext a6 (Prod.ext a2.2.2.1 (Prod.ext a7 a2.2.2.2.1)))
end
end
theorem leftT {r : OpenRow} {q : Program} {M : Nat} {loose : List PySem.Str} {H : Hook} {ob : SharedT → H.α} (ho : ∀ s : SharedT, ob s = H.obs s.abs)
    (e : opening r.prog = plainProg r.prog.main.scope.names) (f : ∀ s, fenceModules? r.prog s = some s) (p1 : Part1 r M ob H.val) (p2 : Part2 r q M loose) (p3 : Part3 r q M loose) (p4 : Part4 r q M loose) :
    LeftO r.prog q loose (fun s => xlAt q [] s && recOk r.toRowW.records s) H.obs H.val (M + 600) true :=
  HeadRun.left_one (M := M) e (Nat.ble_eq_true_of_le (by omega)) f (Nat.ble_eq_true_of_le (by omega)) fun w os => by
    rw [endQ_eq]
    have a1 := p1 w os
    have a2 := p2 w os
    have a3 := p3 w os
    have a4 := p4 w os
    unfold endT at a1 a2 a3 a4
    cases z : endF (stepQ (denQ tabQ) r.prog w) M r.prog w os with
    | none => rw [z] at a1; cases a1
    | some s =>
      rw [z] at a1 a2 a3 a4
      have b1 := Option.some.inj a1
      have b2 := Option.some.inj a2
      have b3 := Option.some.inj a3
      have b4 := Option.some.inj a4
      obtain ⟨u1, u2⟩ := Prod.mk.inj b1
      obtain ⟨v1, v2⟩ := Prod.mk.inj b2
      obtain ⟨v3, v4⟩ := Prod.mk.inj v2
      obtain ⟨x1, x2⟩ := Prod.mk.inj b3
      obtain ⟨y1, y2⟩ := Prod.mk.inj b4
      obtain ⟨y3, y4⟩ := Prod.mk.inj y2
      obtain ⟨y5, y6⟩ := Prod.mk.inj y4
      show some (looksF r.prog (boot_heap w.params) s.abs, openSeen q loose (importedModules r.prog.main.body) (fun s => xlAt q [] s && recOk r.toRowW.records s) true s.abs, H.obs s.abs) = some (true, openGood q loose, H.val w)
      rw [u1, ← ho s, u2, seenQ_eq]
      have g : sawT r q loose s = openGood q loose := Prod.ext v1 (Prod.ext v3 (Prod.ext x1 (Prod.ext x2 (Prod.ext v4 (Prod.ext y1 (Prod.ext y3 (Prod.ext y5 y6)))))))
      exact congrArg some (congrArg (Prod.mk true) (congrArg (fun t => (t, H.val w)) g))
theorem headT {r : OpenRow} {q : Program} {H : Hook} {ob : SharedT → H.α} {M : Nat} {loose : List PySem.Str} {d : DefRec} {kwd : List (PySem.Str × PySem.Expr)} (ho : ∀ s : SharedT, ob s = H.obs s.abs)
    (e : opening r.prog = plainProg r.prog.main.scope.names) (f : ∀ s, fenceModules? r.prog s = some s) (p1 : Part1 r M ob H.val) (p2 : Part2 r q M loose) (p3 : Part3 r q M loose) (p4 : Part4 r q M loose)
    (hd : defOf q r.name = some (d, kwd)) (ht : r.prog.theDef r.name = some (d.params, d.body, d.scope)) (hk : kwWritten? d.params.kwonlyargs d.params.kw_defaults = some kwd) (hw : (!r.writes || r.records.isEmpty) = true)
    (ws : r.wellSaid = true) (ok : (chainsOk q && opensWell r.prog && (frees r.toRowW && r.within.isEmpty)) = true) (hb : r.prog.bare) (pr : r.toRowW.promised)
    (go : WalkO q loose (XL q []) H.says r.toRowW d kwd fun f vs => PySem.call f vs) : r.Holds :=
  holds_open (leftT ho e f p1 p2 p3 p4) H.of H.keeps (fun s z => xl_of s (Bool.and_eq_true_iff.mp z).1) XL.keeps hd ht hk (fun s z => recFacts_of (Bool.and_eq_true_iff.mp z).2) hw ws ok hb pr go
def obT (as ts : List Addr) (s : SharedT) : List (Option Obj) × List (Option Obj) := (as.map (getT s), ts.map (getT s))
theorem obT_eq {K : Params → Frag} {as : List Addr} {e : ∀ P, as = (K P).map (·.1)} {ts : List Addr} (s : SharedT) : obT as ts s = (kmHook K as e ts).obs s.abs :=
  Prod.ext (List.map_congr_left fun a _ => getT_eq s a) (List.map_congr_left fun a _ => getT_eq s a)
def obK (as : List Addr) (s : SharedT) : List (Option Obj) := as.map (getT s)
theorem obK_eq {K : Params → Frag} {as : List Addr} {e : ∀ P, as = (K P).map (·.1)} (s : SharedT) : obK as s = (kHook K as e).obs s.abs := List.map_congr_left fun a _ => getT_eq s a
end DL
section
namespace LW
open PySem PySem.W HeadRun PyProof.Rows
abbrev viewQ : Program := view (PySem.W.OpenLaw.row PySem.Challenge.rw_allheard_k64_futures_of_any_object).prog [1,2,3,4,5,6,7,10,11,12,13,14,16,17,18,19,20,21,22,23,24,25,26,27,28,29,30]
def looseQ : List PySem.Str := ["imagined"]
def nmA : List PySem.Str := ("is_name" : PySem.Str) :: ("is_hit" : PySem.Str) :: ("thing_heard" : PySem.Str) :: ("followed" : PySem.Str) :: ("is_tuple_of" : PySem.Str) :: ("are_names" : PySem.Str) :: ("is_family_of" : PySem.Str) :: ("are_calls" : PySem.Str) :: ("future_holds" : PySem.Str) :: ("_law_bag" : PySem.Str) :: ("_law_take" : PySem.Str) :: ("_law_names" : PySem.Str) :: ("_law_some" : PySem.Str) :: ("_law_hearers" : PySem.Str) :: ("_law_thing" : PySem.Str) :: ("_law_rows" : PySem.Str) :: []
def nmB : List PySem.Str := ("_law_heard" : PySem.Str) :: ("_law_meaning" : PySem.Str) :: ("_law_is_name" : PySem.Str) :: ("_law_are_names" : PySem.Str) :: ("_law_future_good" : PySem.Str) :: ("_law_any" : PySem.Str) :: ("_law_things" : PySem.Str) :: ("law" : PySem.Str) :: []
theorem nmF : PySem.W.R.mapR (fun x => x.name) (PySem.W.Fast.tw3399658132070893891 viewQ) = nmA ++ nmB := by kernel_rfl
def lwQ : List PySem.Str := ["imagined"]
theorem lwF : PySem.W.Fast.tw821141287760084731 viewQ looseQ = lwQ := by kernel_rfl
theorem lwL : looseW viewQ looseQ = lwQ := by kernel_rfl
theorem look1Q : DL.HLook (PySem.W.OpenLaw.row PySem.Challenge.rw_allheard_k64_futures_of_any_object) 939 (DL.hSaw1 viewQ (nmA ++ nmB)) (expectedOf viewQ) := by
  unfold DL.HLook; intro w os; kernel_rfl
theorem look4Q : DL.HLook (PySem.W.OpenLaw.row PySem.Challenge.rw_allheard_k64_futures_of_any_object) 939 (DL.hSaw4 viewQ (nmA ++ nmB)) true := by
  unfold DL.HLook; intro w os; kernel_rfl
theorem look7Q : DL.HLook (PySem.W.OpenLaw.row PySem.Challenge.rw_allheard_k64_futures_of_any_object) 939 (fun s => (DL.sawT (PySem.W.OpenLaw.row PySem.Challenge.rw_allheard_k64_futures_of_any_object) viewQ looseQ s).2.2.2.2.2.2.2.1) (wideGood viewQ) := by
  unfold DL.HLook; intro w os; kernel_rfl
theorem lookDQ : DL.HLook (PySem.W.OpenLaw.row PySem.Challenge.rw_allheard_k64_futures_of_any_object) 939 (DL.lookAll (PySem.W.OpenLaw.row PySem.Challenge.rw_allheard_k64_futures_of_any_object) viewQ looseQ lwQ) (bltViewBooted, pinGoodD (drecsOf viewQ), plainGoodD viewQ looseQ, clsGoodW viewQ looseQ, true, plainGoodE viewQ lwQ) := by
  unfold DL.HLook; intro w os; kernel_rfl
theorem part2Q : DL.Part2 (PySem.W.OpenLaw.row PySem.Challenge.rw_allheard_k64_futures_of_any_object) viewQ 939 looseQ := DL.hPart2 lwF lwL (DL.hLook1 nmF look1Q) (DL.hLook4 nmF look4Q) look7Q lookDQ
theorem part3Q : DL.Part3 (PySem.W.OpenLaw.row PySem.Challenge.rw_allheard_k64_futures_of_any_object) viewQ 939 looseQ := DL.hPart3 lwF lwL (DL.hLook1 nmF look1Q) (DL.hLook4 nmF look4Q) look7Q lookDQ
theorem part4Q : DL.Part4 (PySem.W.OpenLaw.row PySem.Challenge.rw_allheard_k64_futures_of_any_object) viewQ 939 looseQ := DL.hPart4 lwF lwL (DL.hLook1 nmF look1Q) (DL.hLook4 nmF look4Q) look7Q lookDQ
end LW
open PySem PySem.W PyProof.Rows
local macro_rules
  | `(tactic| o_head ($_f $K $as $e $ts)) => `(tactic| refine DL.headT (r := (PySem.W.OpenLaw.row PySem.Challenge.rw_allheard_k64_futures_of_any_object)) (q := LW.viewQ) (H := PySem.W.kmHook $K $as $e $ts) (ob := DL.obT $as $ts) (M := 939) (kwd := []) (d := HeadRun.topDef (PySem.W.OpenLaw.row PySem.Challenge.rw_allheard_k64_futures_of_any_object).prog 30) (loose := LW.looseQ) (fun s => DL.obT_eq s) (by kernel_rfl) (fun s => by kernel_rfl)
    (by intro w os; kernel_rfl) LW.part2Q LW.part3Q LW.part4Q (by kernel_rfl) (by kernel_rfl) (by kernel_rfl) (by kernel_rfl) (by first | assumption | decide +kernel) (by decide +kernel) ⟨rfl, rfl, rfl, rfl, rfl, by decide +kernel⟩ ?_ ?_)
  | `(tactic| o_head ($_f $K $as $e)) => `(tactic| refine DL.headT (r := (PySem.W.OpenLaw.row PySem.Challenge.rw_allheard_k64_futures_of_any_object)) (q := LW.viewQ) (H := PySem.W.kHook $K $as $e) (ob := DL.obK $as) (M := 939) (kwd := []) (d := HeadRun.topDef (PySem.W.OpenLaw.row PySem.Challenge.rw_allheard_k64_futures_of_any_object).prog 30) (loose := LW.looseQ) (fun s => DL.obK_eq s) (by kernel_rfl) (fun s => by kernel_rfl)
    (by intro w os; kernel_rfl) LW.part2Q LW.part3Q LW.part4Q (by kernel_rfl) (by kernel_rfl) (by kernel_rfl) (by kernel_rfl) (by first | assumption | decide +kernel) (by decide +kernel) ⟨rfl, rfl, rfl, rfl, rfl, by decide +kernel⟩ ?_ ?_)
set_option maxRecDepth 100000 in
set_option maxHeartbeats 0 in
noncomputable def LW.headQ : PSigma fun T : Prop => T → PySem.Challenge.rw_allheard_k64_futures_of_any_object.Holds := by
  apply PSigma.mk
  intro h
  w_on; o_law; k_head
  · w_witness2
  exact h
end
namespace DL
open PySem L2
inductive D where
  | non | bl (b : Bool) | int (i : Int) | str (s : Str)
  | tup (ds : List D) | lst (ds : List D) | dct (kvs : List (Key × D))
  | lsk (ds : List D)
  | dlk (kvs : List (Key × D))
  | ins (c : Str) (fs : List (Str × D))
  | ref (l : Nat)
  | glb (x : Str)
  | typ (n : String)
inductive Cell where
  | lst (ds : List D) | dct (kvs : List (Key × D)) | ins (c : Str) (fs : List (Str × D)) | dead
  | tab (q nm : Str)
abbrev Store := List Cell
inductive Sl where
  | no | val (d : D) | ml (ds : List D) | fn | exv (c : Str) (fs : List (Str × D))
abbrev En := List Sl
structure Ex where
  c : Str
  fs : List (Str × D)
inductive R where
  | ok (d : D) (ρ : En) (st : Store)
  | exc (c : Ex) (ρ : En) (st : Store)
  | bad
inductive Fl where
  | nx (ρ : En) (st : Store)
  | rt (d : D) (ρ : En) (st : Store)
  | bk (ρ : En) (st : Store)
  | ct (ρ : En) (st : Store)
  | exc (c : Ex) (ρ : En) (st : Store)
  | bad
@[simp] def R.bind (r : R) (f : D → En → Store → R) : R := match r with
  | .ok d ρ st => f d ρ st
  | .exc c ρ st => .exc c ρ st
  | .bad => .bad
abbrev DEx := En → Store → R
abbrev DSx := En → Store → Fl
structure Low where
  G : Hp
  ι : List Addr
  fn : Option Addr
  ex : Option (Addr × Str × Option Addr)
def Low.no : Low := ⟨fun _ => none, [], none, none⟩
structure MG where
  f : Str → Option Value
  b : Low
instance : CoeFun MG (fun _ => Str → Option Value) := ⟨MG.f⟩
structure WB where
  x : WX
  b : Low
instance : CoeFun WB (fun _ => WX) := ⟨WB.x⟩
instance : Coe WB WX := ⟨WB.x⟩
abbrev MGx (X : Cx) (b : Low) : MG := ⟨X.mg, b⟩
section
variable (K : PySem.W.Frag) (mg : MG)
mutual
inductive Rep (G : Hp) (ι : List Addr) : V → D → Prop
  | non : Rep G ι .non .non
  | bl (b : Bool) : Rep G ι (.bl b) (.bl b)
  | int (i : Int) : Rep G ι (.int i) (.int i)
  | str (x : Str) : Rep G ι (.str x) (.str x)
  | lst {a : Addr} {vs : List V} {ds : List D} : G a = some (.lst vs) → vs.length ≤ sizeLine → Reps G ι vs ds → Rep G ι (.ref a) (.lst ds)
  | lsk {a : Addr} {vs : List V} {ds : List D} : SqL K G a vs → vs.length ≤ sizeLine → Reps G ι vs ds → Rep G ι (.ref a) (.lsk ds)
  | tup {a : Addr} {vs : List V} {ds : List D} : SqT K G a vs → vs.length ≤ sizeLine → Reps G ι vs ds → Rep G ι (.ref a) (.tup ds)
  | dct {a : Addr} {vs : List (Key × V)} {ds : List (Key × D)} : Rd G a (.dK vs) → RepK G ι vs ds → Rep G ι (.ref a) (.dct ds)
  | dlk {a : Addr} {o : Obj} {vs : List (Key × V)} {ds : List (Key × D)} : G a = some (.frz o (.dK vs)) → RepK G ι vs ds → Rep G ι (.ref a) (.dlk ds)
  | ins {a C dx : Addr} {c : Str} {vs : List (Str × V)} {ds : List (Str × D)} : mg c = some (.ref C) → G a = some (.ins C dx vs) → G dx = some (.own a) → RepF G ι vs ds → Rep G ι (.ref a) (.ins c ds)
  | ref {a : Addr} {l : Nat} : ι[l]? = some a → Rep G ι (.ref a) (.ref l)
  | glb {v : V} {x : Str} {u : Value} : mg x = some u → RelV v u → Rep G ι v (.glb x)
  | typ (n : String) : Rep G ι (.ty n) (.typ n)
inductive Reps (G : Hp) (ι : List Addr) : List V → List D → Prop
  | nil : Reps G ι [] []
  | cons {v : V} {d : D} {vs : List V} {ds : List D} : Rep G ι v d → Reps G ι vs ds → Reps G ι (v :: vs) (d :: ds)
inductive RepK (G : Hp) (ι : List Addr) : List (Key × V) → List (Key × D) → Prop
  | nil : RepK G ι [] []
  | cons {k : Key} {v : V} {d : D} {vs : List (Key × V)} {ds : List (Key × D)} : Rep G ι v d → RepK G ι vs ds → RepK G ι ((k, v) :: vs) ((k, d) :: ds)
inductive RepF (G : Hp) (ι : List Addr) : List (Str × V) → List (Str × D) → Prop
  | nil : RepF G ι [] []
  | cons {k : Str} {v : V} {d : D} {vs : List (Str × V)} {ds : List (Str × D)} : Rep G ι v d → RepF G ι vs ds → RepF G ι ((k, v) :: vs) ((k, d) :: ds)
end
end
theorem Rd.mono {G G' : Hp} {a : Addr} {u : HO} (e : Same G G') (h : Rd G a u) : Rd G' a u := by
  rcases h with h | ⟨o, h⟩
  · exact .inl (e _ _ h)
  · exact .inr ⟨o, e _ _ h⟩
theorem SqT.mono {K : PySem.W.Frag} {G G' : Hp} {a : Addr} {xs : List V} (e : Same G G') (h : SqT K G a xs) : SqT K G' a xs := by
  rcases h with h | h
  · exact .inl (Rd.mono e h)
  · exact .inr h
theorem SqL.mono {K : PySem.W.Frag} {G G' : Hp} {a : Addr} {xs : List V} (e : Same G G') (h : SqL K G a xs) : SqL K G' a xs := by
  rcases h with h | h
  · exact .inl (Rd.mono e h)
  · exact .inr h
def LeI (ι ι' : List Addr) : Prop := ∀ (l : Nat) (a : Addr), ι[l]? = some a → ι'[l]? = some a
theorem LeI.refl (ι : List Addr) : LeI ι ι := fun _ _ h => h
theorem LeI.trans {a b c : List Addr} (x : LeI a b) (y : LeI b c) : LeI a c := fun l q h => y l q (x l q h)
section
variable {K : PySem.W.Frag} {mg : MG} {G G' : Hp} {ι ι' : List Addr}
mutual
theorem Rep.mono (e : Same G G') (i : LeI ι ι') : ∀ {v : V} {d : D}, Rep K mg G ι v d → Rep K mg G' ι' v d
  | _, _, .non => .non
  | _, _, .bl b => .bl b
  | _, _, .int i => .int i
  | _, _, .str x => .str x
  | _, _, .lst h l r => .lst (e _ _ h) l (Reps.mono e i r)
  | _, _, .lsk h l r => .lsk (SqL.mono e h) l (Reps.mono e i r)
  | _, _, .tup h l r => .tup (SqT.mono e h) l (Reps.mono e i r)
  | _, _, .dct h r => .dct (Rd.mono e h) (RepK.mono e i r)
  | _, _, .dlk h r => .dlk (e _ _ h) (RepK.mono e i r)
  | _, _, .ins c h1 h2 r => .ins c (e _ _ h1) (e _ _ h2) (RepF.mono e i r)
  | _, _, .ref h => .ref (i _ _ h)
  | _, _, .glb h r => .glb h r
  | _, _, .typ n => .typ n
theorem Reps.mono (e : Same G G') (i : LeI ι ι') : ∀ {v : List V} {d : List D}, Reps K mg G ι v d → Reps K mg G' ι' v d
  | _, _, .nil => .nil
  | _, _, .cons h r => .cons (Rep.mono e i h) (Reps.mono e i r)
theorem RepK.mono (e : Same G G') (i : LeI ι ι') : ∀ {v : List (Key × V)} {d : List (Key × D)}, RepK K mg G ι v d → RepK K mg G' ι' v d
  | _, _, .nil => .nil
  | _, _, .cons h r => .cons (Rep.mono e i h) (RepK.mono e i r)
theorem RepF.mono (e : Same G G') (i : LeI ι ι') : ∀ {v : List (Str × V)} {d : List (Str × D)}, RepF K mg G ι v d → RepF K mg G' ι' v d
  | _, _, .nil => .nil
  | _, _, .cons h r => .cons (Rep.mono e i h) (RepF.mono e i r)
end
mutual
theorem Rep.reb (b b' : Low) : ∀ {f : Str → Option Value} {v : V} {d : D}, Rep K ⟨f, b⟩ G ι v d → Rep K ⟨f, b'⟩ G ι v d
  | _, _, _, .non => .non
  | _, _, _, .bl b => .bl b
  | _, _, _, .int i => .int i
  | _, _, _, .str x => .str x
  | _, _, _, .lst h l r => .lst h l (Reps.reb b b' r)
  | _, _, _, .lsk h l r => .lsk h l (Reps.reb b b' r)
  | _, _, _, .tup h l r => .tup h l (Reps.reb b b' r)
  | _, _, _, .dct h r => .dct h (RepK.reb b b' r)
  | _, _, _, .dlk h r => .dlk h (RepK.reb b b' r)
  | _, _, _, .ins c h1 h2 r => .ins c h1 h2 (RepF.reb b b' r)
  | _, _, _, .ref h => .ref h
  | _, _, _, .glb h r => .glb h r
  | _, _, _, .typ n => .typ n
theorem Reps.reb (b b' : Low) : ∀ {f : Str → Option Value} {v : List V} {d : List D}, Reps K ⟨f, b⟩ G ι v d → Reps K ⟨f, b'⟩ G ι v d
  | _, _, _, .nil => .nil
  | _, _, _, .cons h r => .cons (Rep.reb b b' h) (Reps.reb b b' r)
theorem RepK.reb (b b' : Low) : ∀ {f : Str → Option Value} {v : List (Key × V)} {d : List (Key × D)}, RepK K ⟨f, b⟩ G ι v d → RepK K ⟨f, b'⟩ G ι v d
  | _, _, _, .nil => .nil
  | _, _, _, .cons h r => .cons (Rep.reb b b' h) (RepK.reb b b' r)
theorem RepF.reb (b b' : Low) : ∀ {f : Str → Option Value} {v : List (Str × V)} {d : List (Str × D)}, RepF K ⟨f, b⟩ G ι v d → RepF K ⟨f, b'⟩ G ι v d
  | _, _, _, .nil => .nil
  | _, _, _, .cons h r => .cons (Rep.reb b b' h) (RepF.reb b b' r)
end
theorem Reps.len : ∀ {v : List V} {d : List D}, Reps K mg G ι v d → v.length = d.length
  | _, _, .nil => rfl
  | _, _, .cons _ r => by simp [Reps.len r]
theorem Reps.get : ∀ {vs : List V} {ds : List D} {i : Nat} {d : D}, Reps K mg G ι vs ds → ds[i]? = some d → ∃ v, vs[i]? = some v ∧ Rep K mg G ι v d
  | _, _, _, _, .nil, h => by simp at h
  | _, _, 0, _, .cons r _, h => by simp at h; subst h; exact ⟨_, rfl, r⟩
  | _, _, i + 1, d, .cons _ t, h => by
    obtain ⟨v, h1, h2⟩ := Reps.get (i := i) (d := d) t (by simpa using h)
    exact ⟨v, by simpa using h1, h2⟩
theorem Reps.getV : ∀ {vs : List V} {ds : List D} {i : Nat} {v : V}, Reps K mg G ι vs ds → vs[i]? = some v → ∃ d, ds[i]? = some d ∧ Rep K mg G ι v d
  | _, _, _, _, .nil, h => by simp at h
  | _, _, 0, _, .cons r _, h => by simp at h; subst h; exact ⟨_, rfl, r⟩
  | _, _, i + 1, d, .cons _ t, h => by
    obtain ⟨v, h1, h2⟩ := Reps.getV (i := i) (v := d) t (by simpa using h)
    exact ⟨v, by simpa using h1, h2⟩
theorem Reps.append : ∀ {vs ws : List V} {ds es : List D}, Reps K mg G ι vs ds → Reps K mg G ι ws es → Reps K mg G ι (vs ++ ws) (ds ++ es)
  | _, _, _, _, .nil, s => s
  | _, _, _, _, .cons r t, s => .cons r (Reps.append t s)
theorem Reps.take : ∀ {vs : List V} {ds : List D} (n : Nat), Reps K mg G ι vs ds → Reps K mg G ι (vs.take n) (ds.take n)
  | _, _, 0, _ => .nil
  | _, _, _ + 1, .nil => .nil
  | _, _, n + 1, .cons r t => .cons r (Reps.take n t)
theorem Reps.drop : ∀ {vs : List V} {ds : List D} (n : Nat), Reps K mg G ι vs ds → Reps K mg G ι (vs.drop n) (ds.drop n)
  | _, _, 0, r => r
  | _, _, _ + 1, .nil => .nil
  | _, _, n + 1, .cons _ t => Reps.drop n t
theorem Reps.set {v : V} {d : D} (r : Rep K mg G ι v d) : ∀ {vs : List V} {ds : List D} (n : Nat), Reps K mg G ι vs ds → Reps K mg G ι (vs.set n v) (ds.set n d)
  | _, _, _, .nil => .nil
  | _, _, 0, .cons _ t => .cons r t
  | _, _, n + 1, .cons q t => .cons q (Reps.set r n t)
theorem Reps.reverse : ∀ {vs : List V} {ds : List D}, Reps K mg G ι vs ds → Reps K mg G ι vs.reverse ds.reverse
  | _, _, .nil => .nil
  | _, _, .cons r t => by simpa using Reps.append (Reps.reverse t) (.cons r .nil)
theorem Reps.eraseIdx : ∀ {vs : List V} {ds : List D} (n : Nat), Reps K mg G ι vs ds → Reps K mg G ι (vs.eraseIdx n) (ds.eraseIdx n)
  | _, _, _, .nil => .nil
  | _, _, 0, .cons _ t => t
  | _, _, n + 1, .cons q t => .cons q (Reps.eraseIdx n t)
theorem Reps.mem : ∀ {vs : List V} {ds : List D} {v : V}, Reps K mg G ι vs ds → v ∈ vs → ∃ d ∈ ds, Rep K mg G ι v d
  | _, _, _, .nil, h => by simp at h
  | _, _, v, .cons r t, h => by
    rcases List.mem_cons.mp h with rfl | h
    · exact ⟨_, by simp, r⟩
    · obtain ⟨d, h1, h2⟩ := Reps.mem t h
      exact ⟨d, by simp [h1], h2⟩
end
structure Ws where
  ρ : En
  σ : L2.St
  G : Hp
  ι : List Addr
  H : Hp
  st : Store
def TabOf (K : PySem.W.Frag) (mg : Str → Option Value) (q : Str) (P : Addr) : Prop := ∀ (f c : Addr) (fd : FuncData) (oc : Value) (od : Option Addr) (osl : Array (Option Value)), mg q = some (.ref f) → K.lookup f = some ⟨oc, od, .func fd, osl⟩ → fd.code = .ref c → PySem.W.codeHdIn K c P = true
def TabG (G H : Hp) (P : Addr) (nm : Str) : Prop := ∃ ps : Array Value, H P = some (.tbl ps) ∧ TriplesOk ps.toList ∧ ∀ (pos : Pos) (cv : Value), codeAmong pos ps.toList = some cv → ∃ c, cv = .ref c ∧ G c = some (LamX.CodeO c nm)
def CellAt (K : PySem.W.Frag) (mg : MG) (w : Ws) (a : Addr) : Cell → Prop
  | .dead => True
  | .tab q nm => w.G a = none ∧ TabOf K mg q a ∧ TabG w.G w.H a nm
  | .lst ds => w.G a = none ∧ ∃ vs, w.H a = some (.lst vs) ∧ vs.length ≤ sizeLine ∧ Reps K mg w.G w.ι vs ds
  | .dct ds => w.G a = none ∧ ∃ vs, w.H a = some (.dK vs) ∧ RepK K mg w.G w.ι vs ds
  | .ins c ds => w.G a = none ∧ ∃ C dx vs, mg c = some (.ref C) ∧ w.H a = some (.ins C dx vs) ∧ w.H dx = some (.own a) ∧ w.G dx = some (.own a) ∧ RepF K mg w.G w.ι vs ds
def SlotAt (K : PySem.W.Frag) (mg : MG) (w : Ws) (x : Option (Option V)) : Sl → Prop
  | .no => True
  | .val d => ∃ v, x = some (some v) ∧ Rep K mg w.G w.ι v d
  | .ml ds => ∃ a vs, x = some (some (.ref a)) ∧ w.G a = none ∧ w.H a = some (.lst vs) ∧ vs.length ≤ sizeLine ∧ Reps K mg w.G w.ι vs ds
  | .fn => ∃ a, x = some (some (.ref a)) ∧ mg.b.fn = some a
  | .exv c fs => ∃ a od vs, x = some (some (.ref a)) ∧ mg.b.ex = some (a, c, od) ∧ (∀ d, od = some d → w.G d = some (.xd vs)) ∧ (od = none → vs = []) ∧ RepF K mg w.G w.ι vs fs
def OwnS (w : Ws) (i : Nat) (a : Addr) : Prop := ∃ ds, w.ρ[i]? = some (.ml ds) ∧ w.σ[i]? = some (some (V.ref a))
def Liv (w : Ws) (l : Nat) (a : Addr) : Prop := ∃ c, w.st[l]? = some c ∧ c ≠ .dead ∧ w.ι[l]? = some a
def Mt (w : Ws) (a : Addr) : Prop := (∃ l, Liv w l a) ∨ ∃ i, OwnS w i a
structure Sts (K : PySem.W.Frag) (mg : MG) (w : Ws) : Prop where
  lowG : Same mg.b.G w.G
  lowI : LeI mg.b.ι w.ι
  sub : Same w.G w.H
  ln : w.ρ.length = w.σ.length
  len : w.st.length = w.ι.length
  cel : ∀ (l : Nat) c a, w.st[l]? = some c → w.ι[l]? = some a → CellAt K mg w a c
  inj : ∀ l l' a, Liv w l a → Liv w l' a → l = l'
  slo : ∀ (i : Nat) s, w.ρ[i]? = some s → SlotAt K mg w w.σ[i]? s
  sep : ∀ i l a, OwnS w i a → Liv w l a → False
  dis : ∀ i j a, OwnS w i a → OwnS w j a → i = j
theorem Sts.mtG {K : PySem.W.Frag} {mg : MG} {w : Ws} (s : Sts K mg w) {a : Addr} (h : Mt w a) : w.G a = none := by
  rcases h with ⟨l, c, h1, h2, h3⟩ | ⟨i, ds, h1, h2⟩
  · have := s.cel l c a h1 h3
    cases c with
    | dead => exact absurd rfl h2
    | lst ds => exact this.1
    | dct ds => exact this.1
    | ins c ds => exact this.1
    | tab q nm => exact this.1
  · obtain ⟨b, vs, e, g, _⟩ := s.slo i _ h1
    rw [h2] at e
    cases e
    exact g
theorem Sts.mtH {K : PySem.W.Frag} {mg : MG} {w : Ws} (s : Sts K mg w) {a : Addr} (h : Mt w a) : ∃ o, w.H a = some o := by
  rcases h with ⟨l, c, h1, h2, h3⟩ | ⟨i, ds, h1, h2⟩
  · have := s.cel l c a h1 h3
    cases c with
    | dead => exact absurd rfl h2
    | lst ds => obtain ⟨_, vs, e, _⟩ := this; exact ⟨_, e⟩
    | dct ds => obtain ⟨_, vs, e, _⟩ := this; exact ⟨_, e⟩
    | ins c ds => obtain ⟨_, C, dx, vs, _, e, _⟩ := this; exact ⟨_, e⟩
    | tab q nm => obtain ⟨_, _, ps, e, _⟩ := this; exact ⟨_, e⟩
  · obtain ⟨b, vs, e, g, e2, _⟩ := s.slo i _ h1
    rw [h2] at e
    cases e
    exact ⟨_, e2⟩
structure Aft (K : PySem.W.Frag) (mg : MG) (w w' : Ws) : Prop where
  s : Sts K mg w'
  g : Same w.G w'.G
  i : LeI w.ι w'.ι
  kp : ∀ a o, w.H a = some o → ¬ Mt w a → w'.H a = some o
  nw : ∀ a, Mt w' a → Mt w a ∨ w.H a = none
  gn : ∀ a, w'.G a ≠ none → w.G a ≠ none ∨ Mt w a ∨ w.H a = none
  al : ∀ a, w'.H a = none → w.H a = none
section
variable {K : PySem.W.Frag} {mg : MG} {w w' w'' : Ws}
theorem Aft.refl (s : Sts K mg w) : Aft K mg w w := ⟨s, Same.refl _, LeI.refl _, fun _ _ h _ => h, fun _ h => .inl h, fun _ h => .inl h, fun _ h => h⟩
theorem Aft.trans (x : Aft K mg w w') (y : Aft K mg w' w'') : Aft K mg w w'' where
  s := y.s
  g := x.g.trans y.g
  i := x.i.trans y.i
  kp := fun a o h n => y.kp a o (x.kp a o h n) fun q => by
    rcases x.nw a q with q | q
    · exact n q
    · rw [h] at q; cases q
  nw := fun a h => by
    rcases y.nw a h with h | h
    · exact x.nw a h
    · by_cases n : Mt w a
      · exact .inl n
      · refine .inr ?_
        cases e : w.H a with
        | none => rfl
        | some o => rw [x.kp a o e n] at h; cases h
  gn := fun a h => by
    rcases y.gn a h with h | h | h
    · exact x.gn a h
    · rcases x.nw a h with h | h
      · exact .inr (.inl h)
      · exact .inr (.inr h)
    · by_cases n : Mt w a
      · exact .inr (.inl n)
      · refine .inr (.inr ?_)
        cases e : w.H a with
        | none => rfl
        | some o => rw [x.kp a o e n] at h; cases h
  al := fun a h => x.al a (y.al a h)
end
def ExcAt (K : PySem.W.Frag) (mg : MG) (w : Ws) (c : Ex) (cls : Value) (dx : Option Addr) : Prop :=
  (mg c.c = some cls ∨ (mg c.c = none ∧ bootBuiltins c.c = some cls)) ∧
    match c.fs with
    | [] => dx = none
    | fs => ∃ d vs, dx = some d ∧ w.G d = some (.xd vs) ∧ RepF K mg w.G w.ι vs fs
def OkR (K : PySem.W.Frag) (mg : MG) (W : WB) (w : Ws) (Q : VK) : R → Prop
  | .ok d ρ st => ∀ (w' : Ws) (v : V), w'.ρ = ρ → w'.st = st → w'.σ = w.σ → Aft K mg w w' → Rep K mg w'.G w'.ι v d → Q v w'.H
  | .exc c ρ st => ∀ (w' : Ws) (cls : Value) (dx : Option Addr), w'.ρ = ρ → w'.st = st → w'.σ = w.σ → Aft K mg w w' → ExcAt K mg w' c cls dx → W cls dx w'.σ w'.H
  | .bad => False
def Loose (w : Ws) (a : Addr) : Prop := w.G a = none ∧ ¬ Mt w a
def OkO (K : PySem.W.Frag) (mg : MG) (W : WB) (w : Ws) (Q : VK) : R → Prop
  | .ok (.lst ds) ρ st => ∀ (w' : Ws) (a : Addr) (vs : List V), w'.ρ = ρ → w'.st = st → w'.σ = w.σ → Aft K mg w w' → w.H a = none → Loose w' a → w'.H a = some (.lst vs) → vs.length ≤ sizeLine → Reps K mg w'.G w'.ι vs ds → Q (.ref a) w'.H
  | .ok _ _ _ => False
  | .exc c ρ st => ∀ (w' : Ws) (cls : Value) (dx : Option Addr), w'.ρ = ρ → w'.st = st → w'.σ = w.σ → Aft K mg w w' → ExcAt K mg w' c cls dx → W cls dx w'.σ w'.H
  | .bad => False
def OkF (K : PySem.W.Frag) (mg : MG) (W : WB) (w : Ws) (E : Ends) : Fl → Prop
  | .nx ρ st => ∀ w' : Ws, w'.ρ = ρ → w'.st = st → Aft K mg w w' → E.nx w'.σ w'.H
  | .rt d ρ st => ∀ (w' : Ws) (v : V), w'.ρ = ρ → w'.st = st → Aft K mg w w' → Rep K mg w'.G w'.ι v d → E.rt v w'.H
  | .bk ρ st => ∀ w' : Ws, w'.ρ = ρ → w'.st = st → Aft K mg w w' → E.bk w'.σ w'.H
  | .ct ρ st => ∀ w' : Ws, w'.ρ = ρ → w'.st = st → Aft K mg w w' → E.ct w'.σ w'.H
  | .exc c ρ st => ∀ (w' : Ws) (cls : Value) (dx : Option Addr), w'.ρ = ρ → w'.st = st → Aft K mg w w' → ExcAt K mg w' c cls dx → W cls dx w'.σ w'.H
  | .bad => False
section
variable {K : PySem.W.Frag} {mg : MG} {W : WB} {w w1 : Ws}
theorem OkR.aft {Q : VK} {r : R} (h : OkR K mg W w Q r) (a : Aft K mg w w1) (e : w1.σ = w.σ) : OkR K mg W w1 Q r := by
  cases r with
  | ok d ρ st => exact fun w' v h1 h2 h3 h4 h5 => h w' v h1 h2 (h3.trans e) (a.trans h4) h5
  | exc c ρ st => exact fun w' cls dx h1 h2 h3 h4 h5 => h w' cls dx h1 h2 (h3.trans e) (a.trans h4) h5
  | bad => exact h
theorem OkF.aft {E : Ends} {r : Fl} (h : OkF K mg W w E r) (a : Aft K mg w w1) : OkF K mg W w1 E r := by
  cases r with
  | nx ρ st => exact fun w' h1 h2 h4 => h w' h1 h2 (a.trans h4)
  | rt d ρ st => exact fun w' v h1 h2 h4 h5 => h w' v h1 h2 (a.trans h4) h5
  | bk ρ st => exact fun w' h1 h2 h4 => h w' h1 h2 (a.trans h4)
  | ct ρ st => exact fun w' h1 h2 h4 => h w' h1 h2 (a.trans h4)
  | exc c ρ st => exact fun w' cls dx h1 h2 h4 h5 => h w' cls dx h1 h2 (a.trans h4) h5
  | bad => exact h
end
def RefE (K : PySem.W.Frag) (mg : MG) (W : WB) (t : TE) (f : DEx) : Prop :=
  ∀ (w : Ws) (Q : VK), Sts K mg w → OkR K mg W w Q (f w.ρ w.st) → t w.σ w.H Q
def RefO (K : PySem.W.Frag) (mg : MG) (W : WB) (t : TE) (f : DEx) : Prop :=
  ∀ (w : Ws) (Q : VK), Sts K mg w → OkO K mg W w Q (f w.ρ w.st) → t w.σ w.H Q
def RefS (K : PySem.W.Frag) (mg : MG) (W : WB) (t : TS) (f : DSx) : Prop :=
  ∀ (w : Ws) (E : Ends), Sts K mg w → OkF K mg W w E (f w.ρ w.st) → t E w.σ w.H
def DE (X : Cx) (W : WB) (e : Expr) (f : DEx) : Prop := ∃ t, PE X e t ∧ RefE X.K (MGx X W.b) W t f
def IsL (f : DEx) : Prop := ∀ ρ st d ρ' st', f ρ st = .ok d ρ' st' → ∃ ds, d = .lst ds
def DO (X : Cx) (W : WB) (e : Expr) (f : DEx) : Prop := (∃ t, PE X e t ∧ RefO X.K (MGx X W.b) W t f) ∧ IsL f
def DS (X : Cx) (W : WB) (s : Stmt) (f : DSx) : Prop := ∃ t, PS X s t ∧ RefS X.K (MGx X W.b) W t f
def DSs (X : Cx) (W : WB) (s : List Stmt) (f : DSx) : Prop := ∃ t, PSs X s t ∧ RefS X.K (MGx X W.b) W t f
def OkT (K : PySem.W.Frag) (mg : MG) (W : WB) (w : Ws) (Q : Bool → Hp → Prop) : R → Prop
  | .ok (.bl b) ρ st => ∀ (w' : Ws), w'.ρ = ρ → w'.st = st → w'.σ = w.σ → Aft K mg w w' → Q b w'.H
  | .ok _ _ _ => False
  | .exc c ρ st => ∀ (w' : Ws) (cls : Value) (dx : Option Addr), w'.ρ = ρ → w'.st = st → w'.σ = w.σ → Aft K mg w w' → ExcAt K mg w' c cls dx → W cls dx w'.σ w'.H
  | .bad => False
def RefT (K : PySem.W.Frag) (mg : MG) (W : WB) (t : TT) (f : DEx) : Prop :=
  ∀ (w : Ws) (Q : Bool → Hp → Prop), Sts K mg w → OkT K mg W w Q (f w.ρ w.st) → t w.σ w.H Q
def DT (X : Cx) (W : WB) (e : Expr) (f : DEx) : Prop := ∃ t, PT X e t ∧ RefT X.K (MGx X W.b) W t f
def OkA (K : PySem.W.Frag) (mg : MG) (W : WB) (w : Ws) (Q : List V → Hp → Prop) : R → Prop
  | .ok (.tup ds) ρ st => ∀ (w' : Ws) (vs : List V), w'.ρ = ρ → w'.st = st → w'.σ = w.σ → Aft K mg w w' → Reps K mg w'.G w'.ι vs ds → Q vs w'.H
  | .ok _ _ _ => False
  | .exc c ρ st => ∀ (w' : Ws) (cls : Value) (dx : Option Addr), w'.ρ = ρ → w'.st = st → w'.σ = w.σ → Aft K mg w w' → ExcAt K mg w' c cls dx → W cls dx w'.σ w'.H
  | .bad => False
def RefA (K : PySem.W.Frag) (mg : MG) (W : WB) (t : TA) (f : DEx) : Prop :=
  ∀ (w : Ws) (Q : List V → Hp → Prop), Sts K mg w → OkA K mg W w Q (f w.ρ w.st) → t w.σ w.H Q
def DA (X : Cx) (W : WB) (es : List Expr) (f : DEx) : Prop := ∃ t, PA X es t ∧ RefA X.K (MGx X W.b) W t f
section
variable {K : PySem.W.Frag} {mg : MG} {W : WB} {w w1 : Ws}
theorem OkT.aft {Q : Bool → Hp → Prop} {r : R} (h : OkT K mg W w Q r) (a : Aft K mg w w1) (e : w1.σ = w.σ) : OkT K mg W w1 Q r := by
  cases r with
  | ok d ρ st =>
    cases d with
    | bl b => exact fun w' h1 h2 h3 h4 => h w' h1 h2 (h3.trans e) (a.trans h4)
    | _ => exact h
  | exc c ρ st => exact fun w' cls dx h1 h2 h3 h4 h5 => h w' cls dx h1 h2 (h3.trans e) (a.trans h4) h5
  | bad => exact h
theorem OkA.aft {Q : List V → Hp → Prop} {r : R} (h : OkA K mg W w Q r) (a : Aft K mg w w1) (e : w1.σ = w.σ) : OkA K mg W w1 Q r := by
  cases r with
  | ok d ρ st =>
    cases d with
    | tup ds => exact fun w' v h1 h2 h3 h4 h5 => h w' v h1 h2 (h3.trans e) (a.trans h4) h5
    | _ => exact h
  | exc c ρ st => exact fun w' cls dx h1 h2 h3 h4 h5 => h w' cls dx h1 h2 (h3.trans e) (a.trans h4) h5
  | bad => exact h
end
end DL
namespace DL
open PySem L2
section
variable {K : PySem.W.Frag} {mg : MG} {w : Ws}
theorem same_upd {H : Hp} {p : Addr} {o : HO} (h : H p = none) : Same H (upd H p o) := fun b u e => by
  rw [upd_ne (ne_of_none e h)]; exact e
theorem CellAt.keep {w w' : Ws} {a : Addr} {c : Cell} (h : CellAt K mg w a c) (g : Same w.G w'.G) (i : LeI w.ι w'.ι) (ha : c ≠ .dead → w'.G a = none ∧ ∀ o, w.H a = some o → w'.H a = some o)
    (hd : Same w'.G w'.H) : CellAt K mg w' a c := by
  cases c with
  | dead => trivial
  | lst ds => obtain ⟨_, vs, e, l, r⟩ := h; have := ha (by simp); exact ⟨this.1, vs, this.2 _ e, l, r.mono g i⟩
  | dct ds => obtain ⟨_, vs, e, r⟩ := h; have := ha (by simp); exact ⟨this.1, vs, this.2 _ e, r.mono g i⟩
  | ins c ds =>
    obtain ⟨_, C, dx, vs, m, e, o, o', r⟩ := h
    have := ha (by simp)
    exact ⟨this.1, C, dx, vs, m, this.2 _ e, hd _ _ (g _ _ o'), g _ _ o', r.mono g i⟩
  | tab q nm =>
    obtain ⟨_, t, ps, e, h1, h2⟩ := h
    have := ha (by simp)
    exact ⟨this.1, t, ps, this.2 _ e, h1, fun pos cv hc => let ⟨c, e1, e2⟩ := h2 pos cv hc; ⟨c, e1, g _ _ e2⟩⟩
theorem SlotAt.keep {w w' : Ws} {x : Option (Option V)} {s : Sl} (h : SlotAt K mg w x s) (g : Same w.G w'.G) (i : LeI w.ι w'.ι) (ha : ∀ a, (∃ ds, s = .ml ds) → x = some (some (.ref a)) → w'.G a = none ∧ ∀ o, w.H a = some o → w'.H a = some o) : SlotAt K mg w' x s := by
  cases s with
  | no => trivial
  | val d => obtain ⟨v, e, r⟩ := h; exact ⟨v, e, r.mono g i⟩
  | ml ds => obtain ⟨a, vs, e, _, e2, l, r⟩ := h; have := ha a ⟨ds, rfl⟩ e; exact ⟨a, vs, e, this.1, this.2 _ e2, l, r.mono g i⟩
  | fn => exact h
  | exv c fs => obtain ⟨a, od, vs, e, e1, e2, e3, r⟩ := h; exact ⟨a, od, vs, e, e1, fun d q => g _ _ (e2 d q), e3, r.mono g i⟩
theorem Liv.mt {l : Nat} {a : Addr} (h : Liv w l a) : Mt w a := .inl ⟨l, h⟩
theorem OwnS.mt {i : Nat} {a : Addr} (h : OwnS w i a) : Mt w a := .inr ⟨i, h⟩
theorem Sts.heap {G' H' : Hp} (s : Sts K mg w) (g : Same w.G G') (sub : Same G' H') (m : ∀ a, Mt w a → G' a = none ∧ ∀ o, w.H a = some o → H' a = some o) : Sts K mg { w with G := G', H := H' } where
  lowG := s.lowG.trans g
  lowI := s.lowI
  sub := sub
  ln := s.ln
  len := s.len
  cel := fun l c a h1 h2 => (s.cel l c a h1 h2).keep (w' := { w with G := G', H := H' }) g (LeI.refl _) (fun n => m a (.inl ⟨l, c, h1, n, h2⟩)) sub
  inj := s.inj
  slo := fun i x h => (s.slo i x h).keep (w' := { w with G := G', H := H' }) g (LeI.refl _) fun a ⟨ds, e⟩ h2 => m a (.inr ⟨i, ds, by rw [h, e], h2⟩)
  sep := s.sep
  dis := s.dis
theorem Sts.alloc (s : Sts K mg w) {p : Addr} {o : HO} (hp : w.H p = none) : Sts K mg { w with G := upd w.G p o, H := upd w.H p o } := by
  have gp : w.G p = none := s.sub.free hp
  refine s.heap (same_upd gp) (fun b u e => ?_) fun a m => ?_
  · by_cases h : b = p
    · subst h; rw [upd_same] at e ⊢; exact e
    · rw [upd_ne h] at e ⊢; exact s.sub _ _ e
  · obtain ⟨u, hu⟩ := s.mtH m
    have np : a ≠ p := ne_of_none hu hp
    rw [upd_ne np]
    exact ⟨s.mtG m, fun o e => by rw [upd_ne np]; exact e⟩
theorem Aft.alloc (s : Sts K mg w) {p : Addr} {o : HO} (hp : w.H p = none) : Aft K mg w { w with G := upd w.G p o, H := upd w.H p o } where
  s := s.alloc hp
  g := same_upd (s.sub.free hp)
  i := LeI.refl _
  kp := fun a u h _ => by show upd w.H p o a = some u; rw [upd_ne (ne_of_none h hp)]; exact h
  nw := fun a h => .inl h
  gn := fun a h => by
    by_cases e : a = p
    · subst e; exact .inr (.inr hp)
    · refine .inl ?_
      have h' : upd w.G p o a ≠ none := h
      rwa [upd_ne e] at h'
  al := fun a h => by
    by_cases e : a = p
    · rw [e]; exact hp
    · have h' : upd w.H p o a = none := h
      rwa [upd_ne e] at h'
theorem Aft.loose (s : Sts K mg w) {p : Addr} {o : HO} (hp : w.H p = none) : Aft K mg w { w with H := upd w.H p o } where
  s := s.heap (G' := w.G) (H' := upd w.H p o) (Same.refl _) (fun b u e => by rw [upd_ne (ne_of_none (s.sub _ _ e) hp)]; exact s.sub _ _ e) fun a m => ⟨s.mtG m, fun u e => by rw [upd_ne (ne_of_none e hp)]; exact e⟩
  g := Same.refl _
  i := LeI.refl _
  kp := fun a u h _ => by show upd w.H p o a = some u; rw [upd_ne (ne_of_none h hp)]; exact h
  nw := fun a h => .inl h
  gn := fun a h => .inl h
  al := fun a h => by
    by_cases e : a = p
    · rw [e]; exact hp
    · have h' : upd w.H p o a = none := h
      rwa [upd_ne e] at h'
theorem Sts.looseAt (s : Sts K mg w) {p : Addr} {o : HO} (hp : w.H p = none) : Loose { w with H := upd w.H p o } p :=
  ⟨s.sub.free hp, fun m => by
    obtain ⟨u, hu⟩ := s.mtH (w := w) (a := p) m
    rw [hp] at hu; cases hu⟩
theorem Aft.freeze {w0 : Ws} (A : Aft K mg w0 w) {a : Addr} {o : HO} (hf : w0.H a = none) (hl : Loose w a) (ha : w.H a = some o) : Aft K mg w0 { w with G := upd w.G a o } where
  s := A.s.heap (G' := upd w.G a o) (H' := w.H) (same_upd hl.1) (fun b u e => by
      by_cases h : b = a
      · subst h; rw [upd_same] at e; rw [ha]; exact e
      · rw [upd_ne h] at e; exact A.s.sub _ _ e) fun b m => ⟨by rw [upd_ne (fun e : b = a => hl.2 (e ▸ m))]; exact A.s.mtG m, fun u e => e⟩
  g := A.g.trans (same_upd hl.1)
  i := A.i
  kp := A.kp
  nw := A.nw
  gn := fun b h => by
    by_cases e : b = a
    · subst e; exact .inr (.inr hf)
    · refine A.gn b ?_
      have h' : upd w.G a o b ≠ none := h
      rwa [upd_ne e] at h'
  al := A.al
theorem getElem?_set_ite {α : Type} {l : List α} {i j : Nat} {x y : α} (h : (l.set i x)[j]? = some y) : (j = i ∧ y = x ∧ i < l.length) ∨ (j ≠ i ∧ l[j]? = some y) := by
  by_cases e : i = j
  · subst e
    by_cases q : i < l.length
    · rw [List.getElem?_set_self q] at h; exact .inl ⟨rfl, (Option.some.inj h).symm, q⟩
    · rw [List.getElem?_eq_none (by simp; omega)] at h; cases h
  · rw [List.getElem?_set_ne e] at h; exact .inr ⟨fun q => e q.symm, h⟩
theorem OwnS.of_set {i j : Nat} {s : Sl} {x : Option V} {a : Addr} (hs : ∀ ds, s ≠ .ml ds) (h : OwnS { w with ρ := w.ρ.set i s, σ := w.σ.set i x } j a) : OwnS w j a := by
  obtain ⟨ds, h1, h2⟩ := h
  rcases getElem?_set_ite h1 with ⟨_, e, _⟩ | ⟨ne, e⟩
  · exact absurd e.symm (hs ds)
  · rcases getElem?_set_ite h2 with ⟨e', _⟩ | ⟨_, e2⟩
    · exact absurd e' ne
    · exact ⟨ds, e, e2⟩
theorem Aft.setVal (s : Sts K mg w) {i : Nat} {v : V} {d : D} (r : Rep K mg w.G w.ι v d) : Aft K mg w { w with ρ := w.ρ.set i (.val d), σ := w.σ.set i (some v) } := by
  have ow : ∀ j a, OwnS { w with ρ := w.ρ.set i (.val d), σ := w.σ.set i (some v) } j a → OwnS w j a := fun j a h => h.of_set (fun ds e => by cases e)
  refine ⟨⟨s.lowG, s.lowI, s.sub, by simpa using s.ln, s.len, s.cel, s.inj, fun j x h => ?_, fun j l a h1 h2 => s.sep j l a (ow j a h1) h2, fun j k a h1 h2 => s.dis j k a (ow j a h1) (ow k a h2)⟩, Same.refl _, LeI.refl _, fun _ _ h _ => h, fun a h => .inl ?_, fun _ h => .inl h, fun _ h => h⟩
  · rcases getElem?_set_ite h with ⟨e, e2, hl⟩ | ⟨ne, e⟩
    · subst e; subst e2
      exact ⟨v, List.getElem?_set_self (by rw [← s.ln]; exact hl), r⟩
    · have := s.slo j x e
      show SlotAt K mg { w with ρ := w.ρ.set i (.val d), σ := w.σ.set i (some v) } (w.σ.set i (some v))[j]? x
      rw [List.getElem?_set_ne (Ne.symm ne)]
      exact this
  · rcases h with h | ⟨j, h⟩
    · exact .inl h
    · exact .inr ⟨j, ow j a h⟩
theorem Aft.setNo (s : Sts K mg w) {i : Nat} {x : Option V} : Aft K mg w { w with ρ := w.ρ.set i .no, σ := w.σ.set i x } := by
  have ow : ∀ j a, OwnS { w with ρ := w.ρ.set i .no, σ := w.σ.set i x } j a → OwnS w j a := fun j a h => h.of_set (fun ds e => by cases e)
  refine ⟨⟨s.lowG, s.lowI, s.sub, by simpa using s.ln, s.len, s.cel, s.inj, fun j x' h => ?_, fun j l a h1 h2 => s.sep j l a (ow j a h1) h2, fun j k a h1 h2 => s.dis j k a (ow j a h1) (ow k a h2)⟩, Same.refl _, LeI.refl _, fun _ _ h _ => h, fun a h => .inl ?_, fun _ h => .inl h, fun _ h => h⟩
  · rcases getElem?_set_ite h with ⟨e, e2, hl⟩ | ⟨ne, e⟩
    · subst e; subst e2; trivial
    · have := s.slo j x' e
      show SlotAt K mg { w with ρ := w.ρ.set i .no, σ := w.σ.set i x } (w.σ.set i x)[j]? x'
      rw [List.getElem?_set_ne (Ne.symm ne)]
      exact this
  · rcases h with h | ⟨j, h⟩
    · exact .inl h
    · exact .inr ⟨j, ow j a h⟩
theorem Aft.setMl {w0 : Ws} (A : Aft K mg w0 w) {i : Nat} {a : Addr} {vs : List V} {ds : List D} (hf : w0.H a = none) (hl : Loose w a) (ha : w.H a = some (.lst vs)) (hz : vs.length ≤ sizeLine) (r : Reps K mg w.G w.ι vs ds) :
    Aft K mg w0 { w with ρ := w.ρ.set i (.ml ds), σ := w.σ.set i (some (.ref a)) } := by
  have s := A.s
  have ow : ∀ j b, OwnS { w with ρ := w.ρ.set i (.ml ds), σ := w.σ.set i (some (.ref a)) } j b → (j = i ∧ b = a) ∨ (j ≠ i ∧ OwnS w j b) := fun j b h => by
    obtain ⟨es, h1, h2⟩ := h
    rcases getElem?_set_ite h1 with ⟨e, _, _⟩ | ⟨ne, e⟩
    · rcases getElem?_set_ite h2 with ⟨_, e2, _⟩ | ⟨ne, _⟩
      · cases e2; exact .inl ⟨e, rfl⟩
      · exact absurd e ne
    · rcases getElem?_set_ite h2 with ⟨e', _⟩ | ⟨_, e2⟩
      · exact absurd e' ne
      · exact .inr ⟨ne, es, e, e2⟩
  refine ⟨⟨s.lowG, s.lowI, s.sub, by simpa using s.ln, s.len, s.cel, s.inj, fun j x h => ?_, fun j l b h1 h2 => ?_, fun j k b h1 h2 => ?_⟩, A.g, A.i, A.kp, fun b h => ?_, A.gn, A.al⟩
  · rcases getElem?_set_ite h with ⟨e, e2, hl'⟩ | ⟨ne, e⟩
    · subst e; subst e2
      exact ⟨a, vs, List.getElem?_set_self (by rw [← s.ln]; exact hl'), hl.1, ha, hz, r⟩
    · have := s.slo j x e
      show SlotAt K mg { w with ρ := w.ρ.set i (.ml ds), σ := w.σ.set i (some (.ref a)) } (w.σ.set i (some (.ref a)))[j]? x
      rw [List.getElem?_set_ne (Ne.symm ne)]
      exact this
  · rcases ow j b h1 with ⟨_, e⟩ | ⟨_, h1⟩
    · subst e; exact hl.2 (.inl ⟨l, h2⟩)
    · exact s.sep j l b h1 h2
  · rcases ow j b h1 with ⟨e1, e⟩ | ⟨_, q1⟩ <;> rcases ow k b h2 with ⟨e2, e'⟩ | ⟨_, q2⟩
    · rw [e1, e2]
    · subst e; exact (hl.2 (.inr ⟨k, q2⟩)).elim
    · subst e'; exact (hl.2 (.inr ⟨j, q1⟩)).elim
    · exact s.dis j k b q1 q2
  · rcases h with h | ⟨j, h⟩
    · exact A.nw b (.inl h)
    · rcases ow j b h with ⟨_, e⟩ | ⟨_, h⟩
      · subst e; exact .inr hf
      · exact A.nw b (.inr ⟨j, h⟩)
theorem Aft.mutMl (s : Sts K mg w) {i : Nat} {a : Addr} {ds0 ds : List D} {vs : List V} (h0 : w.ρ[i]? = some (.ml ds0)) (h1 : w.σ[i]? = some (some (.ref a))) (hz : vs.length ≤ sizeLine) (r : Reps K mg w.G w.ι vs ds) :
    Aft K mg w { w with ρ := w.ρ.set i (.ml ds), H := upd w.H a (.lst vs) } := by
  have own : OwnS w i a := ⟨ds0, h0, h1⟩
  have ga : w.G a = none := s.mtG own.mt
  have hi : i < w.ρ.length := by
    rcases List.getElem?_eq_some_iff.mp h0 with ⟨h, _⟩; exact h
  have ow : ∀ j b, OwnS { w with ρ := w.ρ.set i (.ml ds), H := upd w.H a (.lst vs) } j b → OwnS w j b := fun j b h => by
    obtain ⟨es, h1', h2⟩ := h
    rcases getElem?_set_ite h1' with ⟨e, _, _⟩ | ⟨ne, e⟩
    · exact ⟨ds0, by rw [e]; exact h0, h2⟩
    · exact ⟨es, e, h2⟩
  have lv : ∀ l b, Liv w l b → b ≠ a := fun l b h e => s.sep i l a own (e ▸ h)
  refine ⟨⟨s.lowG, s.lowI, fun b u e => ?_, by simpa using s.ln, s.len, fun l c b h1 h2 => ?_, s.inj, fun j x h => ?_, fun j l b h1 h2 => s.sep j l b (ow j b h1) h2, fun j k b h1 h2 => s.dis j k b (ow j b h1) (ow k b h2)⟩, Same.refl _, LeI.refl _, fun b u h n => ?_, fun b h => .inl ?_, fun _ h => .inl h, fun b h => ?_⟩
  · show upd w.H a (.lst vs) b = some u
    have e' : w.G b = some u := e
    rw [upd_ne (fun q => by rw [q, ga] at e'; cases e')]
    exact s.sub _ _ e'
  · exact (s.cel l c b h1 h2).keep (w' := { w with ρ := w.ρ.set i (.ml ds), H := upd w.H a (.lst vs) }) (Same.refl _) (LeI.refl _) (fun n => ⟨s.mtG (.inl ⟨l, c, h1, n, h2⟩), fun o e => by
      show upd w.H a (.lst vs) b = some o
      rw [upd_ne (lv l b ⟨c, h1, n, h2⟩)]; exact e⟩) (fun b u e => by
      show upd w.H a (.lst vs) b = some u
      have e' : w.G b = some u := e
      rw [upd_ne (fun q => by rw [q, ga] at e'; cases e')]
      exact s.sub _ _ e')
  · rcases getElem?_set_ite h with ⟨e, e2, hl'⟩ | ⟨ne, e⟩
    · subst e; subst e2
      exact ⟨a, vs, h1, ga, upd_same, hz, r⟩
    · refine (s.slo j x e).keep (w' := { w with ρ := w.ρ.set i (.ml ds), H := upd w.H a (.lst vs) }) (Same.refl _) (LeI.refl _) fun b ⟨es, e3⟩ h2 => ?_
      have o2 : OwnS w j b := ⟨es, by rw [e, e3], h2⟩
      refine ⟨s.mtG o2.mt, fun o e4 => ?_⟩
      show upd w.H a (.lst vs) b = some o
      rw [upd_ne (fun q : b = a => ne (s.dis j i b o2 (q ▸ own)))]
      exact e4
  · show upd w.H a (.lst vs) b = some u
    rw [upd_ne (fun q : b = a => n (q ▸ own.mt))]
    exact h
  · rcases h with h | ⟨j, h⟩
    · exact .inl h
    · exact .inr ⟨j, ow j b h⟩
  · have h' : upd w.H a (.lst vs) b = none := h
    by_cases e : b = a
    · rw [e, upd_same] at h'; cases h'
    · rwa [upd_ne e] at h'
theorem getElem?_append_one {α : Type} {l : List α} {x y : α} {i : Nat} (h : (l ++ [x])[i]? = some y) : l[i]? = some y ∨ (i = l.length ∧ y = x) := by
  by_cases q : i < l.length
  · rw [List.getElem?_append_left q] at h; exact .inl h
  · rw [List.getElem?_append_right (by omega)] at h
    by_cases e : i = l.length
    · subst e; simp at h; exact .inr ⟨rfl, h.symm⟩
    · rw [List.getElem?_eq_none (by simp; omega)] at h; cases h
theorem leI_append (ι : List Addr) (a : Addr) : LeI ι (ι ++ [a]) := fun l b h => by
  rw [List.getElem?_append_left (List.getElem?_eq_some_iff.mp h).1]; exact h
theorem Aft.newCell {w0 : Ws} (A : Aft K mg w0 w) {a : Addr} {vs : List V} {ds : List D} (hf : w0.H a = none) (hl : Loose w a) (ha : w.H a = some (.lst vs)) (hz : vs.length ≤ sizeLine) (r : Reps K mg w.G w.ι vs ds) :
    Aft K mg w0 { w with ι := w.ι ++ [a], st := w.st ++ [.lst ds] } := by
  have s := A.s
  have le := leI_append w.ι a
  have lv : ∀ l b, Liv { w with ι := w.ι ++ [a], st := w.st ++ [.lst ds] } l b → (l = w.st.length ∧ b = a) ∨ Liv w l b := fun l b h => by
    obtain ⟨c, h1, h2, h3⟩ := h
    rcases getElem?_append_one h1 with h1 | ⟨h1, _⟩
    · rcases getElem?_append_one h3 with h3 | ⟨h3, _⟩
      · exact .inr ⟨c, h1, h2, h3⟩
      · have := (List.getElem?_eq_some_iff.mp h1).1
        rw [s.len] at this; omega
    · rcases getElem?_append_one h3 with h3 | ⟨_, h3⟩
      · have := (List.getElem?_eq_some_iff.mp h3).1
        rw [← s.len] at this; omega
      · exact .inl ⟨h1, h3⟩
  refine ⟨⟨s.lowG, s.lowI.trans le, s.sub, s.ln, by simp [s.len], fun l c b h1 h2 => ?_, fun l l' b h1 h2 => ?_, fun i x h => ?_, fun i l b h1 h2 => ?_, s.dis⟩, A.g, A.i.trans le, A.kp, fun b h => ?_, A.gn, A.al⟩
  · rcases getElem?_append_one h1 with h1 | ⟨h1, e⟩
    · rcases getElem?_append_one h2 with h2 | ⟨h2, _⟩
      · exact (s.cel l c b h1 h2).keep (w' := { w with ι := w.ι ++ [a], st := w.st ++ [.lst ds] }) (Same.refl _) le (fun n => ⟨s.mtG (.inl ⟨l, c, h1, n, h2⟩), fun _ e => e⟩) s.sub
      · have := (List.getElem?_eq_some_iff.mp h1).1
        rw [s.len] at this; omega
    · rcases getElem?_append_one h2 with h2 | ⟨_, h2⟩
      · have := (List.getElem?_eq_some_iff.mp h2).1
        rw [← s.len] at this; omega
      · subst e; subst h2
        exact ⟨hl.1, vs, ha, hz, r.mono (Same.refl _) le⟩
  · rcases lv l b h1 with ⟨e1, e⟩ | q1 <;> rcases lv l' b h2 with ⟨e2, e'⟩ | q2
    · rw [e1, e2]
    · subst e; exact (hl.2 (.inl ⟨l', q2⟩)).elim
    · subst e'; exact (hl.2 (.inl ⟨l, q1⟩)).elim
    · exact s.inj l l' b q1 q2
  · exact (s.slo i x h).keep (w' := { w with ι := w.ι ++ [a], st := w.st ++ [.lst ds] }) (Same.refl _) le fun b ⟨es, e⟩ h2 => ⟨s.mtG (.inr ⟨i, es, by rw [h, e], h2⟩), fun _ e => e⟩
  · rcases lv l b h2 with ⟨_, e⟩ | q2
    · subst e; exact hl.2 (.inr ⟨i, h1⟩)
    · exact s.sep i l b h1 q2
  · rcases h with ⟨l, h⟩ | h
    · rcases lv l b h with ⟨_, e⟩ | q
      · subst e; exact .inr hf
      · exact A.nw b (.inl ⟨l, q⟩)
    · exact A.nw b (.inr h)
theorem Aft.mutCell (s : Sts K mg w) {l : Nat} {a : Addr} {c0 c : Cell} {o : HO} (h0 : w.st[l]? = some c0) (hd : c0 ≠ .dead) (h1 : w.ι[l]? = some a) (hc : c ≠ .dead)
    (r : CellAt K mg { w with H := upd w.H a o, st := w.st.set l c } a c) : Aft K mg w { w with H := upd w.H a o, st := w.st.set l c } := by
  have own : Liv w l a := ⟨c0, h0, hd, h1⟩
  have ga : w.G a = none := s.mtG own.mt
  have sub' : Same w.G (upd w.H a o) := fun b u e => by
    rw [upd_ne (fun q => by rw [q, ga] at e; cases e)]
    exact s.sub _ _ e
  have lv : ∀ k b, Liv { w with H := upd w.H a o, st := w.st.set l c } k b → Liv w k b := fun k b h => by
    obtain ⟨c', q1, q2, q3⟩ := h
    rcases getElem?_set_ite q1 with ⟨e, _, _⟩ | ⟨_, e⟩
    · subst e; exact ⟨c0, h0, hd, q3⟩
    · exact ⟨c', e, q2, q3⟩
  refine ⟨⟨s.lowG, s.lowI, sub', s.ln, by simpa using s.len, fun k c' b q1 q2 => ?_, fun k k' b q1 q2 => s.inj k k' b (lv k b q1) (lv k' b q2), fun i x h => ?_, fun i k b q1 q2 => s.sep i k b q1 (lv k b q2), s.dis⟩, Same.refl _, LeI.refl _, fun b u h n => ?_, fun b h => .inl ?_, fun _ h => .inl h, fun b h => ?_⟩
  · rcases getElem?_set_ite q1 with ⟨e, e2, _⟩ | ⟨ne, e⟩
    · subst e; subst e2
      have : b = a := Option.some.inj (q2.symm.trans h1)
      subst this; exact r
    · refine (s.cel k c' b e q2).keep (w' := { w with H := upd w.H a o, st := w.st.set l c }) (Same.refl _) (LeI.refl _) (fun n => ⟨s.mtG (.inl ⟨k, c', e, n, q2⟩), fun u e4 => ?_⟩) sub'
      show upd w.H a o b = some u
      rw [upd_ne (fun q : b = a => ne (s.inj k l b ⟨c', e, n, q2⟩ (q ▸ own)))]
      exact e4
  · refine (s.slo i x h).keep (w' := { w with H := upd w.H a o, st := w.st.set l c }) (Same.refl _) (LeI.refl _) fun b ⟨es, e3⟩ h2 => ?_
    have o2 : OwnS w i b := ⟨es, by rw [h, e3], h2⟩
    refine ⟨s.mtG o2.mt, fun u e4 => ?_⟩
    show upd w.H a o b = some u
    rw [upd_ne (fun q : b = a => s.sep i l b o2 (q ▸ own))]
    exact e4
  · show upd w.H a o b = some u
    rw [upd_ne (fun q : b = a => n (q ▸ own.mt))]
    exact h
  · rcases h with ⟨k, h⟩ | h
    · exact .inl ⟨k, lv k b h⟩
    · exact .inr h
  · have h' : upd w.H a o b = none := h
    by_cases e : b = a
    · rw [e, upd_same] at h'; cases h'
    · rwa [upd_ne e] at h'
def Ws.strip (w : Ws) : Ws := { w with ρ := [], σ := [] }
theorem mt_strip {a : Addr} (h : Mt w.strip a) : ∃ l, Liv w l a := by
  rcases h with ⟨l, h⟩ | ⟨i, ds, h, _⟩
  · exact ⟨l, h⟩
  · simp [Ws.strip] at h
theorem Sts.strip (s : Sts K mg w) : Sts K mg w.strip where
  lowG := s.lowG
  lowI := s.lowI
  sub := s.sub
  ln := rfl
  len := s.len
  cel := s.cel
  inj := s.inj
  slo := fun i x h => by simp [Ws.strip] at h
  sep := fun i l a h _ => by obtain ⟨ds, h, _⟩ := h; simp [Ws.strip] at h
  dis := fun i j a h _ => by obtain ⟨ds, h, _⟩ := h; simp [Ws.strip] at h
theorem Aft.back {w' : Ws} (s : Sts K mg w) (A : Aft K mg w.strip w') : Aft K mg w { w' with ρ := w.ρ, σ := w.σ } := by
  have nm : ∀ i a, OwnS w i a → ¬ Mt w.strip a := fun i a h m => by
    obtain ⟨l, hl⟩ := mt_strip m
    exact s.sep i l a h hl
  have nm' : ∀ i a, OwnS w i a → ¬ Mt w' a := fun i a h m => by
    rcases A.nw a m with m | m
    · exact nm i a h m
    · obtain ⟨o, ho⟩ := s.mtH h.mt
      have m' : w.H a = none := m
      rw [m'] at ho; cases ho
  have ng : ∀ i a, OwnS w i a → w'.G a = none := fun i a h => by
    cases e : w'.G a with
    | none => rfl
    | some u =>
      rcases A.gn a (by rw [e]; simp) with q | q | q
      · exact absurd (s.mtG h.mt) q
      · exact absurd q (nm i a h)
      · obtain ⟨o, ho⟩ := s.mtH h.mt
        have m' : w.H a = none := q
        rw [m'] at ho; cases ho
  refine ⟨⟨A.s.lowG, A.s.lowI, A.s.sub, s.ln, A.s.len, A.s.cel, A.s.inj, fun i x h => ?_, fun i l a h1 h2 => nm' i a h1 (.inl ⟨l, h2⟩), s.dis⟩, A.g, A.i, fun a o h n => A.kp a o h fun m => n ?_, fun a h => ?_, fun a h => ?_, A.al⟩
  · exact (s.slo i x h).keep (w' := { w' with ρ := w.ρ, σ := w.σ }) A.g A.i fun a ⟨ds, e⟩ h2 => by
      have o2 : OwnS w i a := ⟨ds, by rw [h, e], h2⟩
      exact ⟨ng i a o2, fun o ho => A.kp a o ho (nm i a o2)⟩
  · obtain ⟨l, hl⟩ := mt_strip m; exact .inl ⟨l, hl⟩
  · rcases h with ⟨l, h⟩ | h
    · rcases A.nw a (.inl ⟨l, h⟩) with q | q
      · obtain ⟨l, hl⟩ := mt_strip q; exact .inl (.inl ⟨l, hl⟩)
      · exact .inr q
    · exact .inl (.inr h)
  · rcases A.gn a h with q | q | q
    · exact .inl q
    · obtain ⟨l, hl⟩ := mt_strip q; exact .inr (.inl (.inl ⟨l, hl⟩))
    · exact .inr (.inr q)
theorem Aft.out {w' : Ws} (s : Sts K mg w.strip) {ρ : En} {σ : L2.St} (hρ : ∀ (i : Nat) ds, ρ[i]? ≠ some (Sl.ml ds)) (A : Aft K mg { w with ρ := ρ, σ := σ } w') : Aft K mg w.strip w'.strip := by
  have m0 : ∀ a, Mt { w with ρ := ρ, σ := σ } a → Mt w.strip a := fun a h => by
    rcases h with h | ⟨i, ds, h, _⟩
    · exact .inl h
    · exact absurd h (hρ i ds)
  refine ⟨A.s.strip, A.g, A.i, fun a o h n => A.kp a o h fun m => n (m0 a m), fun a h => ?_, fun a h => ?_, A.al⟩
  · obtain ⟨l, hl⟩ := mt_strip h
    rcases A.nw a (.inl ⟨l, hl⟩) with q | q
    · exact .inl (m0 a q)
    · exact .inr q
  · rcases A.gn a h with q | q | q
    · exact .inl q
    · exact .inr (.inl (m0 a q))
    · exact .inr (.inr q)
end
section
variable {K : PySem.W.Frag} {f : Str → Option Value} {b b' : Low} {w : Ws}
theorem CellAt.reb (b b' : Low) {a : Addr} {c : Cell} (h : CellAt K ⟨f, b⟩ w a c) : CellAt K ⟨f, b'⟩ w a c := by
  cases c with
  | dead => trivial
  | lst ds => obtain ⟨h1, vs, e, l, r⟩ := h; exact ⟨h1, vs, e, l, r.reb b b'⟩
  | dct ds => obtain ⟨h1, vs, e, r⟩ := h; exact ⟨h1, vs, e, r.reb b b'⟩
  | ins c ds => obtain ⟨h1, C, dx, vs, m, e, o, o', r⟩ := h; exact ⟨h1, C, dx, vs, m, e, o, o', r.reb b b'⟩
  | tab q nm => exact h
theorem Sts.reb (s : Sts K ⟨f, b⟩ w) (hρ : w.ρ = []) (hG : Same b'.G w.G) (hI : LeI b'.ι w.ι) : Sts K ⟨f, b'⟩ w where
  lowG := hG
  lowI := hI
  sub := s.sub
  ln := s.ln
  len := s.len
  cel := fun l c a h1 h2 => (s.cel l c a h1 h2).reb b b'
  inj := s.inj
  slo := fun i x h => by rw [hρ] at h; simp at h
  sep := s.sep
  dis := s.dis
theorem Aft.reb {w' : Ws} (s : Sts K ⟨f, b'⟩ w) (A : Aft K ⟨f, b⟩ w w') (hρ : w'.ρ = []) : Aft K ⟨f, b'⟩ w w' :=
  ⟨A.s.reb hρ (s.lowG.trans A.g) (s.lowI.trans A.i), A.g, A.i, A.kp, A.nw, A.gn, A.al⟩
theorem Sts.noB (s : Sts K ⟨f, b⟩ w) (hρ : w.ρ = []) : Sts K ⟨f, Low.no⟩ w := s.reb hρ (fun _ _ z => by cases z) (fun _ _ z => by cases z)
end
end DL
namespace DL
open PySem L2
section
variable {K : PySem.W.Frag} {mg : MG} {W : WB} {G : Hp} {ι : List Addr}
theorem Rep.int_inv {v : V} {i : Int} (h : Rep K mg G ι v (.int i)) : v = .int i := by cases h; rfl
theorem Rep.str_inv {v : V} {i : Str} (h : Rep K mg G ι v (.str i)) : v = .str i := by cases h; rfl
theorem Rep.bl_inv {v : V} {i : Bool} (h : Rep K mg G ι v (.bl i)) : v = .bl i := by cases h; rfl
theorem Rep.non_inv {v : V} (h : Rep K mg G ι v .non) : v = .non := by cases h; rfl
end
def RepV (K : PySem.W.Frag) (mg : MG) (w : Ws) (v : V) (d : D) : Prop :=
  Rep K mg w.G w.ι v d ∨ (∃ a vs ds, v = .ref a ∧ d = .lst ds ∧ w.H a = some (.lst vs) ∧ vs.length ≤ sizeLine ∧ Reps K mg w.G w.ι vs ds) ∨
    ∃ a vs ds, v = .ref a ∧ d = .dct ds ∧ w.H a = some (.dK vs) ∧ RepK K mg w.G w.ι vs ds
def OkV (K : PySem.W.Frag) (mg : MG) (W : WB) (w : Ws) (Q : VK) : R → Prop
  | .ok d ρ st => ∀ (w' : Ws) (v : V), w'.ρ = ρ → w'.st = st → w'.σ = w.σ → Aft K mg w w' → RepV K mg w' v d → Q v w'.H
  | .exc c ρ st => ∀ (w' : Ws) (cls : Value) (dx : Option Addr), w'.ρ = ρ → w'.st = st → w'.σ = w.σ → Aft K mg w w' → ExcAt K mg w' c cls dx → W cls dx w'.σ w'.H
  | .bad => False
def RefV (K : PySem.W.Frag) (mg : MG) (W : WB) (t : TE) (f : DEx) : Prop :=
  ∀ (w : Ws) (Q : VK), Sts K mg w → OkV K mg W w Q (f w.ρ w.st) → t w.σ w.H Q
def DV (X : Cx) (W : WB) (e : Expr) (f : DEx) : Prop := ∃ t, PE X e t ∧ RefV X.K (MGx X W.b) W t f
abbrev DPx := En → Store → Option D
@[simp] def pureE (p : DPx) (ρ : En) (st : Store) : R := match p ρ st with
  | some d => .ok d ρ st
  | none => .bad
def RefP (K : PySem.W.Frag) (mg : MG) (t : TE) (p : DPx) : Prop :=
  ∀ (w : Ws) (Q : VK) (d : D), Sts K mg w → p w.ρ w.st = some d → (∀ v, Rep K mg w.G w.ι v d → Q v w.H) → t w.σ w.H Q
def RefPv (K : PySem.W.Frag) (mg : MG) (t : TE) (p : DPx) : Prop :=
  ∀ (w : Ws) (Q : VK) (d : D), Sts K mg w → p w.ρ w.st = some d → (∀ v, RepV K mg w v d → Q v w.H) → t w.σ w.H Q
def DP (X : Cx) (e : Expr) (p : DPx) : Prop := ∃ t, PE X e t ∧ ∀ b, RefP X.K (MGx X b) t p
def DPv (X : Cx) (e : Expr) (p : DPx) : Prop := ∃ t, PE X e t ∧ ∀ b, RefPv X.K (MGx X b) t p
section
variable {K : PySem.W.Frag} {mg : MG} {W : WB} {X : Cx} {ee : Expr} {f : DEx} {p : DPx}
theorem RefE.v {t : TE} (h : RefE K mg W t f) : RefV K mg W t f := fun w Q s q => h w Q s (by
  cases r : f w.ρ w.st with
  | ok d ρ st => rw [r] at q; exact fun w' v h1 h2 h3 h4 h5 => q w' v h1 h2 h3 h4 (.inl h5)
  | exc c ρ st => rw [r] at q; exact q
  | bad => rw [r] at q; exact q)
theorem DE.v (h : DE X W ee f) : DV X W ee f := let ⟨t, p, r⟩ := h; ⟨t, p, r.v⟩
theorem DP.e (h : DP X ee p) : DE X W ee (pureE p) := by
  obtain ⟨t, pt, r⟩ := h
  refine ⟨t, pt, fun w Q s q => ?_⟩
  unfold pureE at q
  split at q
  · rename_i d hd
    exact r _ w Q d s hd fun v rv => q w v rfl rfl rfl (Aft.refl s) rv
  · exact q.elim
theorem DPv.v (h : DPv X ee p) : DV X W ee (pureE p) := by
  obtain ⟨t, pt, r⟩ := h
  refine ⟨t, pt, fun w Q s q => ?_⟩
  unfold pureE at q
  split at q
  · rename_i d hd
    exact r _ w Q d s hd fun v rv => q w v rfl rfl rfl (Aft.refl s) rv
  · exact q.elim
theorem DP.pv (h : DP X ee p) : DPv X ee p := let ⟨t, pt, r⟩ := h; ⟨t, pt, fun b w Q d s hd k => r b w Q d s hd fun v rv => k v (.inl rv)⟩
theorem RepV.h {w : Ws} {v : V} {d : D} (s : Sts K mg w) (h : RepV K mg w v d) : Rep K mg w.H w.ι v d := by
  rcases h with h | ⟨a, vs, ds, rfl, rfl, h1, h2, h3⟩ | ⟨a, vs, ds, rfl, rfl, h1, h3⟩
  · exact h.mono s.sub (LeI.refl _)
  · exact .lst h1 h2 (h3.mono s.sub (LeI.refl _))
  · exact .dct (.inl h1) (h3.mono s.sub (LeI.refl _))
theorem RepV.int_inv {w : Ws} {v : V} {i : Int} (h : RepV K mg w v (.int i)) : v = .int i := by
  rcases h with h | ⟨a, vs, ds, _, e, _⟩ | ⟨a, vs, ds, _, e, _⟩
  · cases h; rfl
  · cases e
  · cases e
theorem RepV.str_inv {w : Ws} {v : V} {i : Str} (h : RepV K mg w v (.str i)) : v = .str i := by
  rcases h with h | ⟨a, vs, ds, _, e, _⟩ | ⟨a, vs, ds, _, e, _⟩
  · cases h; rfl
  · cases e
  · cases e
theorem RepV.bl_inv {w : Ws} {v : V} {i : Bool} (h : RepV K mg w v (.bl i)) : v = .bl i := by
  rcases h with h | ⟨a, vs, ds, _, e, _⟩ | ⟨a, vs, ds, _, e, _⟩
  · cases h; rfl
  · cases e
  · cases e
theorem RepV.lst_inv {w : Ws} {v : V} {ds : List D} (s : Sts K mg w) (h : RepV K mg w v (.lst ds)) : ∃ a vs, v = .ref a ∧ w.H a = some (.lst vs) ∧ vs.length ≤ sizeLine ∧ Reps K mg w.G w.ι vs ds := by
  rcases h with h | ⟨a, vs, ds, rfl, e, h1, h2, h3⟩ | ⟨a, vs, ds, _, e, _⟩
  · cases h with
    | lst h l r => exact ⟨_, _, rfl, s.sub _ _ h, l, r⟩
  · cases e; exact ⟨a, vs, rfl, h1, h2, h3⟩
  · cases e
theorem RepV.lsk_inv {w : Ws} {v : V} {ds : List D} (s : Sts K mg w) (h : RepV K mg w v (.lsk ds)) : ∃ a vs, v = .ref a ∧ SqL K w.H a vs ∧ vs.length ≤ sizeLine ∧ Reps K mg w.G w.ι vs ds := by
  rcases h with h | ⟨a, vs, ds, rfl, e, h1, h2, h3⟩ | ⟨a, vs, ds, _, e, _⟩
  · cases h with
    | lsk h l r => exact ⟨_, _, rfl, SqL.mono s.sub h, l, r⟩
  · cases e
  · cases e
theorem RepV.tup_inv {w : Ws} {v : V} {ds : List D} (s : Sts K mg w) (h : RepV K mg w v (.tup ds)) : ∃ a vs, v = .ref a ∧ SqT K w.H a vs ∧ vs.length ≤ sizeLine ∧ Reps K mg w.G w.ι vs ds := by
  rcases h with h | ⟨a, vs, ds, rfl, e, h1, h2, h3⟩ | ⟨a, vs, ds, _, e, _⟩
  · cases h with
    | tup h l r => exact ⟨_, _, rfl, SqT.mono s.sub h, l, r⟩
  · cases e
  · cases e
end
section
variable {K : PySem.W.Frag} {mg : MG} {W : WB} {G : Hp} {ι : List Addr}
theorem RefE.bind {t : TE} {f : DEx} (h : RefE K mg W t f) {w : Ws} {Q1 : VK} {r : D → En → Store → R} (s : Sts K mg w) {P : R → Prop}
    (hP : P ((f w.ρ w.st).bind r))
    (hx : ∀ c ρ st, P (.exc c ρ st) → ∀ (w' : Ws) (cls : Value) (dx : Option Addr), w'.ρ = ρ → w'.st = st → w'.σ = w.σ → Aft K mg w w' → ExcAt K mg w' c cls dx → W cls dx w'.σ w'.H)
    (hb : P .bad → False)
    (k : ∀ (w1 : Ws) (v : V) (d : D), w1.σ = w.σ → Aft K mg w w1 → Rep K mg w1.G w1.ι v d → P (r d w1.ρ w1.st) → Q1 v w1.H) : t w.σ w.H Q1 := by
  refine h w Q1 s ?_
  cases e : f w.ρ w.st with
  | ok d ρ st =>
    rw [e] at hP
    intro w' v h1 h2 h3 h4 h5
    subst h1; subst h2
    exact k w' v d h3 h4 h5 hP
  | exc c ρ st =>
    rw [e] at hP
    exact hx c ρ st hP
  | bad => rw [e] at hP; exact (hb hP).elim
theorem RefE.bindR {t : TE} {f : DEx} (h : RefE K mg W t f) {w : Ws} {Q Q1 : VK} {r : D → En → Store → R} (s : Sts K mg w) (hP : OkR K mg W w Q ((f w.ρ w.st).bind r))
    (k : ∀ (w1 : Ws) (v : V) (d : D), Sts K mg w1 → w1.σ = w.σ → Aft K mg w w1 → Rep K mg w1.G w1.ι v d → OkR K mg W w1 Q (r d w1.ρ w1.st) → Q1 v w1.H) : t w.σ w.H Q1 :=
  h.bind (P := OkR K mg W w Q) s hP (fun _ _ _ q => q) (fun q => q) fun w1 v d e a rp q => k w1 v d a.s e a rp (q.aft a e)
theorem OkV.aft {Q : VK} {w w1 : Ws} {r : R} (h : OkV K mg W w Q r) (a : Aft K mg w w1) (e : w1.σ = w.σ) : OkV K mg W w1 Q r := by
  cases r with
  | ok d ρ st => exact fun w' v h1 h2 h3 h4 h5 => h w' v h1 h2 (h3.trans e) (a.trans h4) h5
  | exc c ρ st => exact fun w' cls dx h1 h2 h3 h4 h5 => h w' cls dx h1 h2 (h3.trans e) (a.trans h4) h5
  | bad => exact h
theorem RefV.bind {t : TE} {f : DEx} (h : RefV K mg W t f) {w : Ws} {Q1 : VK} {r : D → En → Store → R} (s : Sts K mg w) {P : R → Prop}
    (hP : P ((f w.ρ w.st).bind r))
    (hx : ∀ c ρ st, P (.exc c ρ st) → ∀ (w' : Ws) (cls : Value) (dx : Option Addr), w'.ρ = ρ → w'.st = st → w'.σ = w.σ → Aft K mg w w' → ExcAt K mg w' c cls dx → W cls dx w'.σ w'.H)
    (hb : P .bad → False)
    (k : ∀ (w1 : Ws) (v : V) (d : D), w1.σ = w.σ → Aft K mg w w1 → RepV K mg w1 v d → P (r d w1.ρ w1.st) → Q1 v w1.H) : t w.σ w.H Q1 := by
  refine h w Q1 s ?_
  cases e : f w.ρ w.st with
  | ok d ρ st =>
    rw [e] at hP
    intro w' v h1 h2 h3 h4 h5
    subst h1; subst h2
    exact k w' v d h3 h4 h5 hP
  | exc c ρ st =>
    rw [e] at hP
    exact hx c ρ st hP
  | bad => rw [e] at hP; exact (hb hP).elim
theorem RefV.bindR {t : TE} {f : DEx} (h : RefV K mg W t f) {w : Ws} {Q Q1 : VK} {r : D → En → Store → R} (s : Sts K mg w) (hP : OkR K mg W w Q ((f w.ρ w.st).bind r))
    (k : ∀ (w1 : Ws) (v : V) (d : D), Sts K mg w1 → w1.σ = w.σ → Aft K mg w w1 → RepV K mg w1 v d → OkR K mg W w1 Q (r d w1.ρ w1.st) → Q1 v w1.H) : t w.σ w.H Q1 :=
  h.bind (P := OkR K mg W w Q) s hP (fun _ _ _ q => q) (fun q => q) fun w1 v d e a rp q => k w1 v d a.s e a rp (q.aft a e)
def seen (st : Store) : Sl → Option D
  | .no => none
  | .ml ds => some (.lst ds)
  | .val (.ref l) => match st[l]? with
    | some (.lst ds) => some (.lst ds)
    | some (.dct ds) => some (.dct ds)
    | _ => none
  | .val d => some d
  | .fn => none
  | .exv _ _ => none
section
variable (st : Store)
@[simp] theorem seen_no : seen st .no = none := rfl
@[simp] theorem seen_ml (ds : List D) : seen st (.ml ds) = some (.lst ds) := rfl
@[simp] theorem seen_non : seen st (.val .non) = some .non := rfl
@[simp] theorem seen_bl (b : Bool) : seen st (.val (.bl b)) = some (.bl b) := rfl
@[simp] theorem seen_int (b : Int) : seen st (.val (.int b)) = some (.int b) := rfl
@[simp] theorem seen_str (b : Str) : seen st (.val (.str b)) = some (.str b) := rfl
@[simp] theorem seen_tup (b : List D) : seen st (.val (.tup b)) = some (.tup b) := rfl
@[simp] theorem seen_lst (b : List D) : seen st (.val (.lst b)) = some (.lst b) := rfl
@[simp] theorem seen_lsk (b : List D) : seen st (.val (.lsk b)) = some (.lsk b) := rfl
@[simp] theorem seen_dlk (b : List (Key × D)) : seen st (.val (.dlk b)) = some (.dlk b) := rfl
@[simp] theorem seen_dct (b : List (Key × D)) : seen st (.val (.dct b)) = some (.dct b) := rfl
@[simp] theorem seen_ins (c : Str) (b : List (Str × D)) : seen st (.val (.ins c b)) = some (.ins c b) := rfl
@[simp] theorem seen_ref (l : Nat) : seen st (.val (.ref l)) = match st[l]? with
    | some (.lst ds) => some (.lst ds)
    | some (.dct ds) => some (.dct ds)
    | _ => none := rfl
end
@[simp] def pvr (i : Nat) (ρ : En) (st : Store) : Option D := match ρ[i]? with
  | some (.val d) => some d
  | _ => none
@[simp] def pvw (i : Nat) (ρ : En) (st : Store) : Option D := match ρ[i]? with
  | some s => seen st s
  | _ => none
@[simp] def pcst (d : D) (ρ : En) (st : Store) : Option D := some d
theorem refP_var (i : Nat) : RefP K mg (tVar i) (pvr i) := fun w Q d s h k => by
  unfold pvr at h
  split at h
  · rename_i d' e
    cases h
    obtain ⟨v, e2, r⟩ := s.slo i _ e
    exact ⟨v, e2, k v r⟩
  · cases h
theorem refPv_var (i : Nat) : RefPv K mg (tVar i) (pvw i) := fun w Q d s h k => by
  unfold pvw at h
  split at h
  · rename_i sl e
    have sl' := s.slo i _ e
    unfold seen at h
    split at h
    · cases h
    · cases h
      obtain ⟨a, vs, e1, e2, e3, e4, e5⟩ := sl'
      exact ⟨_, e1, k _ (.inr (.inl ⟨a, vs, _, rfl, rfl, e3, e4, e5⟩))⟩
    · rename_i l
      obtain ⟨v, e2, r⟩ := sl'
      cases r with
      | ref hl =>
        rename_i a
        split at h
        · rename_i ds hs
          cases h
          obtain ⟨_, vs, e3, e4, e5⟩ := s.cel l _ a hs hl
          exact ⟨_, e2, k _ (.inr (.inl ⟨a, vs, _, rfl, rfl, e3, e4, e5⟩))⟩
        · rename_i ds hs
          cases h
          obtain ⟨_, vs, e3, e5⟩ := s.cel l _ a hs hl
          exact ⟨_, e2, k _ (.inr (.inr ⟨a, vs, _, rfl, rfl, e3, e5⟩))⟩
        · cases h
    · cases h
      obtain ⟨v, e2, r⟩ := sl'
      exact ⟨v, e2, k v (.inl r)⟩
    · cases h
    · cases h
  · cases h
theorem refP_cst {v : V} {d : D} (r : ∀ G ι, Rep K mg G ι v d) : RefP K mg (tC v) (pcst d) := fun w Q e s h k => by
  cases h; exact k v (r _ _)
@[simp] def vr (i : Nat) (ρ : En) (st : Store) : R := match ρ[i]? with
  | some (.val d) => .ok d ρ st
  | _ => .bad
@[simp] def cst (d : D) (ρ : En) (st : Store) : R := .ok d ρ st
theorem ref_var (i : Nat) : RefE K mg W (tVar i) (vr i) := fun w Q s h => by
  unfold vr at h
  split at h
  · rename_i d e
    obtain ⟨v, e2, r⟩ := s.slo i _ e
    exact ⟨v, e2, h w v rfl rfl rfl (Aft.refl s) r⟩
  · exact h.elim
theorem ref_cst {v : V} {d : D} (r : ∀ G ι, Rep K mg G ι v d) : RefE K mg W (tC v) (cst d) := fun w Q s h =>
  h w v rfl rfl rfl (Aft.refl s) (r _ _)
end
section
variable {X : Cx} {W : WB} {a b c : Expr} {f g : DEx} {pos : Pos}
theorem de_vr (i : Nat) {x : Str} (hN : X.N[i]? = some x := by rfl) (hv : Vis X.env.scope x := by first | exact Or.inl rfl | exact Or.inr (Or.inl rfl) | exact Or.inr (Or.inr rfl)) (hd : (x == ("__debug__" : Str)) = false := by decide)
    (hcd : (x == ("__classdict__" : Str)) = false := by decide) : DE X W (.Name x pos) (vr i) := ⟨_, pv i hN hv hd hcd, ref_var i⟩
theorem dp_vr (i : Nat) {x : Str} (hN : X.N[i]? = some x := by rfl) (hv : Vis X.env.scope x := by first | exact Or.inl rfl | exact Or.inr (Or.inl rfl) | exact Or.inr (Or.inr rfl)) (hd : (x == ("__debug__" : Str)) = false := by decide)
    (hcd : (x == ("__classdict__" : Str)) = false := by decide) : DP X (.Name x pos) (pvr i) := ⟨_, pv i hN hv hd hcd, fun _ => refP_var i⟩
theorem dp_vw (i : Nat) {x : Str} (hN : X.N[i]? = some x := by rfl) (hv : Vis X.env.scope x := by first | exact Or.inl rfl | exact Or.inr (Or.inl rfl) | exact Or.inr (Or.inr rfl)) (hd : (x == ("__debug__" : Str)) = false := by decide)
    (hcd : (x == ("__classdict__" : Str)) = false := by decide) : DPv X (.Name x pos) (pvw i) := ⟨_, pv i hN hv hd hcd, fun _ => refPv_var i⟩
theorem dp_int {i : Int} {j : Nat} : DP X (.Constant (.int i) j pos) (pcst (.int i)) := ⟨_, pe_int, fun _ => refP_cst fun _ _ => .int i⟩
theorem de_int {i : Int} {j : Nat} : DE X W (.Constant (.int i) j pos) (cst (.int i)) := ⟨_, pe_int, ref_cst fun _ _ => .int i⟩
theorem de_bl {i : Bool} {j : Nat} : DE X W (.Constant (.bool i) j pos) (cst (.bl i)) := ⟨_, pe_bl, ref_cst fun _ _ => .bl i⟩
theorem de_non {j : Nat} : DE X W (.Constant .none j pos) (cst .non) := ⟨_, pe_non, ref_cst fun _ _ => .non⟩
theorem de_str {i : Str} {j : Nat} : DE X W (.Constant (.str i) j pos) (cst (.str i)) := ⟨_, pe_str, ref_cst fun _ _ => .str i⟩
theorem de_gint {x : Str} {i : Int} {t : Tok} (hg : Gl X x) (hm : X.mg x = some (.int i t)) (hdb : (x == ("__debug__" : Str)) = false := by decide) : DE X W (.Name x pos) (cst (.int i)) := ⟨_, pe_glob (v := .int i) hg hm ⟨_, rfl⟩ hdb, ref_cst fun _ _ => .int i⟩
theorem de_gstr {x : Str} {i : Str} {t : Tok} (hg : Gl X x) (hm : X.mg x = some (.str i t)) (hdb : (x == ("__debug__" : Str)) = false := by decide) : DE X W (.Name x pos) (cst (.str i)) := ⟨_, pe_glob (v := .str i) hg hm ⟨_, rfl⟩ hdb, ref_cst fun _ _ => .str i⟩
end
@[simp] def lift2 (p : D → D → Option D) (f g : DEx) (ρ : En) (st : Store) : R := (f ρ st).bind fun d ρ st => (g ρ st).bind fun e ρ st => match p d e with
  | some z => .ok z ρ st
  | none => .bad
@[simp] def lift1 (p : D → Option D) (f : DEx) (ρ : En) (st : Store) : R := (f ρ st).bind fun d ρ st => match p d with
  | some z => .ok z ρ st
  | none => .bad
def Ans2 (K : PySem.W.Frag) (mg : MG) (r : R2) (p : D → D → Option D) : Prop :=
  ∀ (w : Ws) (x y : V) (d e z : D) (Q : VK), Sts K mg w → RepV K mg w x d → RepV K mg w y e → p d e = some z → (∀ v, (∀ G ι, Rep K mg G ι v z) → Q v w.H) → r x y w.H Q
def Ans1 (K : PySem.W.Frag) (mg : MG) (r : V → Hp → VK → Prop) (p : D → Option D) : Prop :=
  ∀ (w : Ws) (x : V) (d z : D) (Q : VK), Sts K mg w → RepV K mg w x d → p d = some z → (∀ v, (∀ G ι, Rep K mg G ι v z) → Q v w.H) → r x w.H Q
section
variable {K : PySem.W.Frag} {mg : MG} {W : WB}
theorem ref_op {r : R2} {p : D → D → Option D} {ta tb : TE} {f g : DEx} (hr : Ans2 K mg r p) (ha : RefE K mg W ta f) (hb : RefV K mg W tb g) : RefE K mg W (tOp r ta tb) (lift2 p f g) := fun w Q s h => by
  refine ha.bindR (Q := Q) s h fun w1 x d s1 e1 a1 r1 h1 => ?_
  show tb w.σ w1.H _
  rw [← e1]
  refine hb.bindR (Q := Q) s1 h1 fun w2 y e s2 e2 a2 r2 h2 => ?_
  cases q : p d e with
  | none => simp only [q] at h2; exact h2.elim
  | some z =>
    simp only [q] at h2
    exact hr w2 x y d e z Q s2 (.inl (r1.mono a2.g a2.i)) r2 q fun v rv => h2 w2 v rfl rfl rfl (Aft.refl s2) (rv _ _)
theorem ref_un {r : V → Hp → VK → Prop} {p : D → Option D} {ta : TE} {f : DEx} (hr : Ans1 K mg r p) (ha : RefV K mg W ta f) : RefE K mg W (tUn r ta) (lift1 p f) := fun w Q s h => by
  refine ha.bindR (Q := Q) s h fun w1 x d s1 e1 a1 r1 h1 => ?_
  cases q : p d with
  | none => simp only [q] at h1; exact h1.elim
  | some z =>
    simp only [q] at h1
    exact hr w1 x d z Q s1 r1 q fun v rv => h1 w1 v rfl rfl rfl (Aft.refl s1) (rv _ _)
theorem Ans2.or {r r' : R2} {p : D → D → Option D} (h : ∀ d e z, p d e = some z → ∃ (q : D → D → Option D), q d e = some z ∧ (Ans2 K mg r q ∨ Ans2 K mg r' q)) : Ans2 K mg (fun x y H Q => r x y H Q ∨ r' x y H Q) p := fun w x y d e z Q s rx ry q k => by
  obtain ⟨q', h1, h2⟩ := h d e z q
  rcases h2 with h2 | h2
  · exact .inl (h2 w x y d e z Q s rx ry h1 k)
  · exact .inr (h2 w x y d e z Q s rx ry h1 k)
end
theorem opR_or {X : Cx} {f : Value → Value → Sem Value} {r r' : R2} (h : OpR X f r) (h' : OpR X f r') : OpR X f (fun x y H Q => r x y H Q ∨ r' x y H Q) := fun pins s σ H x y v u Q I rx ry q => by
  rcases q with q | q
  · exact h pins s σ H x y v u Q I rx ry q
  · exact h' pins s σ H x y v u Q I rx ry q
@[simp] def iop (C : Int → Int → Prop) [∀ i j, Decidable (C i j)] (h : Int → Int → Int) : D → D → Option D
  | .int i, .int j => if C i j then some (.int (h i j)) else none
  | _, _ => none
@[simp] def iop0 (h : Int → Int → Int) : D → D → Option D
  | .int i, .int j => some (.int (h i j))
  | _, _ => none
section
variable {K : PySem.W.Frag} {mg : MG}
theorem iop_inv {C : Int → Int → Prop} [∀ i j, Decidable (C i j)] {h : Int → Int → Int} {d e z : D} (q : iop C h d e = some z) : ∃ i j, d = .int i ∧ e = .int j ∧ C i j ∧ z = .int (h i j) := by
  unfold iop at q
  split at q
  · split at q
    · cases q; exact ⟨_, _, rfl, rfl, by assumption, rfl⟩
    · cases q
  · cases q
theorem iop0_inv {h : Int → Int → Int} {d e z : D} (q : iop0 h d e = some z) : ∃ i j, d = .int i ∧ e = .int j ∧ z = .int (h i j) := by
  unfold iop0 at q
  split at q
  · cases q; exact ⟨_, _, rfl, rfl, rfl⟩
  · cases q
theorem ans_iop {C : Int → Int → Prop} [∀ i j, Decidable (C i j)] {h : Int → Int → Int} : Ans2 K mg (rI C fun i j => .int (h i j)) (iop C h) := fun w x y d e z Q s rx ry q k => by
  obtain ⟨i, j, rfl, rfl, hc, rfl⟩ := iop_inv q
  exact ⟨i, j, rx.int_inv, ry.int_inv, hc, k _ (fun _ _ => .int _)⟩
theorem ans_iop0 {h : Int → Int → Int} : Ans2 K mg (rI0 fun i j => .int (h i j)) (iop0 h) := fun w x y d e z Q s rx ry q k => by
  obtain ⟨i, j, rfl, rfl, rfl⟩ := iop0_inv q
  exact ⟨i, j, rx.int_inv, ry.int_inv, k _ (fun _ _ => .int _)⟩
end
instance (i j : Int) : Decidable (CMul i j) := by unfold CMul; infer_instance
instance (i j : Int) : Decidable (CDiv i j) := by unfold CDiv; infer_instance
instance (i j : Int) : Decidable (CPow i j) := by unfold CPow; infer_instance
@[simp] def pNeg : D → Option D
  | .int i => some (.int (-i))
  | _ => none
@[simp] def pSub := iop0 (· - ·)
@[simp] def pDiv := iop CDiv (· / ·)
@[simp] def pMod := iop (fun _ j => 0 < j) (· % ·)
def sAdd : D → D → Option D
  | .str x, .str y => if x.length + y.length ≤ sizeLine then some (.str (x ++ y)) else none
  | _, _ => none
section
variable {X : Cx} {W : WB} {a b c : Expr} {f g : DEx} {pos : Pos}
theorem ans_sadd {K : PySem.W.Frag} {mg : MG} : Ans2 K mg (fun x y H Q => ∃ i j, x = .str i ∧ y = .str j ∧ i.length + j.length ≤ sizeLine ∧ Q (.str (i ++ j)) H) sAdd := fun w x y d e z Q s rx ry q k => by
  unfold sAdd at q
  split at q
  · split at q
    · cases q; exact ⟨_, _, rx.str_inv, ry.str_inv, by assumption, k _ (fun _ _ => .str _)⟩
    · cases q
  · cases q
theorem de_bin {op : Operator} {r : R2} {p : D → D → Option D} (ho : OpR X (binaryOp op) r) (hr : Ans2 X.K (MGx X W.b) r p) (ha : DE X W a f) (hb : DV X W b g) : DE X W (.BinOp a op b pos) (lift2 p f g) := by
  obtain ⟨ta, pa, ra⟩ := ha
  obtain ⟨tb, pb, rb⟩ := hb
  exact ⟨_, pe_op ho pa pb, ref_op hr ra rb⟩
theorem de_sub (ha : DE X W a f) (hb : DE X W b g) : DE X W (.BinOp a .Sub b pos) (lift2 pSub f g) := de_bin op_sub ans_iop0 ha hb.v
theorem de_div (ha : DE X W a f) (hb : DE X W b g) : DE X W (.BinOp a .FloorDiv b pos) (lift2 pDiv f g) := de_bin op_fdiv ans_iop ha hb.v
theorem de_mod (ha : DE X W a f) (hb : DE X W b g) : DE X W (.BinOp a .Mod b pos) (lift2 pMod f g) := de_bin op_mod ans_iop ha hb.v
theorem de_neg (ha : DE X W a f) : DE X W (.UnaryOp .USub a pos) (lift1 pNeg f) := by
  obtain ⟨ta, pa, ra⟩ := ha
  refine ⟨_, pe_un un_neg pa, ref_un (fun w x d z Q s rx q k => ?_) ra.v⟩
  unfold pNeg at q
  split at q
  · cases q; exact ⟨_, rx.int_inv, k _ (fun _ _ => .int _)⟩
  · cases q
theorem de_cmp {op : CmpOp} {r : R2} {p : D → D → Option D} (ho : OpR X (compareOp op) r) (hr : Ans2 X.K (MGx X W.b) r p) (hm : behindInMarks op b = false) (ha : DE X W a f) (hb : DV X W b g) : DE X W (.Compare a [op] [b] pos) (lift2 p f g) := by
  obtain ⟨ta, pa, ra⟩ := ha
  obtain ⟨tb, pb, rb⟩ := hb
  exact ⟨_, pe_cmpR ho pa pb hm, ref_op hr ra rb⟩
end
@[simp] def plift2 (p : D → D → Option D) (f g : DPx) (ρ : En) (st : Store) : Option D := match f ρ st, g ρ st with
  | some d, some e => p d e
  | _, _ => none
@[simp] def plift1 (p : D → Option D) (f : DPx) (ρ : En) (st : Store) : Option D := match f ρ st with
  | some d => p d
  | _ => none
section
variable {K : PySem.W.Frag} {mg : MG}
theorem refP_op {r : R2} {p : D → D → Option D} {ta tb : TE} {f g : DPx} (hr : Ans2 K mg r p) (ha : RefPv K mg ta f) (hb : RefPv K mg tb g) : RefP K mg (tOp r ta tb) (plift2 p f g) := fun w Q z s h k => by
  unfold plift2 at h
  split at h
  · rename_i d e h1 h2
    exact ha w _ d s h1 fun x rx => hb w _ e s h2 fun y ry => hr w x y d e z Q s rx ry h fun v rv => k v (rv _ _)
  · cases h
theorem refP_un {r : V → Hp → VK → Prop} {p : D → Option D} {ta : TE} {f : DPx} (hr : Ans1 K mg r p) (ha : RefPv K mg ta f) : RefP K mg (tUn r ta) (plift1 p f) := fun w Q z s h k => by
  unfold plift1 at h
  split at h
  · rename_i d h1
    exact ha w _ d s h1 fun x rx => hr w x d z Q s rx h fun v rv => k v (rv _ _)
  · cases h
end
section
variable {X : Cx} {a b c : Expr} {f g : DPx} {pos : Pos}
theorem dp_bin {op : Operator} {r : R2} {p : D → D → Option D} (ho : OpR X (binaryOp op) r) (hr : ∀ {bb : Low}, Ans2 X.K (MGx X bb) r p) (ha : DPv X a f) (hb : DPv X b g) : DP X (.BinOp a op b pos) (plift2 p f g) := by
  obtain ⟨ta, pa, ra⟩ := ha
  obtain ⟨tb, pb, rb⟩ := hb
  exact ⟨_, pe_op ho pa pb, fun bb => refP_op hr (ra bb) (rb bb)⟩
theorem dp_sub (ha : DP X a f) (hb : DP X b g) : DP X (.BinOp a .Sub b pos) (plift2 pSub f g) := dp_bin op_sub ans_iop0 ha.pv hb.pv
theorem dp_add (ha : DP X a f) (hb : DP X b g) : DP X (.BinOp a .Add b pos) (plift2 (iop0 (· + ·)) f g) := dp_bin op_add ans_iop0 ha.pv hb.pv
theorem dp_mod (ha : DP X a f) (hb : DP X b g) : DP X (.BinOp a .Mod b pos) (plift2 pMod f g) := dp_bin op_mod ans_iop ha.pv hb.pv
theorem dp_neg (ha : DP X a f) : DP X (.UnaryOp .USub a pos) (plift1 pNeg f) := by
  obtain ⟨ta, pa, ra⟩ := ha.pv
  refine ⟨_, pe_un un_neg pa, fun bb => refP_un (fun w x d z Q s rx q k => ?_) (ra bb)⟩
  unfold pNeg at q
  split at q
  · cases q; exact ⟨_, rx.int_inv, k _ (fun _ _ => .int _)⟩
  · cases q
end
end DL
namespace DL
open PySem L2
mutual
def D.py : D → Option PyData
  | .non => some .none
  | .bl b => some (.bool b)
  | .int i => some (.int i)
  | .str s => some (.str s)
  | .tup ds => (pyAll ds).map .tuple
  | .lst ds => (pyAll ds).map .list
  | _ => none
def pyAll : List D → Option (List PyData)
  | [] => some []
  | d :: ds => match d.py, pyAll ds with
    | some p, some ps => some (p :: ps)
    | _, _ => none
end
section
variable {K : PySem.W.Frag} {mg : MG} {G : Hp} {ι : List Addr}
mutual
theorem Rep.dp : ∀ {v : V} {d : D} {p : PyData}, Rep K mg G ι v d → d.py = some p → Dp K G v p
  | _, _, _, .non, h => by cases h; exact .non
  | _, _, _, .bl b, h => by cases h; exact .bl b
  | _, _, _, .int i, h => by cases h; exact .int i
  | _, _, _, .str x, h => by cases h; exact .str x
  | _, .lst ds, _, .lst hs _ r, h => by
    simp only [D.py, Option.map_eq_some_iff] at h
    obtain ⟨ps, e, rfl⟩ := h
    exact .lst (.inl (.inl hs)) (Reps.dp r e)
  | _, .tup ds, _, .tup hs _ r, h => by
    simp only [D.py, Option.map_eq_some_iff] at h
    obtain ⟨ps, e, rfl⟩ := h
    exact .tup hs (Reps.dp r e)
  | _, _, _, .lsk _ _ _, h => by simp [D.py] at h
  | _, _, _, .dct _ _, h => by simp [D.py] at h
  | _, _, _, .dlk _ _, h => by simp [D.py] at h
  | _, _, _, .ins _ _ _ _, h => by simp [D.py] at h
  | _, _, _, .ref _, h => by simp [D.py] at h
  | _, _, _, .glb _ _, h => by simp [D.py] at h
  | _, _, _, .typ _, h => by simp [D.py] at h
theorem Reps.dp : ∀ {v : List V} {d : List D} {p : List PyData}, Reps K mg G ι v d → pyAll d = some p → DpAll K G v p
  | _, _, _, .nil, h => by simp only [pyAll, Option.some.injEq] at h; subst h; exact .nil
  | _, d :: ds, _, .cons r rs, h => by
    simp only [pyAll] at h
    split at h
    · rename_i p ps e1 e2
      cases h
      exact .cons (Rep.dp r e1) (Reps.dp rs e2)
    · cases h
end
mutual
theorem dp_mono {H H' : Hp} (e : Same H H') : ∀ {v : V} {p : PyData}, Dp K H v p → Dp K H' v p
  | _, _, .non => .non
  | _, _, .bl b => .bl b
  | _, _, .int i => .int i
  | _, _, .str x => .str x
  | _, _, .lst h r => .lst (SqL.mono e h) (dpAll_mono e r)
  | _, _, .tup h r => .tup (SqT.mono e h) (dpAll_mono e r)
theorem dpAll_mono {H H' : Hp} (e : Same H H') : ∀ {v : List V} {p : List PyData}, DpAll K H v p → DpAll K H' v p
  | _, _, .nil => .nil
  | _, _, .cons h r => .cons (dp_mono e h) (dpAll_mono e r)
end
end
def pEqB (d e : D) : Option Bool := match d.py, e.py with
  | some p, some q => if SeqAt.shaped p = true ∧ SeqAt.shaped q = true then some (PyData.eqv p q) else none
  | _, _ => none
def pEq (d e : D) : Option D := (pEqB d e).map .bl
def pNe (d e : D) : Option D := (pEqB d e).map fun b => .bl (!b)
theorem pEqB_inv {d e : D} {b : Bool} (h : pEqB d e = some b) : ∃ p q, d.py = some p ∧ e.py = some q ∧ SeqAt.shaped p = true ∧ SeqAt.shaped q = true ∧ b = PyData.eqv p q := by
  unfold pEqB at h
  split at h
  · split at h
    · rename_i p q e1 e2 hh
      cases h
      exact ⟨p, q, e1, e2, hh.1, hh.2, rfl⟩
    · cases h
  · cases h
section
variable {K : PySem.W.Frag} {mg : MG}
theorem ans_eq : Ans2 K mg (rEqD K) pEq := fun w x y d e z Q s rx ry q k => by
  obtain ⟨b, hb, rfl⟩ := Option.map_eq_some_iff.mp q
  obtain ⟨p, p', e1, e2, s1, s2, rfl⟩ := pEqB_inv hb
  exact ⟨p, p', (rx.h s).dp e1, (ry.h s).dp e2, s1, s2, k _ (fun _ _ => .bl _)⟩
theorem ans_ne : Ans2 K mg (rNeD K) pNe := fun w x y d e z Q s rx ry q k => by
  obtain ⟨b, hb, rfl⟩ := Option.map_eq_some_iff.mp q
  obtain ⟨p, p', e1, e2, s1, s2, rfl⟩ := pEqB_inv hb
  exact ⟨p, p', (rx.h s).dp e1, (ry.h s).dp e2, s1, s2, k _ (fun _ _ => .bl _)⟩
end
def pInB : D → D → Option Bool
  | .str x, .str z => match x.cps.toList with
    | [c] => some (decide (c ∈ z.cps.toList))
    | _ => none
  | d, .lst ds => match d.py, pyAll ds with
    | some p, some ps => if SeqAt.shaped p = true ∧ SeqAt.shaped (.list ps) = true then some (ps.any fun z => PyData.eqv z p) else none
    | _, _ => none
  | d, .tup ds => match d.py, pyAll ds with
    | some p, some ps => if SeqAt.shaped p = true ∧ SeqAt.shaped (.list ps) = true then some (ps.any fun z => PyData.eqv z p) else none
    | _, _ => none
  | _, _ => none
def rInT (K : PySem.W.Frag) (n : Bool) : R2 := fun x y H Q => ∃ d ds, Dp K H x d ∧ Dp K H y (.tuple ds) ∧ SeqAt.shaped d = true ∧ SeqAt.shaped (.list ds) = true ∧ Q (.bl (if n then !(ds.any fun z => PyData.eqv z d) else (ds.any fun z => PyData.eqv z d))) H
end DL
namespace DL
open PySem L2
section
variable {X : Cx}
theorem op_inT (hu : X.A.units + 65 < cLine) : OpR X (compareOp .In) (rInT X.K false) := by
  intro pins s σ H x y v u Q I rx ry h
  obtain ⟨d, ds, hd, he, sd, se, q⟩ := h
  obtain ⟨as, r1⟩ := Dp.reads I d x v hd rx
  obtain ⟨bs, r2⟩ := Dp.reads I (.tuple ds) y u he ry
  exact SeqAt.in_tuple_reads r2 r1 (SeqAt.canLay_of_shaped se) (SeqAt.canLay_of_shaped sd) (PyProof.Rows.room_in_shaped sd hu) ⟨.bl _, H, I, rfl, q⟩
theorem op_notInT (hu : X.A.units + 65 < cLine) : OpR X (compareOp .NotIn) (rInT X.K true) := by
  intro pins s σ H x y v u Q I rx ry h
  obtain ⟨d, ds, hd, he, sd, se, q⟩ := h
  obtain ⟨as, r1⟩ := Dp.reads I d x v hd rx
  obtain ⟨bs, r2⟩ := Dp.reads I (.tuple ds) y u he ry
  exact SeqAt.notIn_tuple_reads r2 r1 (SeqAt.canLay_of_shaped se) (SeqAt.canLay_of_shaped sd) (PyProof.Rows.room_in_shaped sd hu) ⟨.bl _, H, I, rfl, q⟩
end
def rInA (K : PySem.W.Frag) (n : Bool) : R2 := fun x y H Q =>
  (∃ (c : Nat) (z : Str), x = .str ⟨#[c]⟩ ∧ y = .str z ∧ Q (.bl (if n then !decide (c ∈ z.cps.toList) else decide (c ∈ z.cps.toList))) H) ∨
  (∃ d ds, Dp K H x d ∧ Dp K H y (.list ds) ∧ SeqAt.shaped d = true ∧ SeqAt.shaped (.list ds) = true ∧ Q (.bl (if n then !(ds.any fun z => PyData.eqv z d) else (ds.any fun z => PyData.eqv z d))) H) ∨
  rInT K n x y H Q
section
variable {X : Cx}
theorem op_inA (hu : X.A.units + 65 < cLine) : OpR X (compareOp .In) (rInA X.K false) := fun pins s σ H x y v u Q I rx ry q => by
  rcases q with q | q | q
  · exact op_in_sign pins s σ H x y v u Q I rx ry q
  · exact op_inD hu pins s σ H x y v u Q I rx ry q
  · exact op_inT hu pins s σ H x y v u Q I rx ry q
theorem op_notInA (hu : X.A.units + 65 < cLine) : OpR X (compareOp .NotIn) (rInA X.K true) := fun pins s σ H x y v u Q I rx ry q => by
  rcases q with q | q | q
  · exact op_notIn_sign pins s σ H x y v u Q I rx ry q
  · exact op_notInD hu pins s σ H x y v u Q I rx ry q
  · exact op_notInT hu pins s σ H x y v u Q I rx ry q
end
theorem str_of_one {x : Str} {c : Nat} (h : x.cps.toList = [c]) : x = ⟨#[c]⟩ := by
  cases x with
  | mk a =>
    cases a with
    | mk l => simp at h; subst h; rfl
section
variable {K : PySem.W.Frag} {mg : MG}
theorem ans_in (n : Bool) : Ans2 K mg (rInA K n) (fun d e => (pInB d e).map fun b => .bl (if n then !b else b)) := fun w x y d e z Q s rx ry q k => by
  obtain ⟨b, hb, rfl⟩ := Option.map_eq_some_iff.mp q
  unfold pInB at hb
  split at hb
  · split at hb
    · rename_i c hc
      cases hb
      refine .inl ⟨c, _, by rw [rx.str_inv, str_of_one hc], ry.str_inv, k _ fun _ _ => .bl _⟩
    · cases hb
  · split at hb
    · split at hb
      · rename_i p ps e1 e2 hh
        cases hb
        refine .inr (.inl ⟨p, ps, (rx.h s).dp e1, (ry.h s).dp (by simp [D.py, e2]), hh.1, hh.2, k _ fun _ _ => .bl _⟩)
      · cases hb
    · cases hb
  · split at hb
    · split at hb
      · rename_i p ps e1 e2 hh
        cases hb
        refine .inr (.inr ⟨p, ps, (rx.h s).dp e1, (ry.h s).dp (by simp [D.py, e2]), hh.1, hh.2, k _ fun _ _ => .bl _⟩)
      · cases hb
    · cases hb
  · cases hb
def D.isNon : D → Option Bool
  | .non => some true
  | .bl _ | .int _ | .str _ | .tup _ | .lst _ | .lsk _ | .dct _ | .ins _ _ | .ref _ | .dlk _ => some false
  | _ => none
@[simp] theorem isNon_non : D.isNon .non = some true := rfl
@[simp] theorem isNon_bl (b : Bool) : D.isNon (.bl b) = some false := rfl
@[simp] theorem isNon_int (b : Int) : D.isNon (.int b) = some false := rfl
@[simp] theorem isNon_str (b : Str) : D.isNon (.str b) = some false := rfl
@[simp] theorem isNon_tup (b : List D) : D.isNon (.tup b) = some false := rfl
@[simp] theorem isNon_lst (b : List D) : D.isNon (.lst b) = some false := rfl
@[simp] theorem isNon_lsk (b : List D) : D.isNon (.lsk b) = some false := rfl
@[simp] theorem isNon_dct (b : List (Key × D)) : D.isNon (.dct b) = some false := rfl
@[simp] theorem isNon_ins (c : Str) (b : List (Str × D)) : D.isNon (.ins c b) = some false := rfl
@[simp] theorem isNon_ref (b : Nat) : D.isNon (.ref b) = some false := rfl
@[simp] theorem isNon_dlk (b : List (Key × D)) : D.isNon (.dlk b) = some false := rfl
theorem RepV.isNon {w : Ws} {v : V} {d : D} {b : Bool} (h : RepV K mg w v d) (q : d.isNon = some b) : decide (v = .non) = b := by
  rcases h with h | ⟨a, vs, ds, rfl, rfl, h1, h2, h3⟩ | ⟨a, vs, ds, rfl, rfl, h1, h3⟩
  · cases h <;> simp [D.isNon] at q <;> subst q <;> simp
  · simp [D.isNon] at q; subst q; simp
  · simp [D.isNon] at q; subst q; simp
@[simp] def pIs (n : Bool) : D → D → Option D
  | d, .non => d.isNon.map fun b => .bl (if n then !b else b)
  | _, _ => none
theorem ans_isN : Ans2 K mg (fun x y H Q => y = .non ∧ Q (.bl (decide (x = .non))) H) (pIs false) := fun w x y d e z Q s rx ry q k => by
  unfold pIs at q
  split at q
  · obtain ⟨b, hb, rfl⟩ := Option.map_eq_some_iff.mp q
    have := rx.isNon hb
    have hy : y = .non := by
      rcases ry with h | ⟨a, vs, ds, _, e, _⟩ | ⟨a, vs, ds, _, e, _⟩
      · exact h.non_inv
      · cases e
      · cases e
    exact ⟨hy, this ▸ k _ fun _ _ => .bl _⟩
  · cases q
theorem ans_notN : Ans2 K mg (fun x y H Q => y = .non ∧ Q (.bl (!decide (x = .non))) H) (pIs true) := fun w x y d e z Q s rx ry q k => by
  unfold pIs at q
  split at q
  · obtain ⟨b, hb, rfl⟩ := Option.map_eq_some_iff.mp q
    have := rx.isNon hb
    have hy : y = .non := by
      rcases ry with h | ⟨a, vs, ds, _, e, _⟩ | ⟨a, vs, ds, _, e, _⟩
      · exact h.non_inv
      · cases e
      · cases e
    refine ⟨hy, ?_⟩
    rw [this]
    exact k _ fun _ _ => .bl _
  · cases q
end
@[simp] def notD (f : DEx) (ρ : En) (st : Store) : R := (f ρ st).bind fun d ρ st => match d with
  | .bl b => .ok (.bl (!b)) ρ st
  | _ => .bad
@[simp] def andD (f g : DEx) (ρ : En) (st : Store) : R := (f ρ st).bind fun d ρ st => match d with
  | .bl true => g ρ st
  | .bl false => .ok (.bl false) ρ st
  | _ => .bad
@[simp] def orD (f g : DEx) (ρ : En) (st : Store) : R := (f ρ st).bind fun d ρ st => match d with
  | .bl true => .ok (.bl true) ρ st
  | .bl false => g ρ st
  | _ => .bad
@[simp] def chainD (p p' : D → D → Option D) (f g h : DEx) (ρ : En) (st : Store) : R := (f ρ st).bind fun d ρ st => (g ρ st).bind fun e ρ st => match p d e with
  | some (.bl true) => (h ρ st).bind fun z ρ st => match p' e z with
    | some y => .ok y ρ st
    | none => .bad
  | some (.bl false) => .ok (.bl false) ρ st
  | _ => .bad
section
variable {K : PySem.W.Frag} {mg : MG} {W : WB}
theorem RefV.test {t : TE} {f : DEx} (h : RefV K mg W t f) : RefT K mg W (fun σ H Q => t σ H fun x H' => ∃ k, x = .bl k ∧ Q k H') f := fun w Q s q => by
  refine h w _ s ?_
  cases r : f w.ρ w.st with
  | ok d ρ st =>
    rw [r] at q
    cases d with
    | bl b => exact fun w' v h1 h2 h3 h4 h5 => ⟨b, h5.bl_inv, q w' h1 h2 h3 h4⟩
    | _ => exact q.elim
  | exc c ρ st => rw [r] at q; exact q
  | bad => rw [r] at q; exact q
theorem RefT.bind {t : TT} {f : DEx} (h : RefT K mg W t f) {w : Ws} {Q1 : Bool → Hp → Prop} {r : D → En → Store → R} (s : Sts K mg w) {P : R → Prop}
    (hP : P ((f w.ρ w.st).bind r)) (hd : ∀ d ρ st, (∀ b, d ≠ .bl b) → r d ρ st = .bad)
    (hx : ∀ c ρ st, P (.exc c ρ st) → ∀ (w' : Ws) (cls : Value) (dx : Option Addr), w'.ρ = ρ → w'.st = st → w'.σ = w.σ → Aft K mg w w' → ExcAt K mg w' c cls dx → W cls dx w'.σ w'.H)
    (hb : P .bad → False)
    (k : ∀ (w1 : Ws) (b : Bool), w1.σ = w.σ → Aft K mg w w1 → P (r (.bl b) w1.ρ w1.st) → Q1 b w1.H) : t w.σ w.H Q1 := by
  refine h w Q1 s ?_
  cases e : f w.ρ w.st with
  | ok d ρ st =>
    rw [e] at hP
    cases d with
    | bl b =>
      intro w' h1 h2 h3 h4
      subst h1; subst h2
      exact k w' b h3 h4 hP
    | _ =>
      refine (hb ?_).elim
      simp only [R.bind] at hP
      rw [hd _ ρ st (by intro b q; cases q)] at hP
      exact hP
  | exc c ρ st =>
    rw [e] at hP
    exact hx c ρ st hP
  | bad => rw [e] at hP; exact (hb hP).elim
theorem refT_not {t : TT} {f : DEx} (h : RefT K mg W t f) : RefT K mg W (tNot t) (notD f) := fun w Q s q => by
  refine h.bind (P := OkT K mg W w Q) s q (fun d ρ st n => by cases d <;> first | rfl | exact absurd rfl (n _)) (fun _ _ _ z => z) (fun z => z) fun w1 b e a z => ?_
  exact z w1 rfl rfl e a
theorem refT_and {t u : TT} {f g : DEx} (h : RefT K mg W t f) (h' : RefT K mg W u g) : RefT K mg W (tAnd t u) (andD f g) := fun w Q s q => by
  refine h.bind (P := OkT K mg W w Q) s q (fun d ρ st n => by cases d <;> first | rfl | exact absurd rfl (n _)) (fun _ _ _ z => z) (fun z => z) fun w1 b e a z => ?_
  cases b with
  | true =>
    refine iteT ?_
    rw [← e]
    exact h' w1 Q a.s (OkT.aft z a e)
  | false => exact iteF (z w1 rfl rfl e a)
theorem refT_or {t u : TT} {f g : DEx} (h : RefT K mg W t f) (h' : RefT K mg W u g) : RefT K mg W (tOr t u) (orD f g) := fun w Q s q => by
  refine h.bind (P := OkT K mg W w Q) s q (fun d ρ st n => by cases d <;> first | rfl | exact absurd rfl (n _)) (fun _ _ _ z => z) (fun z => z) fun w1 b e a z => ?_
  cases b with
  | false =>
    refine iteF ?_
    rw [← e]
    exact h' w1 Q a.s (OkT.aft z a e)
  | true => exact iteT (z w1 rfl rfl e a)
theorem refE_and {ta tb : TE} {f g : DEx} (ha : RefE K mg W ta f) (hb : RefE K mg W tb g) : RefE K mg W (tAndV ta tb) (andD f g) := fun w Q s q => by
  refine ha.bindR (Q := Q) s q fun w1 v d s1 e a r z => ?_
  cases d with
  | bl b =>
    refine ⟨b, r.bl_inv, ?_⟩
    cases b with
    | true => exact iteT (e ▸ hb w1 Q s1 z)
    | false => exact iteF (z w1 _ rfl rfl rfl (Aft.refl s1) (.bl _))
  | _ => exact z.elim
theorem refE_or {ta tb : TE} {f g : DEx} (ha : RefE K mg W ta f) (hb : RefE K mg W tb g) : RefE K mg W (tOrV ta tb) (orD f g) := fun w Q s q => by
  refine ha.bindR (Q := Q) s q fun w1 v d s1 e a r z => ?_
  cases d with
  | bl b =>
    refine ⟨b, r.bl_inv, ?_⟩
    cases b with
    | false => exact iteF (e ▸ hb w1 Q s1 z)
    | true => exact iteT (z w1 _ rfl rfl rfl (Aft.refl s1) (.bl _))
  | _ => exact z.elim
theorem refE_chain {r r' : R2} {p p' : D → D → Option D} {ta tb tc : TE} {f g h : DEx} (hr : Ans2 K mg r p) (hr' : Ans2 K mg r' p') (ha : RefE K mg W ta f) (hb : RefE K mg W tb g) (hc : RefV K mg W tc h) :
    RefE K mg W (tChain r r' ta tb tc) (chainD p p' f g h) := fun w Q s q => by
  refine ha.bindR (Q := Q) s q fun w1 x d s1 e1 a1 r1 q1 => ?_
  show tb w.σ w1.H _
  rw [← e1]
  refine hb.bindR (Q := Q) s1 q1 fun w2 y e s2 e2 a2 r2 q2 => ?_
  cases z : p d e with
  | none => simp only [z] at q2; exact q2.elim
  | some z0 =>
    simp only [z] at q2
    refine hr w2 x y d e z0 _ s2 (.inl (r1.mono a2.g a2.i)) (.inl r2) z fun v rv => ?_
    cases z0 with
    | bl b =>
      refine ⟨b, (rv w2.G w2.ι).bl_inv, ?_⟩
      cases b with
      | true =>
        refine iteT ?_
        rw [← e2]
        refine hc.bindR (Q := Q) s2 q2 fun w3 u e' s3 e3 a3 r3 q3 => ?_
        cases z' : p' e e' with
        | none => simp only [z'] at q3; exact q3.elim
        | some z1 =>
          simp only [z'] at q3
          exact hr' w3 y u e e' z1 Q s3 (.inl (r2.mono a3.g a3.i)) r3 z' fun v rv => q3 w3 v rfl rfl rfl (Aft.refl s3) (rv _ _)
      | false => exact iteF (q2 w2 _ rfl rfl rfl (Aft.refl s2) (.bl _))
    | _ => exact q2.elim
end
def DW (X : Cx) (W : WB) (e : Expr) (f : DEx) : Prop := ∃ t, PW X e t ∧ RefT X.K (MGx X W.b) W t f
section
variable {X : Cx} {W : WB} {a b c : Expr} {f g h : DEx} {pos : Pos} {rest : List Expr}
theorem dt_cmp {op : CmpOp} {r : R2} {p : D → D → Option D} (ho : OpR X (compareOp op) r) (hr : Ans2 X.K (MGx X W.b) r p) (hm : behindInMarks op b = false) (ha : DE X W a f) (hb : DV X W b g) : DT X W (.Compare a [op] [b] pos) (lift2 p f g) := by
  obtain ⟨ta, pa, ra⟩ := ha
  obtain ⟨tb, pb, rb⟩ := hb
  exact ⟨_, pt_cmpR ho pa pb hm, (ref_op hr ra rb).v.test⟩
theorem dt_val (ha : DE X W a f) (he : ∀ whole, isTrue a X.env whole = (do let v ← whole; standAt a.pos; holding [v] (truthy v)) := by intro _; rfl) : DT X W a f := by
  obtain ⟨ta, pa, ra⟩ := ha
  exact ⟨_, pt_val pa he, ra.v.test⟩
theorem dt_not (ha : DT X W a f) : DT X W (.UnaryOp .Not a pos) (notD f) := by
  obtain ⟨ta, pa, ra⟩ := ha
  exact ⟨_, pt_not pa, refT_not ra⟩
theorem dw_and1 (ha : DT X W a f) : DW X W (.BoolOp .And [a] pos) f := let ⟨_, p, r⟩ := ha; ⟨_, pw_and1 p, r⟩
theorem dw_or1 (ha : DT X W a f) : DW X W (.BoolOp .Or [a] pos) f := let ⟨_, p, r⟩ := ha; ⟨_, pw_or1 p, r⟩
theorem dw_and (ha : DT X W a f) (hb : DW X W (.BoolOp .And (b :: rest) pos) g) : DW X W (.BoolOp .And (a :: b :: rest) pos) (andD f g) := let ⟨_, p, r⟩ := ha; let ⟨_, p', r'⟩ := hb; ⟨_, pw_and p p', refT_and r r'⟩
theorem dw_or (ha : DT X W a f) (hb : DW X W (.BoolOp .Or (b :: rest) pos) g) : DW X W (.BoolOp .Or (a :: b :: rest) pos) (orD f g) := let ⟨_, p, r⟩ := ha; let ⟨_, p', r'⟩ := hb; ⟨_, pw_or p p', refT_or r r'⟩
theorem DW.t (h : DW X W a f) : DT X W a f := let ⟨_, p, r⟩ := h; ⟨_, p.pt, r⟩
theorem de_and (ha : DE X W a f) (hb : DE X W (.BoolOp .And (b :: rest) pos) g) : DE X W (.BoolOp .And (a :: b :: rest) pos) (andD f g) := let ⟨_, p, r⟩ := ha; let ⟨_, p', r'⟩ := hb; ⟨_, pe_and p p', refE_and r r'⟩
theorem de_or (ha : DE X W a f) (hb : DE X W (.BoolOp .Or (b :: rest) pos) g) : DE X W (.BoolOp .Or (a :: b :: rest) pos) (orD f g) := let ⟨_, p, r⟩ := ha; let ⟨_, p', r'⟩ := hb; ⟨_, pe_or p p', refE_or r r'⟩
theorem de_one {op : BoolOp} (ha : DE X W a f) : DE X W (.BoolOp op [a] pos) f := let ⟨_, p, r⟩ := ha; ⟨_, pe_one p, r⟩
theorem dt_chain {op op' : CmpOp} {r r' : R2} {p p' : D → D → Option D} (ho : OpR X (compareOp op) r) (hr : Ans2 X.K (MGx X W.b) r p) (ho' : OpR X (compareOp op') r') (hr' : Ans2 X.K (MGx X W.b) r' p') (ha : DE X W a f) (hb : DE X W b g) (hc : DV X W c h)
    (hm : lastMarks [op, op'] [b, c] = false := by with_unfolding_all rfl) : DT X W (.Compare a [op, op'] [b, c] pos) (chainD p p' f g h) := let ⟨_, p1, r1⟩ := ha; let ⟨_, p2, r2⟩ := hb; let ⟨_, p3, r3⟩ := hc; ⟨_, pt_chain ho ho' p1 p2 p3 hm, (refE_chain hr hr' r1 r2 r3).v.test⟩
end
end DL
namespace DL
open PySem L2
@[simp] def aNil (ρ : En) (st : Store) : R := .ok (.tup []) ρ st
@[simp] def aCons (f g : DEx) (ρ : En) (st : Store) : R := (f ρ st).bind fun d ρ st => (g ρ st).bind fun e ρ st => match e with
  | .tup ds => .ok (.tup (d :: ds)) ρ st
  | _ => .bad
def DAn (X : Cx) (W : WB) (es : List Expr) (f : DEx) : Prop := DA X W es f ∧ ∀ ρ st d ρ' st', f ρ st = .ok d ρ' st' → ∃ ds, d = .tup ds ∧ ds.length = es.length
section
variable {K : PySem.W.Frag} {mg : MG} {W : WB}
theorem RefA.bind {t : TA} {f : DEx} (h : RefA K mg W t f) {w : Ws} {Q1 : List V → Hp → Prop} {r : D → En → Store → R} (s : Sts K mg w) {P : R → Prop}
    (hP : P ((f w.ρ w.st).bind r)) (hd : ∀ d ρ st, (∀ b, d ≠ .tup b) → r d ρ st = .bad)
    (hx : ∀ c ρ st, P (.exc c ρ st) → ∀ (w' : Ws) (cls : Value) (dx : Option Addr), w'.ρ = ρ → w'.st = st → w'.σ = w.σ → Aft K mg w w' → ExcAt K mg w' c cls dx → W cls dx w'.σ w'.H)
    (hb : P .bad → False)
    (k : ∀ (w1 : Ws) (vs : List V) (ds : List D), w1.σ = w.σ → Aft K mg w w1 → Reps K mg w1.G w1.ι vs ds → f w.ρ w.st = .ok (.tup ds) w1.ρ w1.st → P (r (.tup ds) w1.ρ w1.st) → Q1 vs w1.H) : t w.σ w.H Q1 := by
  refine h w Q1 s ?_
  cases e : f w.ρ w.st with
  | ok d ρ st =>
    rw [e] at hP
    cases d with
    | tup b =>
      intro w' vs h1 h2 h3 h4 h5
      subst h1; subst h2
      exact k w' vs b h3 h4 h5 e hP
    | _ =>
      refine (hb ?_).elim
      simp only [R.bind] at hP
      rw [hd _ ρ st (by intro b q; cases q)] at hP
      exact hP
  | exc c ρ st =>
    rw [e] at hP
    exact hx c ρ st hP
  | bad => rw [e] at hP; exact (hb hP).elim
theorem refA_nil : RefA K mg W tNil aNil := fun w Q s q => q w [] rfl rfl rfl (Aft.refl s) .nil
theorem refA_cons {te : TE} {t : TA} {f g : DEx} (he : RefE K mg W te f) (ht : RefA K mg W t g) : RefA K mg W (tCons te t) (aCons f g) := fun w Q s q => by
  refine he.bind (P := OkA K mg W w Q) s q (fun _ _ _ z => z) (fun z => z) fun w1 v d e1 a1 r1 q1 => ?_
  show t w.σ w1.H _
  rw [← e1]
  refine ht.bind (P := OkA K mg W w1 Q) a1.s (q1.aft a1 e1) (fun d ρ st n => by cases d <;> first | rfl | exact absurd rfl (n _)) (fun _ _ _ z => z) (fun z => z) fun w2 vs ds e2 a2 r2 _ q2 => ?_
  exact q2 w2 (v :: vs) rfl rfl e2 a2 (.cons (r1.mono a2.g a2.i) r2)
end
section
variable {X : Cx} {W : WB} {e a b : Expr} {es : List Expr} {f g : DEx} {pos : Pos}
theorem da_nil : DAn X W [] aNil := ⟨⟨_, pa_nil, refA_nil⟩, fun ρ st d ρ' st' h => by cases h; exact ⟨[], rfl, rfl⟩⟩
theorem da_cons (he : DE X W e f) (ht : DAn X W es g) (hs : starEach (e :: es) X.env = (false, eval e X.env) :: starEach es X.env := by rfl) : DAn X W (e :: es) (aCons f g) := by
  obtain ⟨te, pe, re⟩ := he
  obtain ⟨⟨t, pt, rt⟩, hl⟩ := ht
  refine ⟨⟨_, pa_cons pe pt hs, refA_cons re rt⟩, fun ρ st d ρ' st' h => ?_⟩
  unfold aCons at h
  cases h1 : f ρ st with
  | ok d1 ρ1 st1 =>
    rw [h1] at h
    simp only [R.bind] at h
    cases h2 : g ρ1 st1 with
    | ok d2 ρ2 st2 =>
      rw [h2] at h
      obtain ⟨ds, rfl, l⟩ := hl _ _ _ _ _ h2
      cases h
      exact ⟨d1 :: ds, rfl, by simp [l]⟩
    | exc c ρ st => rw [h2] at h; cases h
    | bad => rw [h2] at h; cases h
  | exc c ρ st => rw [h1] at h; cases h
  | bad => rw [h1] at h; cases h
theorem de_tup {k : Nat} (ha : DAn X W es f) (hl : es.length ≤ sizeLine := by decide) : DE X W (.Tuple es k pos) f := by
  obtain ⟨⟨t, pt, rt⟩, hn⟩ := ha
  refine ⟨_, pe_tup pt, fun w Q s q => ?_⟩
  refine rt.bind (P := OkR X.K (MGx X W.b) W w Q) (r := fun d ρ st => match d with | .tup ds => .ok (.tup ds) ρ st | _ => .bad) s ?_ ?_ (fun _ _ _ z => z) (fun z => z) fun w1 vs ds e1 a1 r1 e q1 => ?_
  · cases h : f w.ρ w.st with
    | ok d ρ st =>
      obtain ⟨ds, rfl, l⟩ := hn _ _ _ _ _ h
      rw [h] at q; exact q
    | exc c ρ st => rw [h] at q; exact q
    | bad => rw [h] at q; exact q
  · intro d ρ st n; cases d <;> first | rfl | exact absurd rfl (n _)
  · have l : vs.length ≤ sizeLine := by
      obtain ⟨ds', e', l⟩ := hn _ _ _ _ _ e
      cases e'
      rw [r1.len, l]; exact hl
    refine ⟨l, fun p hp => ?_⟩
    have A := Aft.alloc (o := .tup vs) a1.s hp
    exact q1 { w1 with G := upd w1.G p (.tup vs), H := upd w1.H p (.tup vs) } (.ref p) rfl rfl e1 (a1.trans A) (.tup (.inl (.inl upd_same)) l (r1.mono A.g A.i))
end
end DL
namespace DL
open PySem L2
abbrev Den := List D → Store → R
def WEb (b : Low) (E : XK) : WB := ⟨fun cls dx _ H => E cls dx H, b⟩
abbrev WEx (E : XK) : WB := WEb Low.no E
def spD (K : PySem.W.Frag) (mg : Str → Option Value) (n : Nat) (den : Den) : Sp := fun vs H Q E => vs.length = n ∧
  ∃ (w : Ws) (ds : List D), w.ρ = [] ∧ w.σ = [] ∧ w.H = H ∧ Sts K ⟨mg, Low.no⟩ w ∧ Reps K ⟨mg, Low.no⟩ w.G w.ι vs ds ∧ OkR K ⟨mg, Low.no⟩ (WEx E) w Q (den ds w.st)
@[simp] def endR : Fl → R
  | .nx _ st => .ok .non [] st
  | .rt d _ st => .ok d [] st
  | .exc c _ st => .exc c [] st
  | _ => .bad
@[simp] def enter (n : Nat) (ds : List D) : En := ds.map .val ++ List.replicate (n - ds.length) .no
@[simp] def runD (n : Nat) (g : DSx) : Den := fun ds st => endR (g (enter n ds) st)
theorem enter_ml (n : Nat) (ds : List D) (i : Nat) (es : List D) : (enter n ds)[i]? ≠ some (.ml es) := by
  intro h
  have := List.mem_of_getElem? h
  unfold enter at this
  rcases List.mem_append.mp this with h | h
  · obtain ⟨d, _, e⟩ := List.mem_map.mp h; cases e
  · have := List.eq_of_mem_replicate h; cases this
section
variable {K : PySem.W.Frag} {mg : MG}
theorem Sts.enter {w : Ws} {n : Nat} {N : List Str} {vs : List V} {ds : List D} (s : Sts K mg w) (hn : n = N.length) (r : Reps K mg w.G w.ι vs ds) : Sts K mg { w with ρ := enter n ds, σ := start N vs } where
  lowG := s.lowG
  lowI := s.lowI
  sub := s.sub
  ln := by unfold DL.enter L2.start; simp [r.len, hn]
  len := s.len
  cel := s.cel
  inj := s.inj
  slo := fun i x h => by
    show SlotAt K mg { w with ρ := DL.enter n ds, σ := start N vs } (start N vs)[i]? x
    have h' : (DL.enter n ds)[i]? = some x := h
    unfold DL.enter at h'
    by_cases q : i < ds.length
    · rw [List.getElem?_append_left (by simpa using q)] at h'
      rw [List.getElem?_map] at h'
      cases e : ds[i]? with
      | none => rw [e] at h'; cases h'
      | some d =>
        rw [e] at h'
        cases h'
        obtain ⟨v, e1, e2⟩ := r.get e
        refine ⟨v, ?_, e2⟩
        unfold L2.start
        rw [List.getElem?_append_left (by simpa [r.len] using q), List.getElem?_map, e1]
        rfl
    · rw [List.getElem?_append_right (by simpa using q)] at h'
      have := List.eq_of_mem_replicate (List.mem_of_getElem? h')
      subst this; trivial
  sep := fun i l a ⟨es, h, _⟩ _ => absurd h (enter_ml _ _ _ _)
  dis := fun i j a ⟨es, h, _⟩ _ => absurd h (enter_ml _ _ _ _)
theorem ws_strip {w : Ws} (h1 : w.ρ = []) (h2 : w.σ = []) : w.strip = w := by
  cases w; simp at h1 h2; subst h1; subst h2; rfl
end
structure FunV (K : PySem.W.Frag) (x qual : Str) (st : Stmt) (f : Addr) (fd : FuncData) : Prop where
  ex : ∃ (oc : Value) (od : Option Addr) (dV kV doc pm : Value) (an : Option Addr) (cdv ct : Value) (osl : Array (Option Value)), fd = PySem.W.fnOf x qual (defArgs st) (defBody st) (defScope st) dV kV doc pm an cdv ct ∧ K.lookup f = some ⟨oc, od, .func fd, osl⟩ ∧ PySem.W.codeIn K cdv qual = true
theorem funV_of {K : PySem.W.Frag} {x qual : Str} {st : Stmt} {f : Addr} {fd : FuncData} (F : Fun K x qual st f fd) : FunV K x qual st f fd := by
  obtain ⟨oc, od, kV, doc, pm, an, cdv, ct, osl, e, lk, hcd⟩ := F.ex
  exact ⟨oc, od, .none, kV, doc, pm, an, cdv, ct, osl, e, lk, hcd⟩
theorem FunV.okD {P : Program} {w : World} {K : PySem.W.Frag} {mg : Str → Option Value} {base : Heap} {x qual : Str} {st : Stmt} {f : Addr} {fd : FuncData} {N ps : List Str} {k : Nat} {sp : Sp} (F : FunV K x qual st f fd) (S : FnScope N ps (defScope st)) (len : ∀ vs H Q E, sp vs H Q E → vs.length = ps.length)
    (hb : ∀ (cdv : Value) (A : Around) (outer : List Env) (s : Shared) (H : Hp) (vs : List V) (Q : VK) (E : XK), Room k (A.deeper (PyProof.Rows.envOfC qual (defScope st) s.heap.objs.size f cdv)) → sp vs H Q E →
      ∃ t, PSs (cxOf (L2N.CX P w) P w K mg base N qual (defScope st) f cdv A outer s H E) (defBody st) t ∧ t { nx := fun _ H' => Q .non H', rt := Q } (start N vs) H) : FnOk P w K mg base (L2N.CX P w) (k + 1) f fd ps sp := by
  obtain ⟨oc, od, dV, kV, doc, pm, an, cdv, ct, osl, rfl, lk, hcd⟩ := F.ex
  exact fn_of lk hcd S len fun A outer s H vs Q E hr hsp => hb cdv A outer s H vs Q E hr hsp
theorem fn_D {P : Program} {wd : World} {K : PySem.W.Frag} {mg : Str → Option Value} {base : Heap} {x qual : Str} {st : Stmt} {f : Addr} {fd : FuncData} {N ps : List Str} {k n : Nat} {g : DSx} (F : FunV K x qual st f fd) (S : FnScope N ps (defScope st)) (hn : n = N.length)
    (hb : ∀ (cdv : Value) (A : Around) (outer : List Env) (s : Shared) (H : Hp) (E : XK), Room k (A.deeper (PyProof.Rows.envOfC qual (defScope st) s.heap.objs.size f cdv)) →
      DSs (cxOf (L2N.CX P wd) P wd K mg base N qual (defScope st) f cdv A outer s H E) (WEx E) (defBody st) g) : FnOk P wd K mg base (L2N.CX P wd) (k + 1) f fd ps (spD K mg ps.length (runD n g)) := by
  refine F.okD S (fun vs H Q E h => h.1) fun cdv A outer s H vs Q E hr h => ?_
  obtain ⟨hl, w, ds, hρ, hσ, rfl, sts, rp, ok⟩ := h
  obtain ⟨t, pt, rt⟩ := hb cdv A outer s w.H E hr
  refine ⟨t, pt, ?_⟩
  have sts' := sts.enter hn rp (N := N)
  have e0 : w.strip = w := ws_strip hρ hσ
  have s0 : Sts K ⟨mg, Low.no⟩ w.strip := by rw [e0]; exact sts
  have out : ∀ w', Aft K ⟨mg, Low.no⟩ { w with ρ := DL.enter n ds, σ := start N vs } w' → Aft K ⟨mg, Low.no⟩ w w'.strip := fun w' A => by
    have := Aft.out (w := w) s0 (enter_ml n ds) A
    rwa [e0] at this
  refine rt { w with ρ := DL.enter n ds, σ := start N vs } { nx := fun _ H' => Q .non H', rt := Q } sts' ?_
  unfold runD at ok
  show OkF K ⟨mg, Low.no⟩ (WEx E) _ _ (g (DL.enter n ds) w.st)
  cases e : g (DL.enter n ds) w.st with
  | nx ρ st' =>
    rw [e] at ok
    intro w' h1 h2 A
    exact ok w'.strip .non rfl h2 hσ.symm (out w' A) .non
  | rt d ρ st' =>
    rw [e] at ok
    intro w' v h1 h2 A r
    exact ok w'.strip v rfl h2 hσ.symm (out w' A) r
  | bk ρ st' => rw [e] at ok; exact ok.elim
  | ct ρ st' => rw [e] at ok; exact ok.elim
  | exc c ρ st' =>
    rw [e] at ok
    intro w' cls dx h1 h2 A r
    exact ok w'.strip cls dx rfl h2 hσ.symm (out w' A) r
  | bad => rw [e] at ok; exact ok.elim
@[simp] def callD (den : Den) (f : DEx) (ρ : En) (st : Store) : R := (f ρ st).bind fun d ρ st => match d with
  | .tup ds => match den ds st with
    | .ok r _ st' => .ok r ρ st'
    | .exc c _ st' => .exc c ρ st'
    | .bad => .bad
  | _ => .bad
section
variable {X : Cx} {W : WB} {k n : Nat} {f : Addr} {fd : FuncData} {ps : List Str} {den : Den} {x : Str} {p pos : Pos} {e : Expr} {es : List Expr} {fa : DEx}
theorem ExcAt.reb {K : PySem.W.Frag} {f : Str → Option Value} {w : Ws} {c : Ex} {cls : Value} {dx : Option Addr} (b b' : Low) (h : ExcAt K ⟨f, b⟩ w c cls dx) : ExcAt K ⟨f, b'⟩ w c cls dx := by
  obtain ⟨h1, h2⟩ := h
  refine ⟨h1, ?_⟩
  split at h2
  · exact h2
  · obtain ⟨d, vs, e1, e2, r⟩ := h2
    exact ⟨d, vs, e1, e2, r.reb b b'⟩
theorem sp_at {K : PySem.W.Frag} {mg : Str → Option Value} {b : Low} {w : Ws} {vs : List V} {ds : List D} {Q : VK} {σ : L2.St} (s : Sts K ⟨mg, b⟩ w) (hl : vs.length = n) (r : Reps K ⟨mg, b⟩ w.G w.ι vs ds) (hs : w.σ = σ)
    (q : OkR K ⟨mg, b⟩ W w Q (callD den (fun ρ st => .ok (.tup ds) ρ st) w.ρ w.st)) : spD K mg n den vs w.H Q (fun cls dx H => W cls dx σ H) := by
  subst hs
  refine ⟨hl, w.strip, ds, rfl, rfl, rfl, s.strip.noB rfl, r.reb _ _, ?_⟩
  show OkR K ⟨mg, Low.no⟩ _ w.strip Q (den ds w.st)
  unfold callD at q
  simp only [R.bind] at q
  cases e : den ds w.st with
  | ok d ρ st =>
    rw [e] at q
    intro w' v h1 h2 h3 A rv
    have A1 := (Aft.out (w := w) (ρ := []) (σ := []) (s.strip.noB rfl) (fun i ds h => by simp at h) A).reb (b' := b) s.strip rfl
    exact q { w'.strip with ρ := w.ρ, σ := w.σ } v rfl h2 rfl (Aft.back s A1) (rv.reb _ _)
  | exc c ρ st =>
    rw [e] at q
    intro w' cls dx h1 h2 h3 A rv
    have A1 := (Aft.out (w := w) (ρ := []) (σ := []) (s.strip.noB rfl) (fun i ds h => by simp at h) A).reb (b' := b) s.strip rfl
    exact q { w'.strip with ρ := w.ρ, σ := w.σ } cls dx rfl h2 rfl (Aft.back s A1) (rv.reb _ _)
  | bad => rw [e] at q; exact q.elim
theorem de_call (F : FnOk X.prog X.w X.K X.mg X.base (L2N.CX X.prog X.w) k f fd ps (spD X.K X.mg n den)) (hr : Room k X.A) (hg : Gl X x) (hm : X.mg x = some (.ref f)) (hk : PySem.W.keepIn X.K (.ref f) = true) (hb : Binds X.K fd ps []) (tk : L2N.Takes X W)
    (ha : DAn X W (e :: es) fa) (hn : (e :: es).length = n := by rfl) (hdb : (x == ("__debug__" : Str)) = false := by decide) (he : starEach (e :: es) X.env = (false, eval e X.env) :: starEach es X.env := by rfl) (hpl : (backTo pos (starEach es X.env)).any (·.1) = false := by rfl) :
    DE X W (.Call (.Name x p) (e :: es) [] pos) (callD den fa) := by
  obtain ⟨⟨t, pt, rt⟩, hl⟩ := ha
  refine ⟨_, pe_callS F hr hg hm hk hb (fun σ => L2N.passAt tk σ) pt hdb he hpl, fun w Q s q => ?_⟩
  refine rt.bind (P := OkR X.K (MGx X W.b) W w Q) s q (fun d ρ st n => by cases d <;> first | rfl | exact absurd rfl (n _)) (fun _ _ _ z => z) (fun z => z) fun w1 vs ds e1 a1 r1 ee q1 => ?_
  have l : vs.length = n := by
    obtain ⟨ds', e', l⟩ := hl _ _ _ _ _ ee
    cases e'
    rw [r1.len, l]; exact hn
  exact sp_at a1.s l r1 e1 (OkR.aft q1 a1 e1)
end
end DL
namespace DL
open PySem L2
section
variable {K : PySem.W.Frag} {mg : MG} {W : WB}
theorem RefE.bindF {t : TE} {f : DEx} (h : RefE K mg W t f) {w : Ws} {E : Ends} {Q1 : VK} {r : D → En → Store → Fl} (s : Sts K mg w)
    (hP : OkF K mg W w E (match f w.ρ w.st with | .ok d ρ st => r d ρ st | .exc c ρ st => .exc c ρ st | .bad => .bad))
    (k : ∀ (w1 : Ws) (v : V) (d : D), Sts K mg w1 → w1.σ = w.σ → Aft K mg w w1 → Rep K mg w1.G w1.ι v d → OkF K mg W w1 E (r d w1.ρ w1.st) → Q1 v w1.H) : t w.σ w.H Q1 := by
  refine h w Q1 s ?_
  cases e : f w.ρ w.st with
  | ok d ρ st =>
    rw [e] at hP
    intro w' v h1 h2 h3 h4 h5
    subst h1; subst h2
    exact k w' v d h4.s h3 h4 h5 (OkF.aft hP h4)
  | exc c ρ st =>
    rw [e] at hP
    exact fun w' cls dx h1 h2 _ h4 h5 => hP w' cls dx h1 h2 h4 h5
  | bad => rw [e] at hP; exact hP
end
@[simp] def thenF (f : DEx) (r : D → En → Store → Fl) (ρ : En) (st : Store) : Fl := match f ρ st with
  | .ok d ρ st => r d ρ st
  | .exc c ρ st => .exc c ρ st
  | .bad => .bad
@[simp] def nxD (ρ : En) (st : Store) : Fl := .nx ρ st
@[simp] def seqD (g h : DSx) (ρ : En) (st : Store) : Fl := match g ρ st with
  | .nx ρ st => h ρ st
  | r => r
@[simp] def exprD (f : DEx) (ρ0 : En) (st0 : Store) : Fl := thenF f (fun _ ρ st => .nx ρ st) ρ0 st0
@[simp] def retD (f : DEx) (ρ0 : En) (st0 : Store) : Fl := thenF f (fun d ρ st => .rt d ρ st) ρ0 st0
@[simp] def ifD (c : DEx) (g h : DSx) (ρ0 : En) (st0 : Store) : Fl := thenF c (fun d ρ st => match d with
  | .bl true => g ρ st
  | .bl false => h ρ st
  | _ => .bad) ρ0 st0
section
variable {K : PySem.W.Frag} {mg : MG} {W : WB}
theorem refS_nil : RefS K mg W tNext nxD := fun w E s q => q w rfl rfl (Aft.refl s)
theorem refS_cons {t u : TS} {g h : DSx} (ht : RefS K mg W t g) (hu : RefS K mg W u h) : RefS K mg W (tSeq t u) (seqD g h) := fun w E s q => by
  refine ht w _ s ?_
  unfold seqD at q
  cases e : g w.ρ w.st with
  | nx ρ st =>
    rw [e] at q
    intro w' h1 h2 A
    subst h1; subst h2
    exact hu w' E A.s (OkF.aft q A)
  | rt d ρ st => rw [e] at q; exact q
  | bk ρ st => rw [e] at q; exact q
  | ct ρ st => rw [e] at q; exact q
  | exc c ρ st => rw [e] at q; exact q
  | bad => rw [e] at q; exact q
theorem refS_expr {t : TE} {f : DEx} (h : RefE K mg W t f) : RefS K mg W (tDrop t) (exprD f) := fun w E s q =>
  h.bindF s q fun w1 v d s1 e1 a1 r1 q1 => by
    have := q1 w1 rfl rfl (Aft.refl s1)
    rw [e1] at this; exact this
theorem refS_ret {t : TE} {f : DEx} (h : RefE K mg W t f) : RefS K mg W (tRet t) (retD f) := fun w E s q =>
  h.bindF s q fun w1 v d s1 e1 a1 r1 q1 => q1 w1 v rfl rfl (Aft.refl s1) r1
theorem RefT.bindF {t : TT} {f : DEx} (h : RefT K mg W t f) {w : Ws} {E : Ends} {Q1 : Bool → Hp → Prop} {r : D → En → Store → Fl} (s : Sts K mg w) (hd : ∀ d ρ st, (∀ b, d ≠ .bl b) → r d ρ st = .bad)
    (hP : OkF K mg W w E (match f w.ρ w.st with | .ok d ρ st => r d ρ st | .exc c ρ st => .exc c ρ st | .bad => .bad))
    (k : ∀ (w1 : Ws) (b : Bool), Sts K mg w1 → w1.σ = w.σ → Aft K mg w w1 → OkF K mg W w1 E (r (.bl b) w1.ρ w1.st) → Q1 b w1.H) : t w.σ w.H Q1 := by
  refine h w Q1 s ?_
  cases e : f w.ρ w.st with
  | ok d ρ st =>
    rw [e] at hP
    cases d with
    | bl b =>
      intro w' h1 h2 h3 h4
      subst h1; subst h2
      exact k w' b h4.s h3 h4 (OkF.aft hP h4)
    | _ =>
      simp only at hP
      rw [hd _ ρ st (by intro b q; cases q)] at hP
      exact hP.elim
  | exc c ρ st =>
    rw [e] at hP
    exact fun w' cls dx h1 h2 _ h4 h5 => hP w' cls dx h1 h2 h4 h5
  | bad => rw [e] at hP; exact hP
theorem refS_if {c : TT} {t u : TS} {f : DEx} {g h : DSx} (hc : RefT K mg W c f) (ht : RefS K mg W t g) (hu : RefS K mg W u h) : RefS K mg W (tIfS c t u) (ifD f g h) := fun w E s q => by
  refine hc.bindF s (fun d ρ st n => by cases d <;> first | rfl | exact absurd rfl (n _)) q fun w1 b s1 e1 a1 q1 => ?_
  cases b with
  | true =>
    refine iteT ?_
    rw [← e1]; exact ht w1 E s1 q1
  | false =>
    refine iteF ?_
    rw [← e1]; exact hu w1 E s1 q1
end
section
variable {X : Cx} {W : WB} {st : Stmt} {rest : List Stmt} {a b : List Stmt} {e c : Expr} {f : DEx} {g h : DSx} {pos : Pos}
theorem dss_nil : DSs X W [] nxD := ⟨_, pss_nil, refS_nil⟩
theorem dss_cons (h1 : DS X W st g) (h2 : DSs X W rest h) : DSs X W (st :: rest) (seqD g h) := let ⟨_, p, r⟩ := h1; let ⟨_, p', r'⟩ := h2; ⟨_, pss_cons p p', refS_cons r r'⟩
theorem dss_one (h1 : DS X W st g) : DSs X W [st] g := let ⟨_, p, r⟩ := h1; ⟨_, pss_one p, r⟩
theorem ds_expr (he : DE X W e f) (hs : swapsWith e none pos.line X.env = pure false := by rfl) : DS X W (.Expr e pos) (exprD f) := let ⟨_, p, r⟩ := he; ⟨_, ps_expr p hs, refS_expr r⟩
theorem ds_ret (he : DE X W e f) : DS X W (.Return (some e) pos) (retD f) := let ⟨_, p, r⟩ := he; ⟨_, ps_ret p, refS_ret r⟩
theorem ds_if (hc : DT X W c f) (ha : DSs X W a g) (hb : DSs X W b h) : DS X W (.If c a b pos) (ifD f g h) := let ⟨_, p, r⟩ := hc; let ⟨_, p1, r1⟩ := ha; let ⟨_, p2, r2⟩ := hb; ⟨_, ps_if p p1 p2, refS_if r r1 r2⟩
end
abbrev DGx := D → En → Option En
def RefG (K : PySem.W.Frag) (mg : MG) (is : List Nat) (t : TG) (g : DGx) : Prop :=
  ∀ (w : Ws) (v : V) (d : D) (ρ' : En) (Q : L2.St → Hp → Prop), Sts K mg w → Rep K mg w.G w.ι v d → g d w.ρ = some ρ' →
    (∀ σ', (∀ us : List Nat, (∀ i ∈ is, i ∈ us) → wipe σ' us = wipe w.σ us) → Aft K mg w { w with ρ := ρ', σ := σ' } → Q σ' w.H) → t v w.σ w.H Q
def RefGs (K : PySem.W.Frag) (mg : MG) (is : List Nat) (t : TGs) (g : List D → En → Option En) : Prop :=
  ∀ (w : Ws) (vs : List V) (ds : List D) (ρ' : En) (Q : L2.St → Hp → Prop), Sts K mg w → Reps K mg w.G w.ι vs ds → g ds w.ρ = some ρ' →
    (∀ σ', (∀ us : List Nat, (∀ i ∈ is, i ∈ us) → wipe σ' us = wipe w.σ us) → Aft K mg w { w with ρ := ρ', σ := σ' } → Q σ' w.H) → t vs w.σ w.H Q
def DG (X : Cx) (e : Expr) (is : List Nat) (g : DGx) : Prop := ∃ t, PG X e t ∧ ∀ b, RefG X.K (MGx X b) is t g
def DGs (X : Cx) (es : List Expr) (is : List Nat) (g : List D → En → Option En) : Prop := ∃ t, PGs X es t ∧ ∀ b, RefGs X.K (MGx X b) is t g
theorem wipe_set {σ : L2.St} {i : Nat} {x : Option V} : ∀ {us : List Nat}, i ∈ us → wipe (σ.set i x) us = wipe σ us
  | [], h => by simp at h
  | u :: us, h => by
    show (wipe (σ.set i x) us).set u none = (wipe σ us).set u none
    by_cases e : i ∈ us
    · rw [wipe_set e]
    · have eu : i = u := by
        rcases List.mem_cons.mp h with h | h
        · exact h
        · exact absurd h e
      subst eu
      have : ∀ us : List Nat, i ∉ us → wipe (σ.set i x) us = (wipe σ us).set i x := by
        intro us
        induction us with
        | nil => intro _; rfl
        | cons v us ih =>
          intro hv
          have h1 : i ≠ v := fun q => hv (by simp [q])
          have h2 : i ∉ us := fun q => hv (by simp [q])
          show (wipe (σ.set i x) us).set v none = ((wipe σ us).set v none).set i x
          rw [ih h2, List.set_comm _ _ h1]
      rw [this us e, List.set_set]
@[simp] def gN (i : Nat) : DGx := fun d ρ => some (ρ.set i (.val d))
@[simp] def gsNil : List D → En → Option En := fun ds ρ => match ds with
  | [] => some ρ
  | _ => none
@[simp] def gsCons (g : DGx) (h : List D → En → Option En) : List D → En → Option En := fun ds ρ => match ds with
  | d :: r => match g d ρ with
    | some ρ => h r ρ
    | none => none
  | [] => none
@[simp] def gT (h : List D → En → Option En) : DGx := fun d ρ => match d with
  | .tup ds => h ds ρ
  | _ => none
section
variable {K : PySem.W.Frag} {mg : MG} {W : WB}
theorem refG_name (i : Nat) : RefG K mg [i] (gName i) (gN i) := fun w v d ρ' Q s r e k => by
  cases e
  exact k _ (fun us h => wipe_set (h i (by simp))) (Aft.setVal s r)
theorem refGs_nil : RefGs K mg [] gNil gsNil := fun w vs ds ρ' Q s r e k => by
  cases r with
  | nil => cases e; exact ⟨rfl, k _ (fun _ _ => rfl) (Aft.refl s)⟩
  | cons r rs => cases e
theorem refGs_cons {is js : List Nat} {t : TG} {u : TGs} {g : DGx} {h : List D → En → Option En} (ht : RefG K mg is t g) (hu : RefGs K mg js u h) : RefGs K mg (is ++ js) (gCons t u) (gsCons g h) := fun w vs ds ρ' Q s r e k => by
  cases r with
  | nil => cases e
  | cons r rs =>
    rename_i v d vs ds
    unfold gsCons at e
    simp only at e
    split at e
    · rename_i ρ1 e1
      refine ⟨v, vs, rfl, ht w v d ρ1 _ s r e1 fun σ1 w1 A1 => ?_⟩
      exact hu { w with ρ := ρ1, σ := σ1 } vs ds ρ' Q A1.s (rs.mono A1.g A1.i) e fun σ2 w2 A2 => k σ2 (fun us h => (w2 us fun i hi => h i (by simp [hi])).trans (w1 us fun i hi => h i (by simp [hi]))) (A1.trans A2)
    · cases e
theorem refG_tup {is : List Nat} {n : Nat} {u : TGs} {h : List D → En → Option En} (hn : ∀ ds ρ ρ', h ds ρ = some ρ' → ds.length = n) (hu : RefGs K mg is u h) : RefG K mg is (gTup K n u) (gT h) := fun w v d ρ' Q s r e k => by
  unfold gT at e
  split at e
  · cases r with
    | tup hs hl rs =>
      exact ⟨_, _, rfl, SqT.mono s.sub hs, by rw [rs.len]; exact hn _ _ _ e, hu w _ _ ρ' Q s rs e k⟩
  · cases e
end
section
variable {X : Cx} {W : WB} {e tg : Expr} {es : List Expr} {f : DEx} {g : DGx} {h : List D → En → Option En} {pos : Pos}
theorem dg_name {i : Nat} {x : Str} (hN : X.N.Nodup) (hi : X.N[i]? = some x) (hx : Loc X.env.scope x) (hf : X.fn x = true ∨ X.env.scope.names.lookup x = some .local := by first | exact .inl rfl | exact .inr rfl | assumption) : DG X (.Name x pos) [i] (gN i) := ⟨_, pg_name hN hi hx hf, fun _ => refG_name i⟩
@[simp] def setD (f : DEx) (g : DGx) (ρ0 : En) (st0 : Store) : Fl := thenF f (fun d ρ st => match g d ρ with
  | some ρ => .nx ρ st
  | none => .bad) ρ0 st0
theorem refS_set {K : PySem.W.Frag} {mg : MG} {t : TE} {u : TG} {is : List Nat} (ht : RefE K mg W t f) (hu : RefG K mg is u g) : RefS K mg W (tAsg t u) (setD f g) := fun w E s q =>
  ht.bindF s q fun w1 v d s1 e1 a1 r1 q1 => by
    show u v w.σ w1.H E.nx
    cases z : g d w1.ρ with
    | none => simp only [z] at q1; exact q1.elim
    | some ρ' =>
      simp only [z] at q1
      rw [← e1]
      exact hu w1 v d ρ' _ s1 r1 z fun σ' _ A => q1 { w1 with ρ := ρ', σ := σ' } rfl rfl A
theorem ds_asg {is : List Nat} (he : DE X W e f) (hg : DG X tg is g) (hs : swapsWithSole [tg] e pos.line X.env = pure false := by rfl) (hw : swappedStores [tg] e X.env = pure none := by rfl) (h1 : (assignEach [tg] X.env).map (·.2) = [assign tg X.env] := by rfl) : DS X W (.Assign [tg] e pos) (setD f g) :=
  let ⟨_, p, r⟩ := he; let ⟨_, p', r'⟩ := hg; ⟨_, ps_asg p p' hs hw h1, refS_set r (r' _)⟩
theorem ds_set {i : Nat} {x : Str} {pos' : Pos} (hN : X.N.Nodup) (hi : X.N[i]? = some x) (hx : Loc X.env.scope x) (he : DE X W e f) (hs : swapsWith e (some (.Name x pos')) pos.line X.env = pure false := by rfl) (hf : X.fn x = true ∨ X.env.scope.names.lookup x = some .local := by first | exact .inl rfl | exact .inr rfl | assumption) :
    DS X W (.Assign [.Name x pos'] e pos) (setD f (gN i)) := let ⟨_, p, r⟩ := he; ⟨_, ps_set hN hi hx p hs hf, refS_set r (refG_name i)⟩
end
theorem gsNil_len (ds : List D) (ρ ρ' : En) (h : gsNil ds ρ = some ρ') : ds.length = 0 := by
  cases ds with
  | nil => rfl
  | cons d ds => cases h
theorem gsCons_len {g : DGx} {h : List D → En → Option En} {n : Nat} (hn : ∀ ds ρ ρ', h ds ρ = some ρ' → ds.length = n) (ds : List D) (ρ ρ' : En) (e : gsCons g h ds ρ = some ρ') : ds.length = n + 1 := by
  unfold gsCons at e
  split at e
  · split at e
    · simp [hn _ _ _ e]
    · cases e
  · cases e
def DGn (X : Cx) (es : List Expr) (is : List Nat) (h : List D → En → Option En) : Prop := DGs X es is h ∧ ∀ ds ρ ρ', h ds ρ = some ρ' → ds.length = es.length
section
variable {X : Cx} {W : WB} {e tg iter c : Expr} {es : List Expr} {f : DEx} {g : DGx} {h : List D → En → Option En} {pos : Pos}
theorem dgs_nil : DGn X [] [] gsNil := ⟨⟨_, pgs_nil, fun _ => refGs_nil⟩, gsNil_len⟩
theorem dgs_cons {is js : List Nat} (h1 : DG X e is g) (h2 : DGn X es js h) (hs : (assignEach (e :: es) X.env).map (·.2) = assign e X.env :: (assignEach es X.env).map (·.2) := by rfl) : DGn X (e :: es) (is ++ js) (gsCons g h) :=
  let ⟨_, p, r⟩ := h1; let ⟨⟨_, p', r'⟩, l⟩ := h2; ⟨⟨_, pgs_cons p p' hs, fun b => refGs_cons (r b) (r' b)⟩, gsCons_len l⟩
theorem dg_tup {is : List Nat} {k : Nat} (hc : X.calm = true) (h1 : DGn X es is h) (hn : (assignEach es X.env).length = es.length := by rfl) (hst : (assignEach es X.env).findIdx? (·.1) = none := by rfl) : DG X (.Tuple es k pos) is (gT h) :=
  let ⟨⟨_, p, r⟩, l⟩ := h1; ⟨_, pg_tup hc p hn hst, fun b => refG_tup l (r b)⟩
end
def forD (g : DGx) (b : DSx) : List D → DSx
  | [] => fun ρ st => .nx ρ st
  | d :: ds => fun ρ st => match g d ρ with
    | none => .bad
    | some ρ => match b ρ st with
      | .nx ρ st => forD g b ds ρ st
      | .ct ρ st => forD g b ds ρ st
      | .bk ρ st => .nx ρ st
      | r => r
abbrev Gd := Option (Nat × List D)
def okG : Gd → Store → Prop
  | none, _ => True
  | some (l, ds), st => st[l]? = some (.lst ds)
@[simp] theorem okG_none (st : Store) : okG none st = True := rfl
@[simp] theorem okG_some (l : Nat) (ds : List D) (st : Store) : okG (some (l, ds)) st = (st[l]? = some (.lst ds)) := rfl
@[simp] def D.iter : D → Option (List D × Gd)
  | .lst ds => some (ds, none)
  | .tup [.lst ds, .ref l, .lst e] => some (ds, some (l, e))
  | _ => none
open Classical in
noncomputable def chkS (gd : Gd) (b : DSx) (ρ : En) (st : Store) : Fl := match b ρ st with
  | .nx ρ st => if okG gd st then .nx ρ st else .bad
  | .ct ρ st => if okG gd st then .ct ρ st else .bad
  | r => r
@[simp] theorem chkS_none (b : DSx) : chkS none b = b := by
  funext ρ st
  unfold chkS
  cases b ρ st <;> simp
@[simp] noncomputable def forE (f : DEx) (g : DGx) (b : DSx) (ρ0 : En) (st0 : Store) : Fl := thenF f (fun d ρ st => match d.iter with
  | some (ds, gd) => forD g (chkS gd b) ds ρ st
  | none => .bad) ρ0 st0
structure Frz (K : PySem.W.Frag) (mg : MG) (w w' : Ws) : Prop where
  s : Sts K mg w'
  g : Same w.G w'.G
  i : LeI w.ι w'.ι
theorem Aft.fz {K : PySem.W.Frag} {mg : MG} {w w' : Ws} (A : Aft K mg w w') : Frz K mg w w' := ⟨A.s, A.g, A.i⟩
theorem Frz.trans {K : PySem.W.Frag} {mg : MG} {w w' w'' : Ws} (A : Frz K mg w w') (B : Frz K mg w' w'') : Frz K mg w w'' := ⟨B.s, A.g.trans B.g, A.i.trans B.i⟩
def IterOk (K : PySem.W.Frag) (mg : MG) (w : Ws) (J : It) (ds : List D) (gd : Gd) : Prop := ∃ (G0 : Hp → Prop) (Y : Nat → Hp → V → Hp → Prop), Walk J ds.length G0 Y ∧ (∀ w2, Frz K mg w w2 → okG gd w2.st → G0 w2.H) ∧
  ∀ (i : Nat) (w2 : Ws) (x : V) (H' : Hp) (d : D), ds[i]? = some d → Frz K mg w w2 → okG gd w2.st → Y i w2.H x H' → ∃ G', Aft K mg w2 { w2 with G := G', H := H' } ∧ Rep K mg G' w2.ι x d
def OkI (K : PySem.W.Frag) (mg : MG) (W : WB) (w : Ws) (Q : It → Hp → Prop) : R → Prop
  | .ok d ρ st => match d.iter with
    | some (ds, gd) => ∀ (w' : Ws) (J : It), w'.ρ = ρ → w'.st = st → w'.σ = w.σ → Aft K mg w w' → IterOk K mg w' J ds gd → okG gd st → Q J w'.H
    | none => False
  | .exc c ρ st => ∀ (w' : Ws) (cls : Value) (dx : Option Addr), w'.ρ = ρ → w'.st = st → w'.σ = w.σ → Aft K mg w w' → ExcAt K mg w' c cls dx → W cls dx w'.σ w'.H
  | .bad => False
def RefI (K : PySem.W.Frag) (mg : MG) (W : WB) (t : TI) (f : DEx) : Prop :=
  ∀ (w : Ws) (Q : It → Hp → Prop), Sts K mg w → OkI K mg W w Q (f w.ρ w.st) → t w.σ w.H Q
def DI (X : Cx) (W : WB) (tg iter : Expr) (f : DEx) : Prop := ∃ t, PI X tg iter t ∧ RefI X.K (MGx X W.b) W t f
section
variable {K : PySem.W.Frag} {mg : MG} {W : WB}
theorem RefI.bindF {t : TI} {f : DEx} (h : RefI K mg W t f) {w : Ws} {E : Ends} {Q1 : It → Hp → Prop} {r : D → En → Store → Fl} (s : Sts K mg w) (hd : ∀ d ρ st, d.iter = none → r d ρ st = .bad)
    (hP : OkF K mg W w E (match f w.ρ w.st with | .ok d ρ st => r d ρ st | .exc c ρ st => .exc c ρ st | .bad => .bad))
    (k : ∀ (w1 : Ws) (J : It) (d : D) (ds : List D) (gd : Gd), Sts K mg w1 → w1.σ = w.σ → Aft K mg w w1 → d.iter = some (ds, gd) → IterOk K mg w1 J ds gd → okG gd w1.st → OkF K mg W w1 E (r d w1.ρ w1.st) → Q1 J w1.H) : t w.σ w.H Q1 := by
  refine h w Q1 s ?_
  cases e : f w.ρ w.st with
  | ok d ρ st =>
    rw [e] at hP
    cases ei : d.iter with
    | none =>
      simp only at hP
      rw [hd _ ρ st ei] at hP
      exact hP.elim
    | some dg =>
      obtain ⟨ds, gd⟩ := dg
      simp only [OkI, ei]
      intro w' J h1 h2 h3 h4 h5 h6
      subst h1; subst h2
      exact k w' J d ds gd h4.s h3 h4 ei h5 h6 (OkF.aft hP h4)
  | exc c ρ st =>
    rw [e] at hP
    exact fun w' cls dx h1 h2 _ h4 h5 => hP w' cls dx h1 h2 h4 h5
  | bad => rw [e] at hP; exact hP
theorem refS_for {wi : TI} {u : TG} {tb : TS} {f : DEx} {g : DGx} {b : DSx} {is : List Nat} (hi : RefI K mg W wi f) (hg : RefG K mg is u g) (hb : RefS K mg W tb b) : RefS K mg W (tFor wi u tb) (forE f g b) := fun w E s q => by
  refine hi.bindF s (fun d ρ st n => by simp only [n]) q fun w1 J d0 ds gd s1 e1 a1 ei it og q1 => ?_
  simp only [ei] at q1
  obtain ⟨G0, Y, wk, hG, hY⟩ := it
  refine for_it wk (fun i σ H => ∃ w2, Aft K mg w1 w2 ∧ σ = w2.σ ∧ H = w2.H ∧ okG gd w2.st ∧ OkF K mg W w2 E (forD g (chkS gd b) (ds.drop i) w2.ρ w2.st)) ⟨w1, Aft.refl s1, e1.symm, rfl, og, q1⟩ ?_ ?_ ?_
  · rintro i σ H _ ⟨w2, A, rfl, rfl, og2, _⟩
    exact hG w2 A.fz og2
  · rintro i x σ H H' hl ⟨w2, A, rfl, rfl, og2, q2⟩ y
    have hd : ds[i]? = some ds[i] := List.getElem?_eq_getElem hl
    obtain ⟨G', A3, r3⟩ := hY i w2 x H' _ hd A.fz og2 y
    have ed : ds.drop i = ds[i] :: ds.drop (i + 1) := List.drop_eq_getElem_cons hl
    rw [ed] at q2
    unfold forD at q2
    cases z : g ds[i] w2.ρ with
    | none => simp only [z] at q2; exact q2.elim
    | some ρ' =>
      simp only [z] at q2
      refine hg { w2 with G := G', H := H' } x _ ρ' _ A3.s r3 z fun σ' _ A4 => ?_
      have A5 := A3.trans A4
      refine hb { w2 with ρ := ρ', σ := σ', G := G', H := H' } _ A5.s ?_
      show OkF K mg W _ _ (b ρ' w2.st)
      cases e : b ρ' w2.st with
      | nx ρ2 st2 =>
        by_cases og3 : okG gd st2
        · simp only [chkS, e, if_pos og3] at q2
          intro w6 h1 h2 A6
          subst h1; subst h2
          exact ⟨w6, A.trans (A5.trans A6), rfl, rfl, og3, OkF.aft q2 (A5.trans A6)⟩
        · simp only [chkS, e, if_neg og3] at q2; exact q2.elim
      | ct ρ2 st2 =>
        by_cases og3 : okG gd st2
        · simp only [chkS, e, if_pos og3] at q2
          intro w6 h1 h2 A6
          subst h1; subst h2
          exact ⟨w6, A.trans (A5.trans A6), rfl, rfl, og3, OkF.aft q2 (A5.trans A6)⟩
        · simp only [chkS, e, if_neg og3] at q2; exact q2.elim
      | bk ρ2 st2 =>
        simp only [chkS, e] at q2
        intro w6 h1 h2 A6
        exact q2 w6 h1 h2 (A5.trans A6)
      | rt d ρ2 st2 =>
        simp only [chkS, e] at q2
        intro w6 v h1 h2 A6 r6
        exact q2 w6 v h1 h2 (A5.trans A6) r6
      | exc c ρ2 st2 =>
        simp only [chkS, e] at q2
        intro w6 cls dx h1 h2 A6 r6
        exact q2 w6 cls dx h1 h2 (A5.trans A6) r6
      | bad => simp only [chkS, e] at q2; exact q2.elim
  · rintro σ H ⟨w2, A, rfl, rfl, _, q2⟩
    rw [List.drop_length] at q2
    exact q2 w2 rfl rfl (Aft.refl A.s)
end
section
variable {X : Cx} {W : WB} {tg iter c : Expr} {body : List Stmt} {f : DEx} {g : DGx} {b : DSx} {pos : Pos}
theorem ds_for (hp : PassesOwn (model X.prog X.w) X.A X.env X.xe) (hc : X.calm = true) {is : List Nat} (hi : DI X W tg iter f) (hg : DG X tg is g) (hb : DSs X W body b) (hs : ∀ x, foldedSetIterable iter X.env x = pure x := by intro _; rfl) :
    DS X W (.For tg iter body [] pos) (forE f g b) := let ⟨_, p, r⟩ := hi; let ⟨_, p1, r1⟩ := hg; let ⟨_, p2, r2⟩ := hb; ⟨_, ps_for hp hc p p1 p2 hs, refS_for r (r1 _) r2⟩
end
def runW (c : DEx) (b : DSx) : Nat → DSx
  | 0 => fun _ _ => .bad
  | n + 1 => fun ρ st => match c ρ st with
    | .ok (.bl true) ρ st => (match b ρ st with
      | .nx ρ st => runW c b n ρ st
      | .ct ρ st => runW c b n ρ st
      | .bk ρ st => .nx ρ st
      | r => r)
    | .ok (.bl false) ρ st => .nx ρ st
    | .ok _ _ _ => .bad
    | .exc x ρ st => .exc x ρ st
    | .bad => .bad
open Classical in
noncomputable def whileD (c : DEx) (b : DSx) (ρ : En) (st : Store) : Fl := if h : ∃ n, runW c b n ρ st ≠ .bad then runW c b (choose h) ρ st else .bad
section
variable {K : PySem.W.Frag} {mg : MG} {W : WB}
theorem refS_while {tc : TT} {tb : TS} {c : DEx} {b : DSx} (hc : RefT K mg W tc c) (hb : RefS K mg W tb b) : RefS K mg W (tWhile tc tb) (whileD c b) := fun w E s q => by
  have : ∃ n, OkF K mg W w E (runW c b n w.ρ w.st) := by
    unfold whileD at q
    split at q
    · exact ⟨_, q⟩
    · exact q.elim
  obtain ⟨n, q⟩ := this
  refine ⟨fun m σ H => ∃ w2, Aft K mg w w2 ∧ σ = w2.σ ∧ H = w2.H ∧ OkF K mg W w2 E (runW c b m w2.ρ w2.st), ⟨n, w, Aft.refl s, rfl, rfl, q⟩, ?_⟩
  rintro m σ H ⟨w2, A, rfl, rfl, q2⟩
  cases m with
  | zero => exact q2.elim
  | succ m =>
    unfold runW at q2
    refine hc w2 _ A.s ?_
    cases e : c w2.ρ w2.st with
    | ok d ρ st =>
      rw [e] at q2
      cases d with
      | bl t =>
        intro w3 h1 h2 h3 A3
        subst h1; subst h2
        cases t with
        | false =>
          refine iteF ?_
          have := q2 w3 rfl rfl A3
          rw [h3] at this; exact this
        | true =>
          refine iteT ⟨fun σ' H' => ∃ w4, Aft K mg w w4 ∧ σ' = w4.σ ∧ H' = w4.H ∧ OkF K mg W w4 E (runW c b m w4.ρ w4.st), fun σ' H' h => ⟨m, Nat.lt_succ_self m, h⟩, ?_⟩
          rw [← h3]
          refine hb w3 _ A3.s ?_
          simp only at q2
          cases e4 : b w3.ρ w3.st with
          | nx ρ4 st4 =>
            rw [e4] at q2
            intro w4 h1 h2 A4
            subst h1; subst h2
            exact ⟨w4, A.trans (A3.trans A4), rfl, rfl, OkF.aft q2 (A3.trans A4)⟩
          | ct ρ4 st4 =>
            rw [e4] at q2
            intro w4 h1 h2 A4
            subst h1; subst h2
            exact ⟨w4, A.trans (A3.trans A4), rfl, rfl, OkF.aft q2 (A3.trans A4)⟩
          | bk ρ4 st4 =>
            rw [e4] at q2
            intro w4 h1 h2 A4
            exact q2 w4 h1 h2 (A3.trans A4)
          | rt d ρ4 st4 =>
            rw [e4] at q2
            intro w4 v h1 h2 A4 r4
            exact q2 w4 v h1 h2 (A3.trans A4) r4
          | exc x ρ4 st4 =>
            rw [e4] at q2
            intro w4 cls dx h1 h2 A4 r4
            exact q2 w4 cls dx h1 h2 (A3.trans A4) r4
          | bad => rw [e4] at q2; exact q2.elim
      | _ => exact q2.elim
    | exc x ρ st =>
      rw [e] at q2
      exact fun w' cls dx h1 h2 _ h4 h5 => q2 w' cls dx h1 h2 h4 h5
    | bad => rw [e] at q2; exact q2
end
theorem runW_more {c : DEx} {b : DSx} : ∀ {n : Nat} {ρ : En} {st : Store}, runW c b n ρ st ≠ .bad → ∀ m, n ≤ m → runW c b m ρ st = runW c b n ρ st
  | 0, _, _, h, _, _ => absurd rfl h
  | n + 1, ρ, st, h, 0, hm => absurd hm (by omega)
  | n + 1, ρ, st, h, m + 1, hm => by
    unfold runW at h ⊢
    cases e : c ρ st with
    | ok d ρ' st' =>
      rw [e] at h
      cases d with
      | bl t =>
        cases t with
        | true =>
          simp only at h ⊢
          cases e4 : b ρ' st' with
          | nx ρ4 st4 => rw [e4] at h; exact runW_more h m (by omega)
          | ct ρ4 st4 => rw [e4] at h; exact runW_more h m (by omega)
          | bk ρ4 st4 => rfl
          | rt d ρ4 st4 => rfl
          | exc x ρ4 st4 => rfl
          | bad => rfl
        | false => rfl
      | _ => rfl
    | exc x ρ' st' => rfl
    | bad => rfl
theorem whileD_of {c : DEx} {b : DSx} {n : Nat} {ρ : En} {st : Store} {r : Fl} (h : runW c b n ρ st = r) (hr : r ≠ .bad) : whileD c b ρ st = r := by
  have hx : ∃ n, runW c b n ρ st ≠ .bad := ⟨n, by rw [h]; exact hr⟩
  unfold whileD
  rw [dif_pos hx]
  have h1 := Classical.choose_spec hx
  by_cases q : Classical.choose hx ≤ n
  · rw [← runW_more h1 n q, h]
  · rw [runW_more (by rw [h]; exact hr) _ (by omega : n ≤ Classical.choose hx), h]
section
variable {X : Cx} {W : WB} {c : Expr} {body : List Stmt} {f : DEx} {b : DSx} {pos : Pos}
theorem ds_while (hp : PassesOwn (model X.prog X.w) X.A X.env X.xe) (hc : DT X W c f) (hb : DSs X W body b) : DS X W (.While c body [] pos) (whileD f b) :=
  let ⟨_, p, r⟩ := hc; let ⟨_, p2, r2⟩ := hb; ⟨_, ps_while hp p p2, refS_while r r2⟩
end
end DL
namespace DL
open PySem L2
def tOf (K : PySem.W.Frag) (mg : MG) (W : WB) (f : DEx) : TE := fun σ H Q => ∃ w, w.σ = σ ∧ w.H = H ∧ Sts K mg w ∧ OkR K mg W w Q (f w.ρ w.st)
def ttOf (K : PySem.W.Frag) (mg : MG) (W : WB) (f : DEx) : TT := fun σ H Q => ∃ w, w.σ = σ ∧ w.H = H ∧ Sts K mg w ∧ OkT K mg W w Q (f w.ρ w.st)
def gOf (K : PySem.W.Frag) (mg : MG) (is : List Nat) (g : DGx) : TG := fun v σ H Q => ∃ w d ρ', w.σ = σ ∧ w.H = H ∧ Sts K mg w ∧ Rep K mg w.G w.ι v d ∧ g d w.ρ = some ρ' ∧
  ∀ σ', (∀ us : List Nat, (∀ i ∈ is, i ∈ us) → wipe σ' us = wipe w.σ us) → Aft K mg w { w with ρ := ρ', σ := σ' } → Q σ' w.H
section
variable {X : Cx} {W : WB} {e : Expr} {f : DEx} {g : DGx} {is : List Nat}
theorem DE.pe (h : DE X W e f) : PE X e (tOf X.K (MGx X W.b) W f) := by
  obtain ⟨t, p, r⟩ := h
  refine ⟨fun pins s σ H Q I q => ?_⟩
  obtain ⟨w, rfl, rfl, sw, ok⟩ := q
  exact p.run pins s _ _ Q I (r w Q sw ok)
theorem DT.pt (h : DT X W e f) : PT X e (ttOf X.K (MGx X W.b) W f) := by
  obtain ⟨t, p, r⟩ := h
  refine ⟨fun pins s σ H Q I q => ?_⟩
  obtain ⟨w, rfl, rfl, sw, ok⟩ := q
  exact p.run pins s _ _ Q I (r w Q sw ok)
theorem DG.pg (b : Low) (h : DG X e is g) : PG X e (gOf X.K (MGx X b) is g) := by
  obtain ⟨t, p, r⟩ := h
  refine ⟨fun pins s σ H v u Q I rv q => ?_⟩
  obtain ⟨w, d, ρ', rfl, rfl, sw, rp, eg, ok⟩ := q
  exact p.run pins s _ _ v u Q I rv (r b w v d ρ' Q sw rp eg ok)
end
def WF (b : Low) : WB := ⟨fun _ _ _ _ => False, b⟩
def DTs (X : Cx) (b : Low) (ifs : List Expr) (f : DEx) : Prop := ∃ t, PTs X ifs t ∧ RefT X.K (MGx X b) (WF b) t f
theorem DTs.pts {X : Cx} {b : Low} {ifs : List Expr} {f : DEx} (h : DTs X b ifs f) : PTs X ifs (ttOf X.K (MGx X b) (WF b) f) := by
  obtain ⟨t, p, r⟩ := h
  refine ⟨fun pins s σ H Q I q => ?_⟩
  obtain ⟨w, rfl, rfl, sw, ok⟩ := q
  exact p.run pins s _ _ Q I (r w Q sw ok)
def yesD (ρ : En) (st : Store) : R := .ok (.bl true) ρ st
@[simp] theorem yesD_s (ρ : En) (st : Store) : yesD ρ st = .ok (.bl true) ρ st := rfl
theorem dts_nil {X : Cx} {b : Low} : DTs X b [] yesD := ⟨_, pts_nil, fun w Q s q => q w rfl rfl rfl (Aft.refl s)⟩
theorem dts_one {X : Cx} {b : Low} {c : Expr} {f : DEx} (h : DT X (WF b) c f) : DTs X b [c] f := let ⟨_, p, r⟩ := h; ⟨_, pts_one p, r⟩
@[simp] def wipeR (ρ : En) : List Nat → En
  | [] => ρ
  | v :: vs => (wipeR ρ vs).set v .no
def lcGo (g : DGx) (c f : DEx) (vs : List Nat) : List D → List D → En → Store → R
  | [], acc => fun ρ st => .ok (.lst acc) ρ st
  | d :: ds, acc => fun ρ st => match g d ρ with
    | none => .bad
    | some ρ => match c ρ st with
      | .ok (.bl true) ρ st => (match f ρ st with
        | .ok y ρ st => lcGo g c f vs ds (acc ++ [y]) (wipeR ρ vs) st
        | _ => .bad)
      | .ok (.bl false) ρ st => lcGo g c f vs ds acc (wipeR ρ vs) st
      | _ => .bad
open Classical in
noncomputable def chkE (gd : Gd) (f : DEx) (ρ : En) (st : Store) : R := match f ρ st with
  | .ok d ρ st => if okG gd st then .ok d ρ st else .bad
  | r => r
@[simp] theorem chkE_none (f : DEx) : chkE none f = f := by
  funext ρ st
  unfold chkE
  cases f ρ st <;> simp
@[simp] noncomputable def lcD (fi : DEx) (g : DGx) (c f : DEx) (vs : List Nat) (ρ : En) (st : Store) : R := (fi ρ st).bind fun d ρ st => match d.iter with
  | some (ds, gd) => if ds.length ≤ sizeLine then lcGo g (chkE gd c) (chkE gd f) vs ds [] (wipeR ρ vs) st else .bad
  | none => .bad
section
variable {K : PySem.W.Frag} {mg : MG} {W : WB}
theorem Aft.wiped {w : Ws} (s : Sts K mg w) : ∀ vs : List Nat, Aft K mg w { w with ρ := wipeR w.ρ vs, σ := wipe w.σ vs }
  | [] => Aft.refl s
  | v :: vs => (Aft.wiped s vs).trans (Aft.setNo (i := v) (x := none) (Aft.wiped s vs).s)
theorem wipeR_get (ρ : En) {i : Nat} {s : Sl} : ∀ {vs : List Nat}, (wipeR ρ vs)[i]? = some s → s ≠ .no → i ∉ vs ∧ ρ[i]? = some s
  | [], h, _ => ⟨by simp, h⟩
  | v :: vs, h, n => by
    have h' : ((wipeR ρ vs).set v .no)[i]? = some s := h
    rcases getElem?_set_ite h' with ⟨_, e, _⟩ | ⟨ne, e⟩
    · exact absurd e n
    · obtain ⟨h1, h2⟩ := wipeR_get ρ e n
      exact ⟨by simp [ne, h1], h2⟩
theorem wipe_get_ne (σ : L2.St) {i : Nat} : ∀ {vs : List Nat}, i ∉ vs → (wipe σ vs)[i]? = σ[i]?
  | [], _ => rfl
  | v :: vs, h => by
    show ((wipe σ vs).set v none)[i]? = σ[i]?
    rw [List.getElem?_set_ne (fun e => h (by simp [e])), wipe_get_ne σ (fun q => h (by simp [q]))]
theorem Aft.unwipe {w0 w : Ws} {σ : L2.St} {ρ : En} {vs : List Nat} (A : Aft K mg w0 w) (h : w.σ = wipe σ vs) (hρ : w.ρ = wipeR ρ vs) : Aft K mg w0 { w with σ := σ } := by
  have sl : ∀ (i : Nat) s, w.ρ[i]? = some s → s ≠ .no → w.σ[i]? = σ[i]? := fun i s e n => by
    rw [hρ] at e
    rw [h, wipe_get_ne σ (wipeR_get ρ e n).1]
  have ow : ∀ i a, OwnS { w with σ := σ } i a → OwnS w i a := fun i a ⟨ds, h1, h2⟩ => ⟨ds, h1, by rw [sl i _ h1 (by simp)]; exact h2⟩
  have s := A.s
  refine ⟨⟨s.lowG, s.lowI, s.sub, by
      have := s.ln
      rw [h, wipe_length] at this
      exact this, s.len, s.cel, s.inj, fun i x e => ?_, fun i l a h1 h2 => s.sep i l a (ow i a h1) h2, fun i j a h1 h2 => s.dis i j a (ow i a h1) (ow j a h2)⟩, A.g, A.i, A.kp, fun a q => A.nw a ?_, A.gn, A.al⟩
  · have h1 := s.slo i x e
    cases x with
    | no => trivial
    | val d => rw [sl i _ e (by simp)] at h1; exact h1
    | ml ds => rw [sl i _ e (by simp)] at h1; exact h1
    | fn => rw [sl i _ e (by simp)] at h1; exact h1
    | exv c fs => rw [sl i _ e (by simp)] at h1; exact h1
  · rcases q with q | ⟨i, q⟩
    · exact .inl q
    · exact .inr ⟨i, ow i a q⟩
theorem Aft.looseUpd {w0 w : Ws} (A : Aft K mg w0 w) {D : Addr} {o : HO} (hf : w0.H D = none) (hl : Loose w D) : Aft K mg w0 { w with H := upd w.H D o } where
  s := A.s.heap (G' := w.G) (H' := upd w.H D o) (Same.refl _) (fun b u e => by rw [upd_ne (fun q => by rw [q, hl.1] at e; cases e)]; exact A.s.sub _ _ e) fun a m => ⟨A.s.mtG m, fun u e => by rw [upd_ne (fun q : a = D => hl.2 (q ▸ m))]; exact e⟩
  g := A.g
  i := A.i
  kp := fun a u h n => by
    show upd w.H D o a = some u
    rw [upd_ne (fun q => by rw [q, hf] at h; cases h)]
    exact A.kp a u h n
  nw := A.nw
  gn := A.gn
  al := fun a h => by
    have h' : upd w.H D o a = none := h
    by_cases e : a = D
    · rw [e]; exact hf
    · rw [upd_ne e] at h'; exact A.al a h'
theorem Aft.still {w w' : Ws} (A : Aft K mg w w') {D : Addr} {o : HO} (hl : Loose w D) (h : w.H D = some o) : Loose w' D ∧ w'.H D = some o := by
  refine ⟨⟨?_, fun m => ?_⟩, A.kp D o h hl.2⟩
  · cases e : w'.G D with
    | none => rfl
    | some u =>
      rcases A.gn D (by rw [e]; simp) with q | q | q
      · exact absurd hl.1 q
      · exact absurd q hl.2
      · rw [h] at q; cases q
  · rcases A.nw D m with q | q
    · exact hl.2 q
    · rw [h] at q; cases q
theorem lcGo_isL {g : DGx} {c f : DEx} {vs : List Nat} : ∀ (ds acc : List D) (ρ : En) (st : Store) (d : D) (ρ' : En) (st' : Store), lcGo g c f vs ds acc ρ st = .ok d ρ' st' → ∃ es, d = .lst es
  | [], acc, ρ, st, d, ρ', st', h => by cases h; exact ⟨acc, rfl⟩
  | x :: ds, acc, ρ, st, d, ρ', st', h => by
    unfold lcGo at h
    split at h
    · cases h
    · split at h
      · split at h
        · exact lcGo_isL ds _ _ _ _ _ _ h
        · cases h
      · exact lcGo_isL ds _ _ _ _ _ _ h
      · cases h
theorem lcD_isL {fi : DEx} {g : DGx} {c f : DEx} {vs : List Nat} : IsL (lcD fi g c f vs) := fun ρ st d ρ' st' h => by
  unfold lcD at h
  cases e : fi ρ st with
  | ok d1 ρ1 st1 =>
    rw [e] at h
    simp only [R.bind] at h
    split at h
    · split at h
      · exact lcGo_isL _ _ _ _ _ _ _ h
      · cases h
    · cases h
  | exc x ρ1 st1 => rw [e] at h; cases h
  | bad => rw [e] at h; cases h
theorem RefI.bindO {t : TI} {f : DEx} (h : RefI K mg W t f) {w : Ws} {Q : VK} {Q1 : It → Hp → Prop} {r : D → En → Store → R} (s : Sts K mg w) (hd : ∀ d ρ st, d.iter = none → r d ρ st = .bad)
    (hP : OkO K mg W w Q ((f w.ρ w.st).bind r))
    (k : ∀ (w1 : Ws) (J : It) (d : D) (ds : List D) (gd : Gd), w1.σ = w.σ → Aft K mg w w1 → d.iter = some (ds, gd) → IterOk K mg w1 J ds gd → okG gd w1.st → OkO K mg W w Q (r d w1.ρ w1.st) → Q1 J w1.H) : t w.σ w.H Q1 := by
  refine h w Q1 s ?_
  cases e : f w.ρ w.st with
  | ok d ρ st =>
    rw [e] at hP
    cases ei : d.iter with
    | none =>
      simp only [R.bind] at hP
      rw [hd _ ρ st ei] at hP
      exact hP.elim
    | some dg =>
      obtain ⟨ds, gd⟩ := dg
      simp only [OkI, ei]
      intro w' J h1 h2 h3 h4 h5 h6
      subst h1; subst h2
      exact k w' J d ds gd h3 h4 ei h5 h6 hP
  | exc c ρ st =>
    rw [e] at hP
    exact hP
  | bad => rw [e] at hP; exact hP
theorem refO_lc {wi : TI} {is vs : List Nat} {fi : DEx} {g : DGx} {c f : DEx} (hi : RefI K mg W wi fi) (hsub : ∀ i ∈ is, i ∈ vs) :
    RefO K mg W (tLc wi (gOf K mg is g) (ttOf K mg (WF mg.b) c) (tOf K mg (WF mg.b) f) vs) (lcD fi g c f vs) := fun w Q s q => by
  refine hi.bindO s (fun d ρ st n => by simp only [n]) q fun w1 J d0 ds gd e1 a1 ei it og q1 => ?_
  simp only [ei] at q1
  have hz : ds.length ≤ sizeLine := by
    by_cases h : ds.length ≤ sizeLine
    · exact h
    · simp only [if_neg h] at q1; exact q1.elim
  simp only [if_pos hz] at q1
  obtain ⟨G0, Y, wk, hG, hY⟩ := it
  intro D hD
  have fr : w.H D = none := a1.al D hD
  have A0 := Aft.loose (o := .lst []) a1.s hD
  have L0 := a1.s.looseAt (o := .lst []) hD
  refine lc_it wk (fun i H => ∃ (w2 : Ws) (ρ2 : En) (av : List V) (ad : List DL.D), Aft K mg w1 w2 ∧ w2.σ = wipe w.σ vs ∧ w2.ρ = wipeR ρ2 vs ∧ w2.H = H ∧ Loose w2 D ∧ w2.H D = some (.lst av) ∧ Reps K mg w2.G w2.ι av ad ∧ av.length ≤ i ∧ okG gd w2.st ∧
    OkO K mg W w Q (lcGo g (chkE gd c) (chkE gd f) vs (ds.drop i) ad w2.ρ w2.st)) ?_ ?_ ?_ ?_
  · have A1 := Aft.wiped A0.s vs
    refine ⟨{ w1 with H := upd w1.H D (.lst []), ρ := wipeR w1.ρ vs, σ := wipe w1.σ vs }, w1.ρ, [], [], A0.trans A1, by rw [← e1], rfl, rfl, (A1.still L0 upd_same).1, upd_same, .nil, Nat.le_refl _, og, q1⟩
  · rintro i H _ ⟨w2, _, _, _, A, _, _, rfl, _, _, _, _, og2, _⟩
    exact hG w2 A.fz og2
  · rintro i x H H' hl ⟨w2, ρ2, av, ad, A, hσ, hρ, rfl, hL, hav, hr, hle, og2, q2⟩ y
    have hd : ds[i]? = some ds[i] := List.getElem?_eq_getElem hl
    obtain ⟨G', A3, r3⟩ := hY i w2 x H' _ hd A.fz og2 y
    have ed : ds.drop i = ds[i] :: ds.drop (i + 1) := List.drop_eq_getElem_cons hl
    rw [ed] at q2
    unfold lcGo at q2
    cases z : g ds[i] w2.ρ with
    | none => simp only [z] at q2; exact q2.elim
    | some ρ' =>
      simp only [z] at q2
      refine ⟨{ w2 with G := G', H := H' }, ds[i], ρ', hσ, rfl, A3.s, r3, z, fun σ' hw A4 => ⟨?_, ?_⟩⟩
      · have := hw vs hsub
        have e : ({ w2 with G := G', H := H' } : Ws).σ = wipe w.σ vs := hσ
        rw [this, e]
        have idem : ∀ (σ : L2.St) (us : List Nat), wipe (wipe σ us) us = wipe σ us := by
          intro σ us
          have : ∀ us' : List Nat, (∀ i ∈ us', i ∈ us) → wipe (wipe σ us') us = wipe σ us := by
            intro us'
            induction us' with
            | nil => intro _; rfl
            | cons v us' ih =>
              intro hh
              show wipe ((wipe σ us').set v none) us = _
              rw [wipe_set (hh v (by simp)), ih fun i hi => hh i (by simp [hi])]
          exact this us fun _ h => h
        exact idem _ _
      · have A5 := A3.trans A4
        have A15 := A.trans A5
        refine ⟨{ w2 with ρ := ρ', σ := σ', G := G', H := H' }, rfl, rfl, A5.s, ?_⟩
        have hwσ : wipe σ' vs = wipe w.σ vs := by
          have := hw vs hsub
          have e : ({ w2 with G := G', H := H' } : Ws).σ = wipe w.σ vs := hσ
          rw [this, e]
          have idem : ∀ (σ : L2.St) (us us' : List Nat), (∀ i ∈ us', i ∈ us) → wipe (wipe σ us') us = wipe σ us := by
            intro σ us us'
            induction us' with
            | nil => intro _; rfl
            | cons v us' ih =>
              intro hh
              show wipe ((wipe σ us').set v none) us = _
              rw [wipe_set (hh v (by simp)), ih fun i hi => hh i (by simp [hi])]
          exact idem _ _ _ fun _ h => h
        obtain ⟨L5, h5⟩ := A5.still hL hav
        show OkT K mg (WF mg.b) _ _ (c ρ' w2.st)
        cases ec : c ρ' w2.st with
        | ok d ρ6 st6 =>
          have og6 : okG gd st6 := by
            by_cases h : okG gd st6
            · exact h
            · simp only [chkE, ec, if_neg h] at q2; exact q2.elim
          simp only [chkE, ec, if_pos og6] at q2
          cases d with
          | bl b =>
            intro w6 h1 h2 h3 A6
            subst h1; subst h2
            obtain ⟨L6, h6⟩ := A6.still L5 h5
            cases b with
            | false =>
              refine iteF ?_
              have A7 := Aft.wiped A6.s vs
              exact ⟨{ w6 with ρ := wipeR w6.ρ vs, σ := wipe w6.σ vs }, w6.ρ, av, ad, (A15.trans A6).trans A7, by rw [show w6.σ = σ' from h3]; exact hwσ, rfl, rfl, (A7.still L6 h6).1, h6, hr.mono (A5.g.trans A6.g) (A5.i.trans A6.i), Nat.le_succ_of_le hle, og6, q2⟩
            | true =>
              refine iteT ?_
              refine ⟨w6, h3, rfl, A6.s, ?_⟩
              simp only at q2
              cases ef : f w6.ρ w6.st with
              | ok y' ρ8 st8 =>
                have og8 : okG gd st8 := by
                  by_cases h : okG gd st8
                  · exact h
                  · simp only [ef, if_neg h] at q2; exact q2.elim
                simp only [ef, if_pos og8] at q2
                intro w8 yv h1 h2 h3' A8 r8
                subst h1; subst h2
                obtain ⟨L8, h8⟩ := A8.still L6 h6
                refine ⟨av, h8, ?_, ?_⟩
                · have : i < ds.length := hl
                  omega
                · have A18 := A15.trans (A6.trans A8)
                  have A9 := A18.looseUpd (o := .lst (av ++ [yv])) hD L8
                  have L9 : Loose { w8 with H := upd w8.H D (.lst (av ++ [yv])) } D := L8
                  have A10 := Aft.wiped A9.s vs
                  refine ⟨{ w8 with H := upd w8.H D (.lst (av ++ [yv])), ρ := wipeR w8.ρ vs, σ := wipe w8.σ vs }, w8.ρ, av ++ [yv], ad ++ [y'], A9.trans A10, ?_, rfl, rfl, (A10.still L9 upd_same).1, upd_same, ?_, by simp; omega, og8, q2⟩
                  · show wipe w8.σ vs = _
                    rw [h3', h3]; exact hwσ
                  · exact Reps.append (hr.mono (A5.g.trans (A6.g.trans A8.g)) (A5.i.trans (A6.i.trans A8.i))) (.cons r8 .nil)
              | exc x ρ8 st8 => simp only [ef] at q2; exact q2.elim
              | bad => simp only [ef] at q2; exact q2.elim
          | _ => exact q2.elim
        | exc x ρ6 st6 => simp only [chkE, ec] at q2; exact q2.elim
        | bad => simp only [chkE, ec] at q2; exact q2.elim
  · rintro H ⟨w2, ρ2, av, ad, A, hσ, hρ, rfl, hL, hav, hr, hle, _, q2⟩
    rw [List.drop_length] at q2
    have A2 := A.unwipe hσ hρ
    refine q2 { w2 with σ := w.σ } D av rfl rfl rfl (a1.trans A2) fr ?_ hav (by omega) hr
    refine ⟨hL.1, fun m => hL.2 ?_⟩
    rcases m with m | ⟨i, es, h1, h2⟩
    · exact .inl m
    · refine .inr ⟨i, es, h1, ?_⟩
      have h1' : w2.ρ[i]? = some (.ml es) := h1
      rw [hρ] at h1'
      rw [hσ, wipe_get_ne _ (wipeR_get ρ2 h1' (by simp)).1]
      exact h2
end
end DL
namespace DL
open PySem L2
section
variable {K : PySem.W.Frag} {mg : MG} {W : WB}
theorem RefO.fz {t : TE} {f : DEx} (h : RefO K mg W t f) (hl : IsL f) : RefE K mg W t f := fun w Q s q => by
  refine h w Q s ?_
  cases e : f w.ρ w.st with
  | ok d ρ st =>
    rw [e] at q
    obtain ⟨ds, rfl⟩ := hl _ _ _ _ _ e
    intro w' a vs h1 h2 h3 A fr lo ha hz r
    have A' := A.freeze fr lo ha
    exact q { w' with G := upd w'.G a (.lst vs) } (.ref a) h1 h2 h3 A' (.lst upd_same hz (r.mono (same_upd lo.1) (LeI.refl _)))
  | exc c ρ st => rw [e] at q; exact q
  | bad => rw [e] at q; exact q
theorem OkO.mk {w w1 : Ws} {Q : VK} {ds : List D} {vs : List V} {p : Addr} (A : Aft K mg w w1) (e1 : w1.σ = w.σ) (hp : w1.H p = none) (hz : vs.length ≤ sizeLine) (r : Reps K mg w1.G w1.ι vs ds)
    (q : OkO K mg W w Q (.ok (.lst ds) w1.ρ w1.st)) : Q (.ref p) (upd w1.H p (.lst vs)) :=
  q { w1 with H := upd w1.H p (.lst vs) } p vs rfl rfl e1 (A.trans (Aft.loose A.s hp)) (A.al p hp) (A.s.looseAt hp) upd_same hz r
end
@[simp] def lstD (f : DEx) (ρ : En) (st : Store) : R := (f ρ st).bind fun d ρ st => match d with
  | .tup ds => .ok (.lst ds) ρ st
  | _ => .bad
theorem lstD_isL {f : DEx} : IsL (lstD f) := fun ρ st d ρ' st' h => by
  unfold lstD at h
  cases e : f ρ st with
  | ok d1 ρ1 st1 =>
    rw [e] at h
    cases d1 <;> first | (cases h; done) | (cases h; exact ⟨_, rfl⟩)
  | exc c ρ1 st1 => rw [e] at h; cases h
  | bad => rw [e] at h; cases h
section
variable {X : Cx} {W : WB} {e a b : Expr} {es : List Expr} {f g : DEx} {pos : Pos}
theorem DO.fz (h : DO X W e f) : DE X W e f := let ⟨⟨t, p, r⟩, l⟩ := h; ⟨t, p, r.fz l⟩
theorem do_lst (ha : DAn X W es f) (hl : es.length ≤ sizeLine := by decide) : DO X W (.List es pos) (lstD f) := by
  obtain ⟨⟨t, pt, rt⟩, hn⟩ := ha
  refine ⟨⟨_, pe_lst pt, fun w Q s q => ?_⟩, lstD_isL⟩
  refine rt.bind (P := OkO X.K (MGx X W.b) W w Q) s q (fun d ρ st n => by cases d <;> first | rfl | exact absurd rfl (n _)) (fun _ _ _ z => z) (fun z => z) fun w1 vs ds e1 a1 r1 ee q1 => ?_
  have l : vs.length ≤ sizeLine := by
    obtain ⟨ds', e', l⟩ := hn _ _ _ _ _ ee
    cases e'
    rw [r1.len, l]; exact hl
  exact ⟨l, fun p hp => OkO.mk a1 e1 hp l r1 q1⟩
@[simp] def setOD (f : DEx) (i : Nat) (ρ0 : En) (st0 : Store) : Fl := thenF f (fun d ρ st => match d with
  | .lst ds => .nx (ρ.set i (.ml ds)) st
  | _ => .bad) ρ0 st0
@[simp] def retCD (f : DEx) (ρ0 : En) (st0 : Store) : Fl := thenF f (fun d ρ st => match d with
  | .lst ds => .rt (.ref st.length) ρ (st ++ [.lst ds])
  | _ => .bad) ρ0 st0
theorem RefO.bindF {K : PySem.W.Frag} {mg : MG} {t : TE} (h : RefO K mg W t f) (hl : IsL f) {w : Ws} {E : Ends} {Q1 : VK} {r : D → En → Store → Fl} (s : Sts K mg w)
    (hP : OkF K mg W w E (match f w.ρ w.st with | .ok d ρ st => r d ρ st | .exc c ρ st => .exc c ρ st | .bad => .bad))
    (k : ∀ (w1 : Ws) (a : Addr) (vs : List V) (ds : List D), w1.σ = w.σ → Aft K mg w w1 → w.H a = none → Loose w1 a → w1.H a = some (.lst vs) → vs.length ≤ sizeLine → Reps K mg w1.G w1.ι vs ds → OkF K mg W w E (r (.lst ds) w1.ρ w1.st) → Q1 (.ref a) w1.H) : t w.σ w.H Q1 := by
  refine h w Q1 s ?_
  cases e : f w.ρ w.st with
  | ok d ρ st =>
    rw [e] at hP
    obtain ⟨ds, rfl⟩ := hl _ _ _ _ _ e
    intro w' a vs h1 h2 h3 h4 h5 h6 h7 h8 h9
    subst h1; subst h2
    exact k w' a vs ds h3 h4 h5 h6 h7 h8 h9 hP
  | exc c ρ st =>
    rw [e] at hP
    exact fun w' cls dx h1 h2 _ h4 h5 => hP w' cls dx h1 h2 h4 h5
  | bad => rw [e] at hP; exact hP
theorem refS_setO {K : PySem.W.Frag} {mg : MG} {t : TE} {i : Nat} (h : RefO K mg W t f) (hl : IsL f) : RefS K mg W (tAsg t (gName i)) (setOD f i) := fun w E s q =>
  h.bindF hl s q fun w1 a vs ds e1 A fr lo ha hz r q1 => by
    show E.nx (w.σ.set i (some (.ref a))) w1.H
    have := q1 { w1 with ρ := w1.ρ.set i (.ml ds), σ := w1.σ.set i (some (.ref a)) } rfl rfl (A.setMl fr lo ha hz r)
    rw [e1] at this; exact this
theorem cellRep {K : PySem.W.Frag} {mg : MG} {w0 w1 : Ws} (A : Aft K mg w0 w1) {a : Addr} : Rep K mg w1.G (w1.ι ++ [a]) (.ref a) (.ref w1.st.length) := .ref (by rw [A.s.len]; simp)
theorem refS_retC {K : PySem.W.Frag} {mg : MG} {t : TE} (h : RefO K mg W t f) (hl : IsL f) : RefS K mg W (tRet t) (retCD f) := fun w E s q =>
  h.bindF hl s q fun w1 a vs ds e1 A fr lo ha hz r q1 => by
    have A1 := A.newCell fr lo ha hz r
    exact q1 { w1 with ι := w1.ι ++ [a], st := w1.st ++ [.lst ds] } (.ref a) rfl rfl A1 (cellRep A)
theorem ds_setO {i : Nat} {x : Str} {pos' : Pos} (hN : X.N.Nodup) (hi : X.N[i]? = some x) (hx : Loc X.env.scope x) (he : DO X W e f) (hs : swapsWith e (some (.Name x pos')) pos.line X.env = pure false := by rfl) (hf : X.fn x = true ∨ X.env.scope.names.lookup x = some .local := by first | exact .inl rfl | exact .inr rfl | assumption) :
    DS X W (.Assign [.Name x pos'] e pos) (setOD f i) := let ⟨⟨_, p, r⟩, l⟩ := he; ⟨_, ps_set hN hi hx p hs hf, refS_setO r l⟩
theorem ds_retC (he : DO X W e f) : DS X W (.Return (some e) pos) (retCD f) := let ⟨⟨_, p, r⟩, l⟩ := he; ⟨_, ps_ret p, refS_retC r l⟩
theorem Aft.fzMl {K : PySem.W.Frag} {mg : MG} {w : Ws} (s : Sts K mg w) {i : Nat} {a : Addr} {ds : List D} {vs : List V} (h0 : w.ρ[i]? = some (.ml ds)) (h1 : w.σ[i]? = some (some (.ref a))) (ha : w.H a = some (.lst vs)) (hz : vs.length ≤ sizeLine) (r : Reps K mg w.G w.ι vs ds) :
    Aft K mg w { w with ρ := w.ρ.set i (.val (.lst ds)), G := upd w.G a (.lst vs) } := by
  have own : OwnS w i a := ⟨ds, h0, h1⟩
  have ga : w.G a = none := s.mtG own.mt
  have sg := same_upd (o := .lst vs) ga
  have ow : ∀ j b, OwnS { w with ρ := w.ρ.set i (.val (.lst ds)), G := upd w.G a (.lst vs) } j b → OwnS w j b ∧ b ≠ a := fun j b h => by
    obtain ⟨es, q1, q2⟩ := h
    rcases getElem?_set_ite q1 with ⟨_, e, _⟩ | ⟨ne, e⟩
    · cases e
    · refine ⟨⟨es, e, q2⟩, fun z => ne (s.dis j i b ⟨es, e, q2⟩ (z ▸ own))⟩
  have lv : ∀ l b, Liv w l b → b ≠ a := fun l b h z => s.sep i l a own (z ▸ h)
  have sub' : Same (upd w.G a (.lst vs)) w.H := fun b u e => by
    by_cases h : b = a
    · subst h; rw [upd_same] at e; rw [ha]; exact e
    · rw [upd_ne h] at e; exact s.sub _ _ e
  refine ⟨⟨s.lowG.trans sg, s.lowI, sub', by simpa using s.ln, s.len, fun l c b q1 q2 => ?_, s.inj, fun j x h => ?_, fun j l b q1 q2 => s.sep j l b (ow j b q1).1 q2, fun j k b q1 q2 => s.dis j k b (ow j b q1).1 (ow k b q2).1⟩, sg, LeI.refl _, fun _ _ h _ => h, fun b h => ?_, fun b h => ?_, fun _ h => h⟩
  · exact (s.cel l c b q1 q2).keep (w' := { w with ρ := w.ρ.set i (.val (.lst ds)), G := upd w.G a (.lst vs) }) sg (LeI.refl _) (fun n => ⟨by
      show upd w.G a (.lst vs) b = none
      rw [upd_ne (lv l b ⟨c, q1, n, q2⟩)]; exact s.mtG (.inl ⟨l, c, q1, n, q2⟩), fun _ e => e⟩) sub'
  · rcases getElem?_set_ite h with ⟨e, e2, _⟩ | ⟨ne, e⟩
    · subst e; subst e2
      exact ⟨.ref a, h1, .lst upd_same hz (r.mono sg (LeI.refl _))⟩
    · refine (s.slo j x e).keep (w' := { w with ρ := w.ρ.set i (.val (.lst ds)), G := upd w.G a (.lst vs) }) sg (LeI.refl _) fun b ⟨es, e3⟩ h2 => ?_
      have o2 : OwnS w j b := ⟨es, by rw [e, e3], h2⟩
      refine ⟨?_, fun _ e => e⟩
      show upd w.G a (.lst vs) b = none
      rw [upd_ne (fun z : b = a => ne (s.dis j i b o2 (z ▸ own)))]
      exact s.mtG o2.mt
  · rcases h with h | ⟨j, h⟩
    · exact .inl (.inl h)
    · exact .inl (.inr ⟨j, (ow j b h).1⟩)
  · by_cases z : b = a
    · subst z; exact .inr (.inl own.mt)
    · have h' : upd w.G a (.lst vs) b ≠ none := h
      rw [upd_ne z] at h'; exact .inl h'
@[simp] def frzE (i : Nat) (ρ : En) (st : Store) : R := match ρ[i]? with
  | some (.ml ds) => .ok (.lst ds) (ρ.set i (.val (.lst ds))) st
  | some (.val d) => .ok d ρ st
  | _ => .bad
theorem ref_frz {K : PySem.W.Frag} {mg : MG} (i : Nat) : RefE K mg W (tVar i) (frzE i) := fun w Q s h => by
  unfold frzE at h
  split at h
  · rename_i ds e
    obtain ⟨a, vs, e1, e2, e3, e4, e5⟩ := s.slo i _ e
    have A := Aft.fzMl s e e1 e3 e4 e5
    exact ⟨_, e1, h { w with ρ := w.ρ.set i (.val (.lst ds)), G := upd w.G a (.lst vs) } (.ref a) rfl rfl rfl A (.lst upd_same e4 (e5.mono A.g (LeI.refl _)))⟩
  · rename_i d e
    obtain ⟨v, e2, r⟩ := s.slo i _ e
    exact ⟨v, e2, h w v rfl rfl rfl (Aft.refl s) r⟩
  · exact h.elim
theorem de_frz (i : Nat) {x : Str} (hN : X.N[i]? = some x := by rfl) (hv : Vis X.env.scope x := by first | exact Or.inl rfl | exact Or.inr (Or.inl rfl) | exact Or.inr (Or.inr rfl)) (hd : (x == ("__debug__" : Str)) = false := by decide)
    (hcd : (x == ("__classdict__" : Str)) = false := by decide) : DE X W (.Name x pos) (frzE i) := ⟨_, pv i hN hv hd hcd, ref_frz i⟩
end
section
variable {X : Cx} {W : WB} {elt tg iter : Expr} {ifs : List Expr} {scope : Scope} {own : List (Str × Nat)} {pos spos : Pos} {fi c f : DEx} {g : DGx} {is : List Nat}
theorem do_lc (hc : X.calm = true) (hN : X.N.Nodup) (hi : DI X W tg iter fi) (ok : BlkOk X.N X.env.scope scope own) (hsub : ∀ i ∈ is, i ∈ own.map (·.2))
    (hg : ∀ (s : Shared) (H : Hp) (C : Addr) (cl : List (Str × Addr)) (fp : List Addr), DG (X.blk s H scope (PySem.compEnvC scope cl C X.env) fp) tg is g)
    (ht : ∀ (s : Shared) (H : Hp) (C : Addr) (cl : List (Str × Addr)) (fp : List Addr), DTs (X.blk s H scope (PySem.compEnvC scope cl C X.env) fp) W.b ifs c)
    (he : ∀ (s : Shared) (H : Hp) (C : Addr) (cl : List (Str × Addr)) (fp : List Addr), DE (X.blk s H scope (PySem.compEnvC scope cl C X.env) fp) (WF W.b) elt f) (hs : ∀ x, foldedSetIterable iter X.env x = pure x := by intro _; rfl) :
    DO X W (.ListComp elt [⟨tg, iter, ifs, 0⟩] scope pos) (lcD fi g c f (own.map (·.2))) := by
  obtain ⟨wi, pi, ri⟩ := hi
  exact ⟨⟨_, pe_lc hc hN pi ok (fun s H C cl fp => (hg s H C cl fp).pg W.b) (fun s H C cl fp => (ht s H C cl fp).pts) (fun s H C cl fp => (he s H C cl fp).pe) hs, refO_lc ri hsub⟩, lcD_isL⟩
theorem ps_lc {i : Nat} {y : Str} {py : Pos} (hc : X.calm = true) (hN : X.N.Nodup) (hy : X.N[i]? = some y) (hyl : X.env.scope.names.lookup y = some .local)
    (hsw : swapsWith (.ListComp elt [⟨tg, iter, ifs, 0⟩] scope pos) (some (.Name y py)) spos.line X.env = pure true) (hi : DI X W tg iter fi) (ok : BlkOk X.N X.env.scope scope own) (hsub : ∀ i ∈ is, i ∈ own.map (·.2))
    (hg : ∀ (s : Shared) (H : Hp) (C : Addr) (cl : List (Str × Addr)) (fp : List Addr), DG (X.blk s H scope (PySem.compEnvC scope cl C X.env) fp) tg is g)
    (ht : ∀ (s : Shared) (H : Hp) (C : Addr) (cl : List (Str × Addr)) (fp : List Addr), DTs (X.blk s H scope (PySem.compEnvC scope cl C X.env) fp) W.b ifs c)
    (he : ∀ (s : Shared) (H : Hp) (C : Addr) (cl : List (Str × Addr)) (fp : List Addr), DE (X.blk s H scope (PySem.compEnvC scope cl C X.env) fp) (WF W.b) elt f) (hs : ∀ x, foldedSetIterable iter X.env x = pure x := by intro _; rfl) :
    ∃ t, PS X (.Assign [.Name y py] (.ListComp elt [⟨tg, iter, ifs, 0⟩] scope pos) spos) (tAsg t (gName i)) ∧ RefO X.K (MGx X W.b) W t (lcD fi g c f (own.map (·.2))) := by
  obtain ⟨wi, pi, ri⟩ := hi
  exact ⟨_, ps_setLc hc hN hy hyl hsw pi ok (fun s H C cl fp => (hg s H C cl fp).pg W.b) (fun s H C cl fp => (ht s H C cl fp).pts) (fun s H C cl fp => (he s H C cl fp).pe) hs, refO_lc ri hsub⟩
theorem ds_lcF {i : Nat} {st : Stmt} (h : ∃ t, PS X st (tAsg t (gName i)) ∧ RefO X.K (MGx X W.b) W t (lcD fi g c f (own.map (·.2)))) : DS X W st (setD (lcD fi g c f (own.map (·.2))) (gN i)) :=
  let ⟨_, p, r⟩ := h; ⟨_, p, refS_set (r.fz lcD_isL) (refG_name i)⟩
end
end DL
namespace DL
open PySem L2
theorem pi_or {X : Cx} {tg e : Expr} {t u : TI} (h : PI X tg e t) (h' : PI X tg e u) : PI X tg e (fun σ H R => t σ H R ∨ u σ H R) := by
  constructor
  intro pins s σ H R I q
  rcases q with q | q
  · exact h.run pins s σ H R I q
  · exact h'.run pins s σ H R I q
@[simp] def D.items : D → Option (List D)
  | .lst ds => some ds
  | .tup ds => some ds
  | .lsk ds => some ds
  | .str z => some (z.cps.toList.map fun c => .str ⟨#[c]⟩)
  | _ => none
@[simp] def D.walk (st : Store) : D → Option D
  | .ref l => match st[l]? with
    | some (.lst ds) => some (.tup [.lst ds, .ref l, .lst ds])
    | _ => none
  | d => d.items.map .lst
@[simp] def itD (f : DEx) (ρ : En) (st : Store) : R := (f ρ st).bind fun d ρ st => match d.walk st with
  | some ds => .ok ds ρ st
  | none => .bad
section
variable {K : PySem.W.Frag} {mg : MG} {W : WB}
theorem iter_list {w : Ws} (s : Sts K mg w) {a : Addr} {vs : List V} {ds : List D} (h : SqL K w.G a vs) (r : Reps K mg w.G w.ι vs ds) : IterOk K mg w (Itl K a) ds none := by
  refine ⟨_, _, by rw [← r.len]; exact walk_list (xs := vs), fun w2 A _ => SqL.mono A.s.sub (SqL.mono A.g h), ?_⟩
  rintro i w2 x H' d hd A _ ⟨rfl, hx⟩
  obtain ⟨d', e, rp⟩ := r.getV hx
  rw [hd] at e; cases e
  exact ⟨w2.G, Aft.refl A.s, rp.mono A.g A.i⟩
theorem iter_tup {w : Ws} (s : Sts K mg w) {a : Addr} {vs : List V} {ds : List D} (h : SqT K w.G a vs) (r : Reps K mg w.G w.ι vs ds) : IterOk K mg w (Itt K a) ds none := by
  refine ⟨_, _, by rw [← r.len]; exact walk_tup (xs := vs), fun w2 A _ => SqT.mono A.s.sub (SqT.mono A.g h), ?_⟩
  rintro i w2 x H' d hd A _ ⟨rfl, hx⟩
  obtain ⟨d', e, rp⟩ := r.getV hx
  rw [hd] at e; cases e
  exact ⟨w2.G, Aft.refl A.s, rp.mono A.g A.i⟩
theorem iter_str {w : Ws} (s : Sts K mg w) {z : Str} : IterOk K mg w (Its z) (z.cps.toList.map fun c => .str ⟨#[c]⟩) none := by
  refine ⟨_, _, by simpa using walk_str (z := z), fun _ _ _ => trivial, ?_⟩
  rintro i w2 x H' d hd A _ ⟨rfl, c, hc, rfl⟩
  rw [List.getElem?_map, Array.getElem?_toList, hc] at hd
  cases hd
  exact ⟨w2.G, Aft.refl A.s, .str _⟩
theorem walk_cell {a : Addr} {n : Nat} : Walk (Itl K a) n (fun H => ∃ vs, SqL K H a vs ∧ vs.length = n) (fun i H x H' => H' = H ∧ ∀ xs, SqL K H a xs → xs[i]? = some x) :=
  ⟨fun i _ hi ⟨xs, q, e⟩ => ⟨xs, xs[i]'(by omega), q, by simp [show i < xs.length by omega]⟩, fun _ ⟨xs, q, e⟩ => ⟨xs, q, by omega⟩, fun _ _ _ _ _ q y => y⟩
theorem iter_cell {w : Ws} (s : Sts K mg w) {a : Addr} {l : Nat} {ds : List D} (hi : w.ι[l]? = some a) : IterOk K mg w (Itl K a) ds (some (l, ds)) := by
  refine ⟨_, _, walk_cell, fun w2 F og => ?_, ?_⟩
  · obtain ⟨_, vs, h, _, r⟩ := F.s.cel l _ a og (F.i _ _ hi)
    exact ⟨vs, SqL.of h, r.len⟩
  · rintro i w2 x H' d hd F og ⟨rfl, hx⟩
    obtain ⟨_, vs, h, _, r⟩ := F.s.cel l _ a og (F.i _ _ hi)
    obtain ⟨d', e, rp⟩ := r.getV (hx vs (SqL.of h))
    rw [hd] at e; cases e
    exact ⟨w2.G, Aft.refl F.s, rp⟩
def iSeq (K : PySem.W.Frag) (te : TE) : TI := fun σ H R => iList K te σ H R ∨ iTup K te σ H R ∨ iStr te σ H R
theorem refI_seq {te : TE} {f : DEx} (h : RefE K mg W te f) : RefI K mg W (iSeq K te) (itD f) := fun w Q s q => by
  unfold itD at q
  cases e : f w.ρ w.st with
  | ok d ρ st =>
    rw [e] at q
    simp only [R.bind] at q
    cases d with
    | lst ds =>
      refine .inl (h w _ s ?_)
      rw [e]
      intro w' v h1 h2 h3 A r
      cases r with
      | lst hs hl rs => exact ⟨_, rfl, ⟨_, SqL.of (A.s.sub _ _ hs)⟩, q w' _ h1 h2 h3 A (iter_list A.s (SqL.of hs) rs) trivial⟩
    | lsk ds =>
      refine .inl (h w _ s ?_)
      rw [e]
      intro w' v h1 h2 h3 A r
      cases r with
      | lsk hs hl rs => exact ⟨_, rfl, ⟨_, SqL.mono A.s.sub hs⟩, q w' _ h1 h2 h3 A (iter_list A.s hs rs) trivial⟩
    | tup ds =>
      refine .inr (.inl (h w _ s ?_))
      rw [e]
      intro w' v h1 h2 h3 A r
      cases r with
      | tup hs hl rs => exact ⟨_, rfl, ⟨_, SqT.mono A.s.sub hs⟩, q w' _ h1 h2 h3 A (iter_tup A.s hs rs) trivial⟩
    | str z =>
      refine .inr (.inr (h w _ s ?_))
      rw [e]
      intro w' v h1 h2 h3 A r
      exact ⟨z, r.str_inv, q w' _ h1 h2 h3 A (iter_str A.s) trivial⟩
    | ref l =>
      simp only [D.walk] at q
      cases hst : st[l]? with
      | none => rw [hst] at q; exact q.elim
      | some c =>
        cases c with
        | lst ds =>
          rw [hst] at q
          refine .inl (h w _ s ?_)
          rw [e]
          intro w' v h1 h2 h3 A r
          cases r with
          | ref hi =>
            rename_i a
            obtain ⟨_, vs, hh, _, _⟩ := A.s.cel l _ a (by rw [h2]; exact hst) hi
            exact ⟨_, rfl, ⟨_, SqL.of hh⟩, q w' _ h1 h2 h3 A (iter_cell A.s hi) hst⟩
        | _ => rw [hst] at q; exact q.elim
    | _ => exact q.elim
  | exc c ρ st =>
    refine .inl (h w _ s ?_)
    rw [e] at q ⊢
    exact q
  | bad => rw [e] at q; exact q.elim
end
section
variable {X : Cx} {W : WB} {tg e e2 : Expr} {f f2 : DEx} {p pos : Pos}
theorem di_seq (h : DE X W e f) : DI X W tg e (itD f) := let ⟨_, pe, r⟩ := h; ⟨_, pi_or (pi_list pe) (pi_or (pi_tup pe) (pi_str pe)), refI_seq r⟩
def rngItems (lo : Int) (n : Nat) : List D := (List.range n).map fun (i : Nat) => .int (lo + (i : Int))
theorem rngItems_get {lo : Int} {n i : Nat} {d : D} (h : (rngItems lo n)[i]? = some d) : d = .int (lo + (i : Int)) := by
  unfold rngItems at h
  rw [List.getElem?_map] at h
  cases e : (List.range n)[i]? with
  | none => rw [e] at h; cases h
  | some j =>
    rw [e] at h; cases h
    have := (List.getElem?_eq_some_iff.mp e).2
    simp at this; rw [this]
theorem iter_rng {K : PySem.W.Frag} {mg : MG} {w : Ws} {lo : Int} {n : Nat} : IterOk K mg w (Itr lo n) (rngItems lo n) none := by
  refine ⟨_, _, by simpa [rngItems] using walk_range (lo := lo) (n := n), fun _ _ _ => trivial, ?_⟩
  rintro i w2 x H' d hd A _ ⟨rfl, rfl⟩
  rw [rngItems_get hd]
  exact ⟨w2.G, Aft.refl A.s, .int _⟩
def Rg (j : Int) : Prop := -(2 ^ 62) ≤ j ∧ j < 2 ^ 62
noncomputable instance (j : Int) : Decidable (Rg j) := Classical.propDecidable _
theorem Rg.of {k : Int} (h1 : -1000000 ≤ k) (h2 : k ≤ 1000000) : Rg k := ⟨by omega, by omega⟩
def Rs (j : Int) : Prop := -(2 ^ 63) ≤ j ∧ j < 2 ^ 63
noncomputable instance (j : Int) : Decidable (Rs j) := Classical.propDecidable _
theorem Rs.of {k : Int} (h1 : -1000000 ≤ k) (h2 : k ≤ 1000000) : Rs k := ⟨by omega, by omega⟩
@[simp] noncomputable def rng1 (f : DEx) (ρ : En) (st : Store) : R := (f ρ st).bind fun d ρ st => match d with
  | .tup [.int j] => if Rg j then .ok (.lst (rngItems 0 j.toNat)) ρ st else .bad
  | _ => .bad
theorem RefA.bindI {K : PySem.W.Frag} {mg : MG} {t : TA} (h : RefA K mg W t f) {w : Ws} {Q : It → Hp → Prop} {Q1 : List V → Hp → Prop} {r : D → En → Store → R} (s : Sts K mg w) (hP : OkI K mg W w Q ((f w.ρ w.st).bind r)) (hd : ∀ d ρ st, (∀ b, d ≠ .tup b) → r d ρ st = .bad)
    (k : ∀ (w1 : Ws) (vs : List V) (ds : List D), w1.σ = w.σ → Aft K mg w w1 → Reps K mg w1.G w1.ι vs ds → OkI K mg W w Q (r (.tup ds) w1.ρ w1.st) → Q1 vs w1.H) : t w.σ w.H Q1 :=
  h.bind (P := OkI K mg W w Q) s hP hd (fun _ _ _ z => z) (fun z => z) fun w1 vs ds e A r _ q => k w1 vs ds e A r q
theorem Reps.inv1 {K : PySem.W.Frag} {mg : MG} {G : Hp} {ι : List Addr} {vs : List V} {d : D} (h : Reps K mg G ι vs [d]) : ∃ v, vs = [v] ∧ Rep K mg G ι v d := by
  cases h with
  | cons r rs => cases rs; exact ⟨_, rfl, r⟩
theorem di_range1 (hg : Gl X "range") (hm : X.mg "range" = none) (ha : DAn X W [e] f) (hs : starEach [e] X.env = [(false, eval e X.env)] := by rfl) : DI X W tg (.Call (.Name "range" p) [e] [] pos) (rng1 f) := by
  obtain ⟨⟨t, pt, rt⟩, _⟩ := ha
  refine ⟨_, pi_range1 hg hm pt hs, fun w Q s q => ?_⟩
  refine rt.bindI s q (fun d ρ st n => by cases d <;> first | rfl | exact absurd rfl (n _)) fun w1 vs ds e1 A r q1 => ?_
  split at q1
  · rename_i j hj
    cases hj
    split at q1
    · rename_i hh
      obtain ⟨v, rfl, rv⟩ := r.inv1
      exact ⟨j, by rw [rv.int_inv], hh.1, hh.2, q1 w1 _ rfl rfl e1 A iter_rng trivial⟩
    · exact q1.elim
  · exact q1.elim
@[simp] def revD (f : DEx) (ρ : En) (st : Store) : R := (f ρ st).bind fun d ρ st => match d with
  | .tup [.lst ds] => .ok (.lst ds.reverse) ρ st
  | _ => .bad
theorem di_rev (hg : Gl X "reversed") (hm : X.mg "reversed" = none) (ha : DAn X W [e] f) (hs : starEach [e] X.env = [(false, eval e X.env)] := by rfl) : DI X W tg (.Call (.Name "reversed" p) [e] [] pos) (revD f) := by
  obtain ⟨⟨t, pt, rt⟩, _⟩ := ha
  refine ⟨_, pi_reversed hg hm pt hs, fun w Q s q => ?_⟩
  refine rt.bindI s q (fun d ρ st n => by cases d <;> first | rfl | exact absurd rfl (n _)) fun w1 vs ds e1 A r q1 => ?_
  split at q1
  · rename_i ds' hj
    cases hj
    obtain ⟨v, rfl, rv⟩ := r.inv1
    cases rv with
    | lst hs hl rs =>
      refine ⟨_, _, rfl, SqL.of (A.s.sub _ _ hs), q1 w1 _ rfl rfl e1 A ?_ trivial⟩
      refine ⟨_, _, by rw [List.length_reverse, ← rs.len]; exact walk_rev, fun w2 A2 _ => SqL.of (A2.s.sub _ _ (A2.g _ _ hs)), ?_⟩
      rintro i w2 x H' d hd A2 _ ⟨rfl, hx⟩
      obtain ⟨d', e', rp⟩ := rs.getV hx
      have hl : i < ds'.length := by have := (List.getElem?_eq_some_iff.mp hd).1; simpa using this
      rw [List.getElem?_reverse hl] at hd
      rw [rs.len] at e'
      rw [hd] at e'; cases e'
      exact ⟨w2.G, Aft.refl A2.s, rp.mono A2.g A2.i⟩
  · exact q1.elim
end
end DL
namespace DL
open PySem L2
def AnsC (K : PySem.W.Frag) (mg : MG) (r : List V → Hp → VK → Prop) (p : D → Option D) : Prop :=
  ∀ (w : Ws) (x : V) (d z : D) (Q : VK), Sts K mg w → RepV K mg w x d → p d = some z → (∀ v, (∀ G ι, Rep K mg G ι v z) → Q v w.H) → r [x] w.H Q
def AnsC2 (K : PySem.W.Frag) (mg : MG) (r : List V → Hp → VK → Prop) (p : D → D → Option D) : Prop :=
  ∀ (w : Ws) (x y : V) (d e z : D) (Q : VK), Sts K mg w → RepV K mg w x d → RepV K mg w y e → p d e = some z → (∀ v, (∀ G ι, Rep K mg G ι v z) → Q v w.H) → r [x, y] w.H Q
section
variable {X : Cx} {W : WB} {e e2 : Expr} {f g : DEx} {q : DPx} {p pos : Pos} {x : Str} {id T : String} {r : List V → Hp → VK → Prop} {pp : D → Option D} {p2 : D → D → Option D}
theorem de_b1 (hc : CallR X (.builtin id) r) (hr : AnsC X.K (MGx X W.b) r pp) (hg : Gl X x) (hm : X.mg x = none) (hv : bootBuiltins x = some (.builtin id)) (ha : DV X W e f) (hn : x ≠ "__name__" := by decide) (hdb : (x == ("__debug__" : Str)) = false := by decide)
    (he : starEach [e] X.env = (false, eval e X.env) :: starEach [] X.env := by rfl) (hpl : (backTo pos (starEach [] X.env)).any (·.1) = false := by rfl) : DE X W (.Call (.Name x p) [e] [] pos) (lift1 pp f) := by
  obtain ⟨te, pe, re⟩ := ha
  refine ⟨_, pe_callB hc hg hm hv (pa_cons pe pa_nil he) hn hdb he hpl, fun w Q s h => ?_⟩
  refine re.bindR (Q := Q) s h fun w1 x d s1 e1 a1 r1 h1 => ?_
  cases z : pp d with
  | none => simp only [z] at h1; exact h1.elim
  | some y =>
    simp only [z] at h1
    exact hr w1 x d y Q s1 r1 z fun v rv => h1 w1 v rfl rfl rfl (Aft.refl s1) (rv _ _)
theorem de_b2 (hc : CallR X (.builtin id) r) (hr : AnsC2 X.K (MGx X W.b) r p2) (hg : Gl X x) (hm : X.mg x = none) (hv : bootBuiltins x = some (.builtin id)) (ha : DE X W e f) (hb : DV X W e2 g) (hn : x ≠ "__name__" := by decide) (hdb : (x == ("__debug__" : Str)) = false := by decide)
    (he : starEach [e, e2] X.env = (false, eval e X.env) :: starEach [e2] X.env := by rfl) (he2 : starEach [e2] X.env = (false, eval e2 X.env) :: starEach [] X.env := by rfl) (hpl : (backTo pos (starEach [e2] X.env)).any (·.1) = false := by rfl) : DE X W (.Call (.Name x p) [e, e2] [] pos) (lift2 p2 f g) := by
  obtain ⟨te, pe, re⟩ := ha
  obtain ⟨te2, pe2, re2⟩ := hb
  refine ⟨_, pe_callB hc hg hm hv (pa_cons pe (pa_cons pe2 pa_nil he2) he) hn hdb he hpl, fun w Q s h => ?_⟩
  refine re.bindR (Q := Q) s h fun w1 x d s1 e1 a1 r1 h1 => ?_
  show te2 w.σ w1.H _
  rw [← e1]
  refine re2.bindR (Q := Q) s1 h1 fun w2 y e' s2 e2 a2 r2 h2 => ?_
  cases z : p2 d e' with
  | none => simp only [z] at h2; exact h2.elim
  | some y' =>
    simp only [z] at h2
    exact hr w2 x y d e' y' Q s2 (.inl (r1.mono a2.g a2.i)) r2 z fun v rv => h2 w2 v rfl rfl rfl (Aft.refl s2) (rv _ _)
end
@[simp] def pLen : D → Option D
  | .str z => if z.length ≤ sizeLine then some (.int z.length) else none
  | .lst ds => some (.int ds.length)
  | .lsk ds => some (.int ds.length)
  | .tup ds => some (.int ds.length)
  | _ => none
@[simp] def pAbs : D → Option D
  | .int i => some (.int (if i < 0 then -i else i))
  | _ => none
@[simp] def pMax : D → D → Option D
  | .int i, .int j => some (.int (if j > i then j else i))
  | _, _ => none
@[simp] def pMin : D → D → Option D
  | .int i, .int j => some (.int (if j < i then j else i))
  | _, _ => none
@[simp] def bools : List D → Option (List Bool)
  | [] => some []
  | .bl b :: ds => (bools ds).map (b :: ·)
  | _ :: _ => none
@[simp] def pAll : D → Option D
  | .lst ds => (bools ds).map fun bs => .bl (bs.all id)
  | _ => none
@[simp] def pAny : D → Option D
  | .lst ds => (bools ds).map fun bs => .bl (bs.any id)
  | _ => none
section
variable {K : PySem.W.Frag} {mg : MG}
theorem bools_reps {G : Hp} {ι : List Addr} : ∀ {vs : List V} {ds : List D} {bs : List Bool}, Reps K mg G ι vs ds → bools ds = some bs → vs = bs.map V.bl
  | _, [], _, .nil, h => by cases h; rfl
  | _, d :: ds, bs, .cons r rs, h => by
    cases d with
    | bl b =>
      obtain ⟨bs', e, rfl⟩ := Option.map_eq_some_iff.mp h
      rw [r.bl_inv, bools_reps rs e]; rfl
    | _ => simp [bools] at h
theorem ansC_len : AnsC K mg (fun xs H Q => ∃ x n, xs = [x] ∧ LenV K x H n ∧ Q (.int n) H) pLen := fun w x d z Q s rx q k => by
  unfold pLen at q
  split at q
  · rename_i y
    split at q
    · rename_i hz
      cases q
      exact ⟨x, _, rfl, by rw [rx.str_inv]; exact ⟨hz, rfl⟩, k _ fun _ _ => .int _⟩
    · cases q
  · cases q
    obtain ⟨a, vs, rfl, h1, h2, h3⟩ := rx.lst_inv s
    exact ⟨_, vs.length, rfl, .inl ⟨vs, SqL.of h1, rfl⟩, by rw [h3.len]; exact k _ fun _ _ => .int _⟩
  · cases q
    obtain ⟨a, vs, rfl, h1, h2, h3⟩ := rx.lsk_inv s
    exact ⟨_, vs.length, rfl, .inl ⟨vs, h1, rfl⟩, by rw [h3.len]; exact k _ fun _ _ => .int _⟩
  · cases q
    obtain ⟨a, vs, rfl, h1, h2, h3⟩ := rx.tup_inv s
    exact ⟨_, vs.length, rfl, .inr ⟨vs, h1, rfl⟩, by rw [h3.len]; exact k _ fun _ _ => .int _⟩
  · cases q
theorem ansC_abs : AnsC K mg (fun xs H Q => ∃ i, xs = [.int i] ∧ Q (.int (if i < 0 then -i else i)) H) pAbs := fun w x d z Q s rx q k => by
  unfold pAbs at q
  split at q
  · cases q; exact ⟨_, by rw [rx.int_inv], k _ fun _ _ => .int _⟩
  · cases q
theorem ansC_max : AnsC2 K mg (fun xs H Q => ∃ i j, xs = [.int i, .int j] ∧ Q (.int (if j > i then j else i)) H) pMax := fun w x y d e z Q s rx ry q k => by
  unfold pMax at q
  split at q
  · cases q; exact ⟨_, _, by rw [rx.int_inv, ry.int_inv], k _ fun _ _ => .int _⟩
  · cases q
theorem ansC_min : AnsC2 K mg (fun xs H Q => ∃ i j, xs = [.int i, .int j] ∧ Q (.int (if j < i then j else i)) H) pMin := fun w x y d e z Q s rx ry q k => by
  unfold pMin at q
  split at q
  · cases q; exact ⟨_, _, by rw [rx.int_inv, ry.int_inv], k _ fun _ _ => .int _⟩
  · cases q
theorem ansC_all : AnsC K mg (rAll K) pAll := fun w x d z Q s rx q k => by
  unfold pAll at q
  split at q
  · obtain ⟨bs, e, rfl⟩ := Option.map_eq_some_iff.mp q
    obtain ⟨a, vs, rfl, h1, h2, h3⟩ := rx.lst_inv s
    exact ⟨a, bs, rfl, by rw [← bools_reps h3 e]; exact SqL.of h1, k _ fun _ _ => .bl _⟩
  · cases q
theorem ansC_any : AnsC K mg (rAny K) pAny := fun w x d z Q s rx q k => by
  unfold pAny at q
  split at q
  · obtain ⟨bs, e, rfl⟩ := Option.map_eq_some_iff.mp q
    obtain ⟨a, vs, rfl, h1, h2, h3⟩ := rx.lst_inv s
    exact ⟨a, bs, rfl, by rw [← bools_reps h3 e]; exact SqL.of h1, k _ fun _ _ => .bl _⟩
  · cases q
end
@[simp] def pIx : D → D → Option D
  | .lst ds, .int i => atI ds i
  | .lsk ds, .int i => atI ds i
  | .tup ds, .int i => atI ds i
  | .str z, .int i => if z.length ≤ sizeLine then (atI z.cps.toList i).map fun c => .str ⟨#[c]⟩ else none
  | _, _ => none
section
variable {K : PySem.W.Frag} {mg : MG}
theorem Reps.atI {G : Hp} {ι : List Addr} {vs : List V} {ds : List D} {i : Int} {d : D} (r : Reps K mg G ι vs ds) (h : L2.atI ds i = some d) : ∃ v, L2.atI vs i = some v ∧ Rep K mg G ι v d := by
  unfold L2.atI at h ⊢
  rw [r.len]
  cases e : ixN ds.length i with
  | none => rw [e] at h; cases h
  | some j =>
    rw [e] at h
    obtain ⟨v, h1, h2⟩ := r.get h
    exact ⟨v, h1, h2⟩
theorem ans_ix (w : Ws) (x y : V) (d e z : D) (Q : VK) (s : Sts K mg w) (rx : RepV K mg w x d) (ry : RepV K mg w y e) (q : pIx d e = some z) (k : ∀ v, Rep K mg w.G w.ι v z → Q v w.H) : rIx K x y w.H Q := by
  unfold pIx at q
  split at q
  · obtain ⟨a, vs, rfl, h1, h2, h3⟩ := rx.lst_inv s
    obtain ⟨v, hv, rv⟩ := h3.atI q
    exact .inl ⟨a, vs, _, v, rfl, ry.int_inv, SqL.of h1, hv, k v rv⟩
  · obtain ⟨a, vs, rfl, h1, h2, h3⟩ := rx.lsk_inv s
    obtain ⟨v, hv, rv⟩ := h3.atI q
    exact .inl ⟨a, vs, _, v, rfl, ry.int_inv, h1, hv, k v rv⟩
  · obtain ⟨a, vs, rfl, h1, h2, h3⟩ := rx.tup_inv s
    obtain ⟨v, hv, rv⟩ := h3.atI q
    exact .inr (.inl ⟨a, vs, _, v, rfl, ry.int_inv, h1, hv, k v rv⟩)
  · split at q
    · rename_i hz
      obtain ⟨c, e, rfl⟩ := Option.map_eq_some_iff.mp q
      exact .inr (.inr ⟨_, _, c, rx.str_inv, ry.int_inv, hz, e, k _ (.str _)⟩)
    · cases q
  · cases q
end
section
variable {X : Cx} {W : WB} {a b : Expr} {f g : DEx} {p q : DPx} {pos : Pos}
theorem dp_ix (ha : DPv X a p) (hb : DP X b q) (hs : PlainIx b) : DP X (.Subscript a b pos) (plift2 pIx p q) := by
  obtain ⟨ta, pa, ra⟩ := ha
  obtain ⟨tb, pb, rb⟩ := hb
  refine ⟨_, pe_ix ix_seq pa pb hs, fun bb w Q z s h k => ?_⟩
  unfold plift2 at h
  split at h
  · rename_i d e h1 h2
    exact ra bb w _ d s h1 fun x rx => rb bb w _ e s h2 fun y ry => ans_ix w x y d e z Q s rx (.inl ry) h k
  · cases h
theorem de_ix (ha : DE X W a f) (hb : DE X W b g) (hs : PlainIx b) : DE X W (.Subscript a b pos) (lift2 pIx f g) := by
  obtain ⟨ta, pa, ra⟩ := ha
  obtain ⟨tb, pb, rb⟩ := hb
  refine ⟨_, pe_ix ix_seq pa pb hs, fun w Q s h => ?_⟩
  refine ra.bindR (Q := Q) s h fun w1 x d s1 e1 a1 r1 h1 => ?_
  show tb w.σ w1.H _
  rw [← e1]
  refine rb.bindR (Q := Q) s1 h1 fun w2 y e s2 e2 a2 r2 h2 => ?_
  cases z : pIx d e with
  | none => simp only [z] at h2; exact h2.elim
  | some y' =>
    simp only [z] at h2
    exact ans_ix w2 x y d e y' Q s2 (.inl (r1.mono a2.g a2.i)) (.inl r2) z fun v rv => h2 w2 v rfl rfl rfl (Aft.refl s2) rv
end
def cutD (ds : List D) (lo hi : Option Int) : List D := (ds.drop (HT.sIx ds.length 0 lo)).take (HT.sIx ds.length ds.length hi - HT.sIx ds.length 0 lo)
theorem Reps.cut {K : PySem.W.Frag} {mg : MG} {G : Hp} {ι : List Addr} {vs : List V} {ds : List D} (lo hi : Option Int) (r : Reps K mg G ι vs ds) : Reps K mg G ι (cutV vs lo hi) (cutD ds lo hi) := by
  unfold cutV cutD
  rw [r.len]
  exact (r.drop _).take _
@[simp] def bdN (ρ : En) (st : Store) : R := .ok .non ρ st
@[simp] def bd : D → Option (Option Int)
  | .non => some none
  | .int i => some (some i)
  | _ => none
def RefB (K : PySem.W.Frag) (mg : MG) (W : WB) (t : TO) (f : DEx) : Prop := ∀ (w : Ws) (Q : Option Int → Hp → Prop) (P : R → Prop) (r : D → En → Store → R), Sts K mg w → P ((f w.ρ w.st).bind r) →
  (∀ c ρ st, P (.exc c ρ st) → ∀ (w' : Ws) (cls : Value) (dx : Option Addr), w'.ρ = ρ → w'.st = st → w'.σ = w.σ → Aft K mg w w' → ExcAt K mg w' c cls dx → W cls dx w'.σ w'.H) → (P .bad → False) → (∀ d ρ st, bd d = none → r d ρ st = .bad) →
  (∀ (w1 : Ws) (d : D) (b : Option Int), bd d = some b → w1.σ = w.σ → Aft K mg w w1 → P (r d w1.ρ w1.st) → Q b w1.H) → t w.σ w.H Q
def DB (X : Cx) (W : WB) (e : Option Expr) (f : DEx) : Prop := ∃ t, PO X e t ∧ RefB X.K (MGx X W.b) W t f
theorem db_none {X : Cx} {W : WB} : DB X W none bdN := ⟨_, po_none, fun w Q P r s h hx hb hd k => k w .non none rfl rfl (Aft.refl s) h⟩
@[simp] def bdS (f : DEx) (ρ : En) (st : Store) : R := (f ρ st).bind fun d ρ st => match d with
  | .int i => .ok (.int i) ρ st
  | _ => .bad
theorem db_some {X : Cx} {W : WB} {e : Expr} {f : DEx} (h : DE X W e f) : DB X W (some e) (bdS f) := by
  obtain ⟨t, p, rf⟩ := h
  refine ⟨_, po_some p, fun w Q P r s h hx hb hd k => ?_⟩
  refine rf w _ s ?_
  unfold bdS at h
  cases e : f w.ρ w.st with
  | ok d ρ st =>
    rw [e] at h
    intro w' v h1 h2 h3 A rv
    subst h1; subst h2
    cases d with
    | int i => exact ⟨i, rv.int_inv, k w' _ _ rfl h3 A h⟩
    | _ => exact (hb h).elim
  | exc c ρ st => rw [e] at h; exact hx _ _ _ h
  | bad => rw [e] at h; exact (hb h).elim
@[simp] def lkD (st : Store) : D → D
  | .ref l => match st[l]? with
    | some (.lst ds) => .lst ds
    | some (.dct ds) => .dct ds
    | _ => .ref l
  | d => d
theorem lk_repV {K : PySem.W.Frag} {mg : MG} {w : Ws} {v : V} {d : D} (s : Sts K mg w) (r : Rep K mg w.G w.ι v d) : RepV K mg w v (lkD w.st d) := by
  cases d with
  | ref l =>
    simp only [lkD]
    cases r with
    | ref hi =>
      rename_i a
      cases hst : w.st[l]? with
      | none => exact .inl (.ref hi)
      | some c =>
        cases c with
        | lst ds =>
          obtain ⟨_, vs, h, hl, rs⟩ := s.cel l _ a hst hi
          exact .inr (.inl ⟨a, vs, ds, rfl, rfl, h, hl, rs⟩)
        | dct ds =>
          obtain ⟨_, vs, h, rs⟩ := s.cel l _ a hst hi
          exact .inr (.inr ⟨a, vs, ds, rfl, rfl, h, rs⟩)
        | ins c fs => exact .inl (.ref hi)
        | dead => exact .inl (.ref hi)
        | tab q nm => exact .inl (.ref hi)
  | _ => exact .inl r
@[simp] def slX (k : D → Option Int → Option Int → Option D) (f l h : DEx) (ρ : En) (st : Store) : R := (f ρ st).bind fun d ρ st => (l ρ st).bind fun lo ρ st => match bd lo with
  | some lo => (h ρ st).bind fun hi ρ st => (match bd hi with
    | some hi => (match k (lkD st d) lo hi with
      | some z => .ok z ρ st
      | none => .bad)
    | none => .bad)
  | none => .bad
@[simp] def kSlT : D → Option Int → Option Int → Option D
  | .tup ds, lo, hi => if HT.sIx ds.length 0 lo = 0 ∧ HT.sIx ds.length ds.length hi = ds.length then some (.tup ds) else some (.tup (cutD ds lo hi))
  | _, _, _ => none
theorem cutD_len (ds : List D) (lo hi : Option Int) : (cutD ds lo hi).length ≤ ds.length := by
  unfold cutD; simp; omega
section
variable {X : Cx} {W : WB} {e : Expr} {lo hi : Option Expr} {f l h : DEx} {p2 pos : Pos}
theorem ref_sl {K : PySem.W.Frag} {mg : MG} {k : D → Option Int → Option Int → Option D} {r : V → Option Int → Option Int → Hp → VK → Prop} {te : TE} {tl th : TO} {w : Ws} {Q : VK} {P : R → Prop} (s : Sts K mg w)
    (re : RefE K mg W te f) (rl : RefB K mg W tl l) (rh : RefB K mg W th h) (q : P (slX k f l h w.ρ w.st))
    (hx : ∀ c ρ st, P (.exc c ρ st) → ∀ (w' : Ws) (cls : Value) (dx : Option Addr), w'.ρ = ρ → w'.st = st → w'.σ = w.σ → Aft K mg w w' → ExcAt K mg w' c cls dx → W cls dx w'.σ w'.H) (hb : P .bad → False)
    (hr : ∀ (w3 : Ws) (v : V) (d z : D) (lo hi : Option Int), w3.σ = w.σ → Aft K mg w w3 → RepV K mg w3 v d → k d lo hi = some z → P (.ok z w3.ρ w3.st) → r v lo hi w3.H Q) : tSl r te tl th w.σ w.H Q := by
  refine re.bind (P := P) s q hx hb fun w1 v d e1 a1 r1 q1 => ?_
  show tl w.σ w1.H _
  rw [← e1]
  refine rl w1 _ P _ a1.s q1 (fun c ρ st z w' cls dx h1 h2 h3 A x => hx c ρ st z w' cls dx h1 h2 (h3.trans e1) (a1.trans A) x) hb (fun d' ρ st hb => by simp only [hb]) fun w2 dl bl hbl e2 a2 q2 => ?_
  simp only [hbl] at q2
  rw [← e2]
  have a12 := a1.trans a2
  have e12 := e2.trans e1
  refine rh w2 _ P _ a2.s q2 (fun c ρ st z w' cls dx h1 h2 h3 A x => hx c ρ st z w' cls dx h1 h2 (h3.trans e12) (a12.trans A) x) hb (fun d' ρ st hb => by simp only [hb]) fun w3 dh bh hbh e3 a3 q3 => ?_
  simp only [hbh] at q3
  cases z : k (lkD w3.st d) bl bh with
  | none => simp only [z] at q3; exact (hb q3).elim
  | some y =>
    simp only [z] at q3
    exact hr w3 v _ y bl bh (e3.trans e12) (a12.trans a3) (lk_repV a3.s (r1.mono (a2.g.trans a3.g) (a2.i.trans a3.i))) z q3
end
end DL
namespace DL
open PySem L2
abbrev MutK := List D → List D → Option (List D × D)
@[simp] def mutAt (i : Nat) (k : MutK) (args : List D) (ρ : En) (st : Store) : R := match ρ[i]? with
  | some (.ml ds) => (match k ds args with
    | some (ds', z) => .ok z (ρ.set i (.ml ds')) st
    | none => .bad)
  | some (.val (.ref l)) => (match st[l]? with
    | some (.lst ds) => (match k ds args with
      | some (ds', z) => .ok z ρ (st.set l (.lst ds'))
      | none => .bad)
    | _ => .bad)
  | _ => .bad
@[simp] def holdsL (i : Nat) (ρ : En) (st : Store) : Bool := match ρ[i]? with
  | some (.ml _) => true
  | some (.val (.ref l)) => (match st[l]? with
    | some (.lst _) => true
    | _ => false)
  | _ => false
@[simp] def mutD (i : Nat) (k : MutK) (f : DEx) (ρ : En) (st : Store) : R := match holdsL i ρ st with
  | true => (f ρ st).bind fun d ρ st => (match d with
    | .tup args => mutAt i k args ρ st
    | _ => .bad)
  | false => .bad
def AnsM (K : PySem.W.Frag) (mg : MG) (r : V → List V → Hp → VK → Prop) (k : MutK) : Prop :=
  ∀ (G H : Hp) (ι : List Addr) (a : Addr) (vs xs : List V) (ds args ds' : List D) (z : D) (Q : VK), H a = some (.lst vs) → vs.length ≤ sizeLine → Reps K mg G ι vs ds → Reps K mg G ι xs args → k ds args = some (ds', z) →
    (∀ vs' v, vs'.length ≤ sizeLine → Reps K mg G ι vs' ds' → Rep K mg G ι v z → Q v (upd H a (.lst vs'))) → r (.ref a) xs H Q
section
variable {K : PySem.W.Frag} {mg : MG} {W : WB}
theorem mutAt_inv {w : Ws} {i : Nat} {k : MutK} {args : List D} {Q : VK} (s : Sts K mg w) (q : OkR K mg W w Q (mutAt i k args w.ρ w.st)) : ∃ a vs ds ds' z, w.σ[i]? = some (some (.ref a)) ∧ w.H a = some (.lst vs) ∧ vs.length ≤ sizeLine ∧ Reps K mg w.G w.ι vs ds ∧ k ds args = some (ds', z) ∧
    ∀ vs' v, vs'.length ≤ sizeLine → Reps K mg w.G w.ι vs' ds' → Rep K mg w.G w.ι v z → Q v (upd w.H a (.lst vs')) := by
  unfold mutAt at q
  split at q
  · rename_i ds e
    split at q
    · rename_i ds' z hk
      obtain ⟨a, vs, e1, e2, e3, e4, e5⟩ := s.slo i _ e
      refine ⟨a, vs, ds, ds', z, e1, e3, e4, e5, hk, fun vs' v hz r rv => ?_⟩
      exact q { w with ρ := w.ρ.set i (.ml ds'), H := upd w.H a (.lst vs') } v rfl rfl rfl (Aft.mutMl s e e1 hz r) rv
    · exact q.elim
  · rename_i l e
    split at q
    · rename_i ds hl
      split at q
      · rename_i ds' z hk
        obtain ⟨v0, e1, r0⟩ := s.slo i _ e
        cases r0 with
        | ref ha =>
          rename_i a
          obtain ⟨ga, vs, e3, e4, e5⟩ := s.cel l _ a hl ha
          refine ⟨a, vs, ds, ds', z, e1, e3, e4, e5, hk, fun vs' v hz r rv => ?_⟩
          exact q { w with H := upd w.H a (.lst vs'), st := w.st.set l (.lst ds') } v rfl rfl rfl (Aft.mutCell s hl (by simp) ha (by simp) ⟨ga, vs', upd_same, hz, r⟩) rv
      · exact q.elim
    · exact q.elim
  · exact q.elim
theorem holdsL_inv {w : Ws} {i : Nat} (s : Sts K mg w) (h : holdsL i w.ρ w.st = true) : ∃ a vs, w.σ[i]? = some (some (.ref a)) ∧ w.H a = some (.lst vs) := by
  unfold holdsL at h
  split at h
  · rename_i ds e
    obtain ⟨a, vs, e1, e2, e3, e4, e5⟩ := s.slo i _ e
    exact ⟨a, vs, e1, e3⟩
  · rename_i l e
    split at h
    · rename_i ds hl
      obtain ⟨v0, e1, r0⟩ := s.slo i _ e
      cases r0 with
      | ref ha =>
        rename_i a
        obtain ⟨ga, vs, e3, e4, e5⟩ := s.cel l _ a hl ha
        exact ⟨a, vs, e1, e3⟩
    · cases h
  · cases h
theorem refE_mut {t : TA} {f : DEx} {i : Nat} {k : MutK} {r : V → List V → Hp → VK → Prop} (ha : RefA K mg W t f) (hr : AnsM K mg r k) : RefE K mg W (tBM K "list" r (tVar i) t) (mutD i k f) := fun w Q s q => by
  unfold mutD at q
  split at q
  · rename_i hh
    obtain ⟨a, vs, e1, e2⟩ := holdsL_inv s hh
    refine ⟨_, e1, .inl ⟨rfl, vs, .inl (.inl e2)⟩, ?_⟩
    refine ha.bind (P := OkR K mg W w Q) s q (fun d ρ st n => by cases d <;> first | rfl | exact absurd rfl (n _)) (fun _ _ _ z => z) (fun z => z) fun w1 xs args e3 a1 r1 _ q1 => ?_
    obtain ⟨a', vs', ds, ds', z, h1, h2, h3, h4, h5, h6⟩ := mutAt_inv a1.s (OkR.aft q1 a1 e3)
    rw [e3, e1] at h1
    cases h1
    exact hr w1.G w1.H w1.ι a vs' xs ds args ds' z Q h2 h3 h4 r1 h5 h6
  · exact q.elim
end
@[simp] def kApp : MutK := fun ds args => match args with
  | [d] => if ds.length < sizeLine then some (ds ++ [d], .non) else none
  | _ => none
@[simp] noncomputable def kPopAt : MutK := fun ds args => match args with
  | [.int i] => if Rs i then (match seqIndex? i ds.length with
    | some k => (match ds[k]? with
      | some d => some (ds.eraseIdx k, d)
      | none => none)
    | none => none) else none
  | _ => none
section
variable {K : PySem.W.Frag} {mg : MG}
theorem ansM_app : AnsM K mg rAppend kApp := fun G H ι a vs xs ds args ds' z Q h hz r rx hk q => by
  unfold kApp at hk
  split at hk
  · split at hk
    · rename_i d hl
      cases hk
      obtain ⟨v, rfl, rv⟩ := rx.inv1
      refine ⟨a, vs, v, rfl, rfl, h, by rw [r.len]; exact hl, q _ .non ?_ (r.append (.cons rv .nil)) .non⟩
      simp [r.len]; omega
    · cases hk
  · cases hk
theorem ansM_popAt : AnsM K mg rPopAt kPopAt := fun G H ι a vs xs ds args ds' z Q h hz r rx hk q => by
  unfold kPopAt at hk
  split at hk
  · split at hk
    · rename_i i hb
      split at hk
      · rename_i k hi
        split at hk
        · rename_i d hd
          cases hk
          obtain ⟨v0, rfl, rv0⟩ := rx.inv1
          obtain ⟨v, hv, rv⟩ := r.get hd
          refine ⟨a, vs, i, k, v, rfl, by rw [rv0.int_inv], h, hb.1, hb.2, by rw [r.len]; exact hi, hv, q _ v ?_ (r.eraseIdx k) rv⟩
          rw [List.length_eraseIdx]; split <;> omega
        · cases hk
      · cases hk
    · cases hk
  · cases hk
end
section
variable {X : Cx} {W : WB} {o e : Expr} {es : List Expr} {f : DEx} {name x : Str} {np apos cpos : Pos} {id : String} {r : V → List V → Hp → VK → Prop} {k : MutK} {i : Nat}
theorem de_mut (slot : Slot "list" name id) (hty : typeOf (.builtin id) = pure (.type "method_descriptor")) (hm : MtR X id r) (hr : AnsM X.K (MGx X W.b) r k) (ha : DAn X W (e :: es) f)
    (hN : X.N[i]? = some x := by rfl) (hv : Vis X.env.scope x := by first | exact Or.inl rfl | exact Or.inr (Or.inl rfl) | exact Or.inr (Or.inr rfl)) (hd : (x == ("__debug__" : Str)) = false := by decide) (hcd : (x == ("__classdict__" : Str)) = false := by decide)
    (hbase : attributeBase (.Name x np) name X.env (eval (.Name x np) X.env) = eval (.Name x np) X.env := by rfl)
    (hfew : ((backTo cpos (starEach (e :: es) X.env)).all (fun x => !x.1) && (backToKw cpos (keywordEach [] X.env)).all (fun x => x.1.isSome)
      && decide ((e :: es).length + ([] : List Keyword).length + (if ([] : List Keyword).isEmpty then 0 else 1) < 30)) = true := by rfl)
    (hline : (apos.endLine == cpos.line) = true := by rfl) (hs : starEach (e :: es) X.env = (false, eval e X.env) :: starEach es X.env := by rfl) (hplain : (backTo cpos (starEach es X.env)).any (·.1) = false := by rfl) :
    DE X W (.Call (.Attribute (.Name x np) name apos) (e :: es) [] cpos) (mutD i k f) := by
  obtain ⟨⟨t, pt, rt⟩, _⟩ := ha
  exact ⟨_, pe_bm PySem.F.plainAttrs_list slot hty hm (pv i hN hv hd hcd) pt hbase hfew hline hs hplain, refE_mut rt hr⟩
end
end DL
namespace DL
open PySem L2
@[simp] def kSet (j : D) : MutK := fun ds args => match args, j with
  | [d], .int k => (match ixN ds.length k with
    | some n => some (ds.set n d, .non)
    | none => none)
  | _, _ => none
@[simp] def subSetD (i : Nat) (p : DPx) (f : DEx) (ρ0 : En) (st0 : Store) : Fl := thenF f (fun d ρ st => match p ρ st with
  | some j => (match mutAt i (kSet j) [d] ρ st with
    | .ok _ ρ st => .nx ρ st
    | _ => .bad)
  | none => .bad) ρ0 st0
section
variable {X : Cx} {W : WB} {e j : Expr} {f : DEx} {p : DPx} {x : Str} {np pos tpos : Pos} {i : Nat}
theorem ds_sub (he : DE X W e f) (hj : DP X j p)
    (hN : X.N[i]? = some x := by rfl) (hv : Vis X.env.scope x := by first | exact Or.inl rfl | exact Or.inr (Or.inl rfl) | exact Or.inr (Or.inr rfl)) (hd : (x == ("__debug__" : Str)) = false := by decide) (hcd : (x == ("__classdict__" : Str)) = false := by decide)
    (ha : ∀ v, assign (.Subscript (.Name x np) j tpos) X.env v = (do
      let ov ← holding [v] (eval (.Name x np) X.env)
      let iv ← holding [v, ov] (eval j X.env)
      standAt tpos
      holding [v, ov, iv] (setItem ov iv v)
      release [v, ov, iv] []) := by intro _; rfl)
    (hs : swapsWithSole [.Subscript (.Name x np) j tpos] e pos.line X.env = pure false := by rfl) (hw : swappedStores [.Subscript (.Name x np) j tpos] e X.env = pure none := by rfl)
    (h1 : (assignEach [.Subscript (.Name x np) j tpos] X.env).map (·.2) = [assign (.Subscript (.Name x np) j tpos) X.env] := by rfl) : DS X W (.Assign [.Subscript (.Name x np) j tpos] e pos) (subSetD i p f) := by
  obtain ⟨te, pe, re⟩ := he
  obtain ⟨tj, pj, rj⟩ := hj
  refine ⟨_, ps_asg pe (pg_sub (pv i hN hv hd hcd) pj set_list ha) hs hw h1, fun w E s q => ?_⟩
  refine re.bindF s q fun w1 v d s1 e1 a1 r1 q1 => ?_
  cases z : p w1.ρ w1.st with
  | none => simp only [z] at q1; exact q1.elim
  | some jd =>
    simp only [z] at q1
    have q2 : OkR X.K (MGx X W.b) W w1 (fun _ H => E.nx w1.σ H) (mutAt i (kSet jd) [d] w1.ρ w1.st) := by
      cases y : mutAt i (kSet jd) [d] w1.ρ w1.st with
      | ok d' ρ st =>
        rw [y] at q1
        intro w' v h1 h2 h3 A r
        have := q1 w' h1 h2 A
        rw [h3] at this; exact this
      | exc c ρ st => rw [y] at q1; exact q1.elim
      | bad => rw [y] at q1; exact q1.elim
    obtain ⟨a, vs, ds, ds', y, h1, h2, h3, h4, h5, h6⟩ := mutAt_inv s1 q2
    show gSub (tVar i) tj rSetL v w.σ w1.H E.nx
    refine ⟨.ref a, by rw [← e1]; exact h1, ?_⟩
    rw [← e1]
    refine rj _ w1 _ jd s1 z fun vj rvj => ?_
    unfold kSet at h5
    split at h5
    · split at h5
      · rename_i n hn
        cases h5
        rename_i heq _
        cases heq
        refine ⟨a, vs, _, n, rfl, rvj.int_inv, h2, by rw [h4.len]; exact hn, ?_⟩
        exact h6 (vs.set n v) .non (by simpa using h3) (h4.set r1 n) .non
      · cases h5
    · cases h5
end
@[simp] def kOf : D → Option (List D)
  | .lst ds => some ds
  | .tup ds => some ds
  | .lsk ds => some ds
  | _ => none
@[simp] def listD (f : DEx) (ρ : En) (st : Store) : R := (f ρ st).bind fun d ρ st => match kOf d with
  | some ds => .ok (.lst ds) ρ st
  | none => .bad
@[simp] def tupleD (f : DEx) (ρ : En) (st : Store) : R := (f ρ st).bind fun d ρ st => match kOf d with
  | some ds => .ok (.tup ds) ρ st
  | none => .bad
theorem listD_isL {f : DEx} : IsL (listD f) := fun ρ st d ρ' st' h => by
  unfold listD at h
  cases e : f ρ st with
  | ok d1 ρ1 st1 =>
    rw [e] at h
    simp only [R.bind] at h
    split at h
    · cases h; exact ⟨_, rfl⟩
    · cases h
  | exc c ρ1 st1 => rw [e] at h; cases h
  | bad => rw [e] at h; cases h
theorem RepV.seq {K : PySem.W.Frag} {mg : MG} {w : Ws} {v : V} {d : D} {ds : List D} (s : Sts K mg w) (h : RepV K mg w v d) (k : kOf d = some ds) : ∃ a vs, v = .ref a ∧ (SqL K w.H a vs ∨ SqT K w.G a vs) ∧ vs.length ≤ sizeLine ∧ Reps K mg w.G w.ι vs ds := by
  cases d with
  | lst es => cases k; obtain ⟨a, vs, e, h1, h2, h3⟩ := h.lst_inv s; exact ⟨a, vs, e, .inl (SqL.of h1), h2, h3⟩
  | lsk es => cases k; obtain ⟨a, vs, e, h1, h2, h3⟩ := h.lsk_inv s; exact ⟨a, vs, e, .inl h1, h2, h3⟩
  | tup es =>
    cases k
    rcases h with h | ⟨a, vs, ds, rfl, e, h1, h2, h3⟩ | ⟨a, vs, ds, _, e, _⟩
    · cases h with
      | tup h l r => exact ⟨_, _, rfl, .inr h, l, r⟩
    · cases e
    · cases e
  | _ => cases k
theorem RefV.bindO {K : PySem.W.Frag} {mg : MG} {W : WB} {t : TE} {f : DEx} (h : RefV K mg W t f) {w : Ws} {Q Q1 : VK} {r : D → En → Store → R} (s : Sts K mg w) (hP : OkO K mg W w Q ((f w.ρ w.st).bind r))
    (k : ∀ (w1 : Ws) (v : V) (d : D), w1.σ = w.σ → Aft K mg w w1 → RepV K mg w1 v d → OkO K mg W w Q (r d w1.ρ w1.st) → Q1 v w1.H) : t w.σ w.H Q1 :=
  h.bind (P := OkO K mg W w Q) s hP (fun _ _ _ z => z) (fun z => z) fun w1 v d e a rp q => k w1 v d e a rp q
section
variable {X : Cx} {W : WB} {e e2 a b : Expr} {f g : DEx} {p pos : Pos}
theorem do_list (hg : Gl X "list") (hm : X.mg "list" = none) (ha : DV X W e f) (he : starEach [e] X.env = (false, eval e X.env) :: starEach [] X.env := by rfl) (hpl : (backTo pos (starEach [] X.env)).any (·.1) = false := by rfl) : DO X W (.Call (.Name "list" p) [e] [] pos) (listD f) := by
  obtain ⟨te, pe, re⟩ := ha
  refine ⟨⟨_, pe_callTy call_list_of hg hm (by decide +kernel) (pa_cons pe pa_nil he) (by decide) (by decide) he hpl, fun w Q s q => ?_⟩, listD_isL⟩
  refine re.bindO s q fun w1 v d e1 a1 r1 q1 => ?_
  cases z : kOf d with
  | none => simp only [z] at q1; exact q1.elim
  | some ds =>
    simp only [z] at q1
    obtain ⟨a, vs, rfl, h1, h2, h3⟩ := r1.seq a1.s z
    refine ⟨a, vs, rfl, ?_, fun l hl => OkO.mk a1 e1 hl h2 h3 q1⟩
    rcases h1 with h1 | h1
    · exact .inl h1
    · exact .inr (SqT.mono a1.s.sub h1)
theorem de_tuple (hg : Gl X "tuple") (hm : X.mg "tuple" = none) (ha : DV X W e f) (he : starEach [e] X.env = (false, eval e X.env) :: starEach [] X.env := by rfl) (hpl : (backTo pos (starEach [] X.env)).any (·.1) = false := by rfl) : DE X W (.Call (.Name "tuple" p) [e] [] pos) (tupleD f) := by
  obtain ⟨te, pe, re⟩ := ha
  refine ⟨_, pe_callTy call_tuple_of hg hm (by decide +kernel) (pa_cons pe pa_nil he) (by decide) (by decide) he hpl, fun w Q s q => ?_⟩
  refine re.bindR (Q := Q) s q fun w1 v d s1 e1 a1 r1 q1 => ?_
  cases z : kOf d with
  | none => simp only [z] at q1; exact q1.elim
  | some ds =>
    simp only [z] at q1
    obtain ⟨a, vs, rfl, h1, h2, h3⟩ := r1.seq s1 z
    refine ⟨a, vs, rfl, ?_⟩
    rcases h1 with h1 | h1
    · refine .inl ⟨h1, fun l hl => ?_⟩
      have A := Aft.alloc (o := .tup vs) s1 hl
      exact q1 { w1 with G := upd w1.G l (.tup vs), H := upd w1.H l (.tup vs) } (.ref l) rfl rfl rfl A (.tup (.inl (.inl upd_same)) h2 (h3.mono A.g A.i))
    · exact .inr ⟨SqT.mono s1.sub h1, q1 w1 _ rfl rfl rfl (Aft.refl s1) (.tup h1 h2 h3)⟩
theorem RefE.bindO {K : PySem.W.Frag} {mg : MG} {t : TE} (h : RefE K mg W t f) {w w0 : Ws} {Q Q1 : VK} {r : D → En → Store → R} (s : Sts K mg w) (a0 : Aft K mg w0 w) (e0 : w.σ = w0.σ) (hP : OkO K mg W w0 Q ((f w.ρ w.st).bind r))
    (k : ∀ (w1 : Ws) (v : V) (d : D), w1.σ = w0.σ → Aft K mg w w1 → Aft K mg w0 w1 → Rep K mg w1.G w1.ι v d → OkO K mg W w0 Q (r d w1.ρ w1.st) → Q1 v w1.H) : t w.σ w.H Q1 :=
  h.bind (P := OkO K mg W w0 Q) s hP (fun c ρ st z w' cls dx h1 h2 h3 A x => z w' cls dx h1 h2 (h3.trans e0) (a0.trans A) x) (fun z => z) fun w1 v d e a rp q => k w1 v d (e.trans e0) a (a0.trans a) rp q
theorem Reps.rep {K : PySem.W.Frag} {mg : MG} {G : Hp} {ι : List Addr} {vs : List V} {ds : List D} (r : Reps K mg G ι vs ds) : ∀ n : Nat, Reps K mg G ι (List.replicate n vs).flatten (List.replicate n ds).flatten
  | 0 => .nil
  | n + 1 => by simpa [List.replicate_succ] using r.append (Reps.rep r n)
@[simp] def strL : List D → Option (List Str)
  | [] => some []
  | .str x :: ds => (strL ds).map (x :: ·)
  | _ :: _ => none
theorem strL_reps {K : PySem.W.Frag} {mg : MG} {G : Hp} {ι : List Addr} : ∀ {vs : List V} {ds : List D} {bs : List Str}, Reps K mg G ι vs ds → strL ds = some bs → vs = bs.map V.str
  | _, [], _, .nil, h => by cases h; rfl
  | _, d :: ds, bs, .cons r rs, h => by
    cases d with
    | str b =>
      obtain ⟨bs', e, rfl⟩ := Option.map_eq_some_iff.mp h
      rw [r.str_inv, strL_reps rs e]; rfl
    | _ => simp [strL] at h
end
end DL
namespace DL
open PySem L2
@[simp] def tyD : D → Option String
  | .non => some "NoneType"
  | .bl _ => some "bool"
  | .int _ => some "int"
  | .str _ => some "str"
  | .tup _ => some "tuple"
  | .lst _ => some "list"
  | .lsk _ => some "list"
  | .dct _ => some "dict"
  | .dlk _ => some "dict"
  | _ => none
theorem RepV.ty {K : PySem.W.Frag} {mg : MG} {w : Ws} {v : V} {d : D} {n : String} (s : Sts K mg w) (h : RepV K mg w v d) (k : tyD d = some n) : TyX K w.H v (.type n) := by
  have h' := h.h s
  clear h
  cases h' with
  | non => cases k; exact .base .non
  | bl b => cases k; exact .base (.bl b)
  | int i => cases k; exact .base (.int i)
  | str x => cases k; exact .base (.str x)
  | lst q l r => cases k; exact .base (.lst q)
  | lsk q l r =>
    cases k
    rcases q with (q | ⟨o, q⟩) | ⟨o, its, n, q1, q2, _⟩
    · exact .base (.lst q)
    · exact .base (.frz q)
    · exact .kList q1 q2
  | tup q l r =>
    cases k
    rcases q with (q | ⟨o, q⟩) | ⟨o, its, n, q1, q2, _⟩
    · exact .base (.tup q)
    · exact .fTuple q
    · exact .kTuple q1 q2
  | dct q r =>
    cases k
    rcases q with q | ⟨o, q⟩
    · exact .base (.dK q)
    · exact .fDict q
  | dlk q r => cases k; exact .fDict q
  | ins _ _ _ _ => cases k
  | ref _ => cases k
  | glb _ _ => cases k
  | typ _ => cases k
@[simp] def pIsi (T : String) (d : D) : Option D := match tyD d with
  | some n => (kitB n T).map .bl
  | none => none
section
variable {X : Cx} {W : WB} {e : Expr} {es : List Expr} {f : DEx} {p np tpos pos : Pos} {x : Str} {T : String} {Ts : List String}
theorem de_isi (hg : Gl X "isinstance") (hm : X.mg "isinstance" = none) (hgT : Gl X x) (hmT : X.mg x = none) (hvT : bootBuiltins x = some (.type T)) (ha : DV X W e f) (hn : x ≠ "__name__" := by decide) (hdb : (x == ("__debug__" : Str)) = false := by decide)
    (he : starEach [e, .Name x np] X.env = (false, eval e X.env) :: starEach [.Name x np] X.env := by rfl) (he2 : starEach [.Name x np] X.env = (false, eval (.Name x np) X.env) :: starEach [] X.env := by rfl) (hpl : (backTo pos (starEach [.Name x np] X.env)).any (·.1) = false := by rfl) :
    DE X W (.Call (.Name "isinstance" p) [e, .Name x np] [] pos) (lift1 (pIsi T) f) := by
  obtain ⟨te, pe, re⟩ := ha
  refine ⟨_, pe_callB call_isi hg hm (by decide +kernel) (pa_cons pe (pa_cons (pe_bltn (v := .ty T) hgT hmT hvT rfl hn hdb) pa_nil he2) he) (by decide) (by decide) he hpl, fun w Q s q => ?_⟩
  refine re.bindR (Q := Q) s q fun w1 v d s1 e1 a1 r1 q1 => ?_
  cases z : pIsi T d with
  | none => simp only [z] at q1; exact q1.elim
  | some y =>
    simp only [z] at q1
    unfold pIsi at z
    split at z
    · rename_i n hn
      obtain ⟨b, hb, rfl⟩ := Option.map_eq_some_iff.mp z
      exact ⟨v, .ty T, .type n, .type T, b, rfl, .ty T, r1.ty s1 hn, kit_ty hb, q1 w1 _ rfl rfl rfl (Aft.refl s1) (.bl _)⟩
    · cases z
end
def leD (d e : D) : Bool := PySem.W.dataLe false (fun d : D => d.py.getD .none) d e
def sortOk (ds : List D) : Prop := ∃ ps, pyAll ds = some ps ∧ PySem.W.AllAlike ps ∧ PySem.W.Sortable ps ∧ ∀ p ∈ ps, p.depth ≤ 64
def rSortD (K : PySem.W.Frag) : List V → Hp → VK → Prop := fun xs H Q => ∃ (a : Addr) (zs : List (V × PyData)), xs = [.ref a] ∧ SqL K H a (zs.map (·.1)) ∧ DpAll K H (zs.map (·.1)) (zs.map (·.2)) ∧ PySem.W.AllAlike (zs.map (·.2)) ∧ PySem.W.Sortable (zs.map (·.2)) ∧ (∀ z ∈ zs, z.2.depth ≤ 64) ∧
  ∀ l, H l = none → Q (.ref l) (upd H l (.lst ((zs.mergeSort (PySem.W.dataLe false (·.2))).map (·.1))))
section
variable {X : Cx} {pins : List (Addr × Obj)} {σ : L2.St} {H : Hp} {s : Shared}
theorem each_rel : ∀ {zs : List (V × PyData)} {us : List Value}, Vals (zs.map (·.1)) us → PySem.W.EachIs (fun u (z : V × PyData) => RelV z.1 u) us zs
  | [], [], _ => .nil
  | z :: zs, u :: us, h => by
    cases h with
    | cons r t => exact .cons r (each_rel t)
  | [], _ :: _, h => by cases h
  | _ :: _, [], h => by cases h
theorem rel_each : ∀ {zs : List (V × PyData)} {us : List Value}, PySem.W.EachIs (fun u (z : V × PyData) => RelV z.1 u) us zs → Vals (zs.map (·.1)) us
  | _, _, .nil => .nil
  | _, _, .cons r t => .cons r (rel_each t)
theorem each_reads (I : Inv X pins σ H s) : ∀ {zs : List (V × PyData)} {us : List Value}, DpAll X.K H (zs.map (·.1)) (zs.map (·.2)) → Vals (zs.map (·.1)) us → PySem.W.EachIs (fun u (z : V × PyData) => ∃ as, Reads s.heap u z.2 as) us zs
  | [], [], _, _ => .nil
  | z :: zs, u :: us, d, h => by
    cases h with
    | cons r t =>
      cases d with
      | cons d ds => exact .cons (Dp.reads I _ _ _ d r) (each_reads I ds t)
  | [], _ :: _, _, h => by cases h
  | _ :: _, [], _, h => by cases h
theorem cr_sortD (hu : X.A.units + 80 < cLine) : CallR X (.builtin "sorted") (rSortD X.K) := by
  intro pins s σ H xs us Q I r h
  obtain ⟨a, zs, rfl, hs, hd, hal, hso, hdp, q⟩ := h
  obtain ⟨u, rfl, ru⟩ := vals1 r
  cases ru
  obtain ⟨its, rv, pl, hz⟩ := I.list hs
  have hlen : zs.length ≤ sizeLine := by simpa using hz
  refine PySem.W.sorted_data (R := fun u (z : V × PyData) => RelV z.1 u) (enc := fun z : V × PyData => z.2) (bs := zs) pl.isList (each_rel rv) (each_reads I hd rv) hal hso hlen (fun z hz => by have := hdp z hz; omega) fun out ho eo => ?_
  obtain ⟨c, hc⟩ := PyProof.Rows.sortedAll_at s.heap its out.toArray
  have kp : ∀ b o, s.heap.get? b = some o → (PyProof.Rows.sortedAll s.heap its out.toArray).get? b = some o := fun _ _ => PyProof.Rows.sortedAll_old
  have hn : H (s.heap.objs.size + 1) = none := I.hok.fresh (Nat.le_succ _)
  have hl : ((zs.mergeSort (PySem.W.dataLe false (·.2))).map (·.1)).length ≤ sizeLine := by simpa using hlen
  exact ⟨.ref (s.heap.objs.size + 1), _, I.laid (t' := s.toks) kp (Nat.le_succ _) (show ObjOk X.prog X.w _ _ _ (.lst ((zs.mergeSort (PySem.W.dataLe false (·.2))).map (·.1))) from ⟨hl, out, c, rel_each eo, hc⟩), rfl, q _ hn⟩
end
open Classical in
noncomputable def sortD (f : DEx) (ρ : En) (st : Store) : R := (f ρ st).bind fun d ρ st => match d with
  | .lst ds => if sortOk ds then .ok (.lst (ds.mergeSort leD)) ρ st else .bad
  | _ => .bad
theorem sortD_isL {f : DEx} : IsL (sortD f) := fun ρ st d ρ' st' h => by
  unfold sortD at h
  cases e : f ρ st with
  | ok d1 ρ1 st1 =>
    rw [e] at h
    simp only [R.bind] at h
    split at h
    · split at h
      · cases h; exact ⟨_, rfl⟩
      · cases h
    · cases h
  | exc c ρ1 st1 => rw [e] at h; cases h
  | bad => rw [e] at h; cases h
theorem pyAll_map : ∀ {ds : List D} {ps : List PyData}, pyAll ds = some ps → ps = ds.map (fun d => d.py.getD .none)
  | [], ps, h => by simp only [pyAll, Option.some.injEq] at h; subst h; rfl
  | d :: ds, ps, h => by
    simp only [pyAll] at h
    split at h
    · rename_i p ps' e1 e2
      cases h
      simp [e1, ← pyAll_map e2]
    · cases h
theorem reps_zip {K : PySem.W.Frag} {mg : MG} {G : Hp} {ι : List Addr} : ∀ {vs : List V} {ds : List D}, Reps K mg G ι vs ds → ∃ zs : List (V × D), zs.map (·.1) = vs ∧ zs.map (·.2) = ds ∧ ∀ z ∈ zs, Rep K mg G ι z.1 z.2
  | _, _, .nil => ⟨[], rfl, rfl, fun _ h => by simp at h⟩
  | _, _, .cons r rs => by
    obtain ⟨zs, e1, e2, h⟩ := reps_zip rs
    refine ⟨(_, _) :: zs, by simp [e1]; rfl, by simp [e2]; rfl, fun z hz => ?_⟩
    rcases List.mem_cons.mp hz with rfl | hz
    · exact r
    · exact h z hz
theorem zip_reps {K : PySem.W.Frag} {mg : MG} {G : Hp} {ι : List Addr} : ∀ {zs : List (V × D)}, (∀ z ∈ zs, Rep K mg G ι z.1 z.2) → Reps K mg G ι (zs.map (·.1)) (zs.map (·.2))
  | [], _ => .nil
  | z :: zs, h => .cons (h z (by simp)) (zip_reps fun y hy => h y (by simp [hy]))
section
variable {X : Cx} {W : WB} {e : Expr} {f : DEx} {p pos : Pos}
theorem do_sorted (hu : X.A.units + 80 < cLine) (hg : Gl X "sorted") (hm : X.mg "sorted" = none) (ha : DV X W e f) (he : starEach [e] X.env = (false, eval e X.env) :: starEach [] X.env := by rfl) (hpl : (backTo pos (starEach [] X.env)).any (·.1) = false := by rfl) :
    DO X W (.Call (.Name "sorted" p) [e] [] pos) (sortD f) := by
  obtain ⟨te, pe, re⟩ := ha
  refine ⟨⟨_, pe_callB (cr_sortD hu) hg hm (by decide +kernel) (pa_cons pe pa_nil he) (by decide) (by decide) he hpl, fun w Q s q => ?_⟩, sortD_isL⟩
  refine re.bindO s q fun w1 v d e1 a1 r1 q1 => ?_
  split at q1
  · rename_i ds
    split at q1
    · rename_i hok
      obtain ⟨ps, hp, hal, hso, hdp⟩ := hok
      obtain ⟨a, vs, rfl, h1, h2, h3⟩ := r1.lst_inv a1.s
      obtain ⟨zs, rfl, rfl, hz⟩ := reps_zip h3
      have hm := pyAll_map hp
      have e2 : (zs.map fun z => (z.1, z.2.py.getD .none)).map (·.2) = ps := by
        rw [hm, List.map_map, List.map_map]; rfl
      have e3 : (zs.map fun z => (z.1, z.2.py.getD .none)).map (·.1) = zs.map (·.1) := by
        rw [List.map_map]; rfl
      refine ⟨a, zs.map fun z => (z.1, z.2.py.getD .none), rfl, by rw [e3]; exact SqL.of h1, ?_, by rw [e2]; exact hal, by rw [e2]; exact hso, fun z hz' => hdp z.2 (by rw [← e2]; exact List.mem_map_of_mem hz'), fun l hl => ?_⟩
      · rw [e2, e3]
        exact dpAll_mono a1.s.sub (h3.dp hp)
      · have em : ((zs.map fun z => (z.1, z.2.py.getD .none)).mergeSort (PySem.W.dataLe false (·.2))).map (·.1) = (zs.mergeSort (fun x y => leD x.2 y.2)).map (·.1) := by
          rw [← PySem.W.sort_maps (r := fun x y : V × D => leD x.2 y.2) (fun z : V × D => (z.1, z.2.py.getD .none)) (fun _ _ _ _ => rfl), List.map_map]; rfl
        rw [em]
        have ed : (zs.mergeSort (fun x y => leD x.2 y.2)).map (·.2) = (zs.map (·.2)).mergeSort leD := PySem.W.sort_maps _ (fun _ _ _ _ => rfl)
        refine OkO.mk a1 e1 hl (by simpa using h2) ?_ q1
        rw [← ed]
        exact zip_reps fun z hz' => hz z (List.mem_mergeSort.mp hz')
    · exact q1.elim
  · exact q1.elim
end
end DL
namespace DL
open PySem L2
theorem fz_lst {K : PySem.W.Frag} {mg : MG} {w : Ws} (s : Sts K mg w) {p : Addr} (hp : w.H p = none) {vs : List V} {ds : List D} (hz : vs.length ≤ sizeLine) (r : Reps K mg w.G w.ι vs ds) :
    ∃ w' : Ws, w'.ρ = w.ρ ∧ w'.st = w.st ∧ w'.σ = w.σ ∧ w'.H = upd w.H p (.lst vs) ∧ Aft K mg w w' ∧ Rep K mg w'.G w'.ι (.ref p) (.lst ds) :=
  have A := Aft.alloc (o := .lst vs) s hp
  ⟨{ w with G := upd w.G p (.lst vs), H := upd w.H p (.lst vs) }, rfl, rfl, rfl, rfl, A, .lst upd_same hz (r.mono A.g A.i)⟩
theorem fz_tup {K : PySem.W.Frag} {mg : MG} {w : Ws} (s : Sts K mg w) {p : Addr} (hp : w.H p = none) {vs : List V} {ds : List D} (hz : vs.length ≤ sizeLine) (r : Reps K mg w.G w.ι vs ds) :
    ∃ w' : Ws, w'.ρ = w.ρ ∧ w'.st = w.st ∧ w'.σ = w.σ ∧ w'.H = upd w.H p (.tup vs) ∧ Aft K mg w w' ∧ Rep K mg w'.G w'.ι (.ref p) (.tup ds) :=
  have A := Aft.alloc (o := .tup vs) s hp
  ⟨{ w with G := upd w.G p (.tup vs), H := upd w.H p (.tup vs) }, rfl, rfl, rfl, rfl, A, .tup (.inl (.inl upd_same)) hz (r.mono A.g A.i)⟩
@[simp] def addK : D → D → Option D
  | .int i, .int j => some (.int (i + j))
  | .str x, .str y => if x.length + y.length ≤ sizeLine then some (.str (x ++ y)) else none
  | .lst xs, .lst ys => if xs.length + ys.length ≤ sizeLine then some (.lst (xs ++ ys)) else none
  | .tup xs, .tup ys => if xs ≠ [] ∧ xs.length + ys.length ≤ sizeLine then some (.tup (xs ++ ys)) else none
  | _, _ => none
def AnsF (K : PySem.W.Frag) (mg : MG) (r : R2) (p : D → D → Option D) : Prop :=
  ∀ (w : Ws) (x y : V) (d e z : D) (Q : VK), Sts K mg w → Rep K mg w.G w.ι x d → Rep K mg w.G w.ι y e → p d e = some z → (∀ (w' : Ws) v, w'.ρ = w.ρ → w'.st = w.st → w'.σ = w.σ → Aft K mg w w' → Rep K mg w'.G w'.ι v z → Q v w'.H) → r x y w.H Q
section
variable {K : PySem.W.Frag} {mg : MG} {W : WB}
theorem ref_opF {r : R2} {p : D → D → Option D} {ta tb : TE} {f g : DEx} (hr : AnsF K mg r p) (ha : RefE K mg W ta f) (hb : RefE K mg W tb g) : RefE K mg W (tOp r ta tb) (lift2 p f g) := fun w Q s h => by
  refine ha.bindR (Q := Q) s h fun w1 x d s1 e1 a1 r1 h1 => ?_
  show tb w.σ w1.H _
  rw [← e1]
  refine hb.bindR (Q := Q) s1 h1 fun w2 y e s2 e2 a2 r2 h2 => ?_
  cases q : p d e with
  | none => simp only [q] at h2; exact h2.elim
  | some z =>
    simp only [q] at h2
    exact hr w2 x y d e z Q s2 (r1.mono a2.g a2.i) r2 q fun w' v h3 h4 h5 A rv => h2 w' v h3 h4 h5 A rv
theorem Ans2.f {r : R2} {p : D → D → Option D} (h : Ans2 K mg r p) : AnsF K mg r p := fun w x y d e z Q s rx ry q k => h w x y d e z Q s (.inl rx) (.inl ry) q fun v rv => k w v rfl rfl rfl (Aft.refl s) (rv _ _)
def pCat : D → D → Option D
  | .lst xs, .lst ys => if xs.length + ys.length ≤ sizeLine then some (.lst (xs ++ ys)) else none
  | _, _ => none
def pCatT : D → D → Option D
  | .tup xs, .tup ys => if xs ≠ [] ∧ xs.length + ys.length ≤ sizeLine then some (.tup (xs ++ ys)) else none
  | _, _ => none
theorem ansF_cat : AnsF K mg rCat pCat := fun w x y d e z Q s rx ry q k => by
  unfold pCat at q
  split at q
  · split at q
    · rename_i hz
      cases q
      cases rx with
      | lst h1 l1 s1 =>
        cases ry with
        | lst h2 l2 s2 =>
          have hz' := hz
          rw [← s1.len, ← s2.len] at hz'
          refine ⟨_, _, _, _, rfl, rfl, s.sub _ _ h1, s.sub _ _ h2, hz', fun p hp => ?_⟩
          obtain ⟨w', q1, q2, q3, q4, A, r⟩ := fz_lst s hp (by rw [List.length_append]; exact hz') (s1.append s2)
          rw [← q4]; exact k w' _ q1 q2 q3 A r
    · cases q
  · cases q
theorem ansF_catT : AnsF K mg (rCatT K) pCatT := fun w x y d e z Q s rx ry q k => by
  unfold pCatT at q
  split at q
  · split at q
    · rename_i hz
      cases q
      cases rx with
      | tup h1 l1 s1 =>
        cases ry with
        | tup h2 l2 s2 =>
          obtain ⟨hne, hz⟩ := hz
          have hz' := hz
          rw [← s1.len, ← s2.len] at hz'
          refine ⟨_, _, _, _, rfl, rfl, SqT.mono s.sub h1, SqT.mono s.sub h2, ?_, hz', fun h => ?_, fun _ p hp => ?_⟩
          · rintro rfl
            cases s1; exact hne rfl
          · subst h
            cases s2
            rw [List.append_nil] at k
            exact k w _ rfl rfl rfl (Aft.refl s) (.tup h1 l1 s1)
          · obtain ⟨w', q1, q2, q3, q4, A, r⟩ := fz_tup s hp (by rw [List.length_append]; exact hz') (s1.append s2)
            rw [← q4]; exact k w' _ q1 q2 q3 A r
    · cases q
  · cases q
theorem AnsF.or {r r' : R2} {p : D → D → Option D} (h : ∀ d e z, p d e = some z → ∃ (q : D → D → Option D), q d e = some z ∧ (AnsF K mg r q ∨ AnsF K mg r' q)) : AnsF K mg (fun x y H Q => r x y H Q ∨ r' x y H Q) p := fun w x y d e z Q s rx ry q k => by
  obtain ⟨q', h1, h2⟩ := h d e z q
  rcases h2 with h2 | h2
  · exact .inl (h2 w x y d e z Q s rx ry h1 k)
  · exact .inr (h2 w x y d e z Q s rx ry h1 k)
end
section
variable {X : Cx} {W : WB} {a b : Expr} {f g : DEx} {pos : Pos}
theorem de_opF {op : Operator} {r : R2} {p : D → D → Option D} (ho : OpR X (binaryOp op) r) (hr : AnsF X.K (MGx X W.b) r p) (ha : DE X W a f) (hb : DE X W b g) : DE X W (.BinOp a op b pos) (lift2 p f g) := by
  obtain ⟨ta, pa, ra⟩ := ha
  obtain ⟨tb, pb, rb⟩ := hb
  exact ⟨_, pe_op ho pa pb, ref_opF hr ra rb⟩
theorem de_addX (ha : DE X W a f) (hb : DE X W b g) : DE X W (.BinOp a .Add b pos) (lift2 addK f g) := by
  refine de_opF (opR_or op_add (opR_or op_add_str (opR_or op_cat op_catT))) (AnsF.or fun d e z q => ?_) ha hb
  unfold addK at q
  split at q
  · exact ⟨iop0 (· + ·), q, .inl ans_iop0.f⟩
  · exact ⟨sAdd, q, .inr (AnsF.or fun d e z q => ⟨sAdd, q, .inl ans_sadd.f⟩)⟩
  · exact ⟨pCat, q, .inr (AnsF.or fun d e z q => ⟨pCat, q, .inr (AnsF.or fun d e z q => ⟨pCat, q, .inl ansF_cat⟩)⟩)⟩
  · exact ⟨pCatT, q, .inr (AnsF.or fun d e z q => ⟨pCatT, q, .inr (AnsF.or fun d e z q => ⟨pCatT, q, .inr ansF_catT⟩)⟩)⟩
  · cases q
end
def repS (x : Str) (n : Nat) : Str := ⟨(List.replicate n x.cps.toList).flatten.toArray⟩
@[simp] noncomputable def mulK : D → D → Option D
  | .int i, .int j => if CMul i j then some (.int (i * j)) else none
  | .lst xs, .int k => if Rs k ∧ xs.length * k.toNat ≤ sizeLine then some (.lst (List.replicate k.toNat xs).flatten) else none
  | .str x, .int k => if 0 < k ∧ k < 1000 ∧ x.length ≤ 1000 then some (.str (repS x k.toNat)) else none
  | _, _ => none
def pRepS : D → D → Option D
  | .str x, .int k => if 0 < k ∧ k < 1000 ∧ x.length ≤ 1000 then some (.str (repS x k.toNat)) else none
  | _, _ => none
noncomputable def pRep : D → D → Option D
  | .lst xs, .int k => if Rs k ∧ xs.length * k.toNat ≤ sizeLine then some (.lst (List.replicate k.toNat xs).flatten) else none
  | _, _ => none
theorem ansF_rep {K : PySem.W.Frag} {mg : MG} : AnsF K mg rRep pRep := fun w x y d e z Q s rx ry q k => by
  unfold pRep at q
  split at q
  · split at q
    · rename_i hz
      cases q
      cases rx with
      | lst h1 l1 s1 =>
        refine ⟨_, _, _, rfl, ry.int_inv, s.sub _ _ h1, hz.1.1, hz.1.2, by rw [s1.len]; exact hz.2, fun p hp => ?_⟩
        have hl := hz.2
        rw [← s1.len] at hl
        obtain ⟨w', q1, q2, q3, q4, A, r⟩ := fz_lst s hp (by simpa [Nat.mul_comm] using hl) (s1.rep _)
        rw [← q4]; exact k w' _ q1 q2 q3 A r
    · cases q
  · cases q
theorem rep_eq (x : Str) (n : Nat) : (⟨(List.replicate n x.cps).foldl (· ++ ·) #[]⟩ : Str) = repS x n := by
  unfold repS
  congr 1
  have : ∀ (n : Nat) (acc : Array Nat), (List.replicate n x.cps).foldl (· ++ ·) acc = acc ++ (List.replicate n x.cps.toList).flatten.toArray := by
    intro n
    induction n with
    | zero => intro acc; simp
    | succ n ih =>
      intro acc
      rw [List.replicate_succ, List.foldl_cons, ih, List.replicate_succ, List.flatten_cons, Array.append_assoc]
      congr 1
      apply Array.ext'
      simp
  rw [this]; simp
theorem op_repS {X : Cx} : OpR X (binaryOp .Mult) (fun a b H Q => ∃ x k, a = .str x ∧ b = .int k ∧ (0 < k ∧ k < 1000 ∧ x.length ≤ 1000) ∧ Q (.str (repS x k.toNat)) H) := by
  intro pins s σ H a b v u Q I rx ry h
  obtain ⟨x, k, rfl, rfl, ⟨h1, h2, h3⟩, q⟩ := h
  obtain ⟨t, rfl⟩ := rx
  obtain ⟨t', rfl⟩ := ry
  refine PySem.P.mul_str (by simp; omega) (fun _ _ => ?_) (fun _ _ => ?_) ?_
  · have hk : (1000 : Int) ≤ (2 ^ 63 - 1) / k := Int.le_ediv_of_mul_le h1 (by omega)
    omega
  · have : x.length * k.toNat ≤ 1000 * 1000 := Nat.mul_le_mul h3 (by omega)
    have hs : sizeLine = 16777216 := sizeLine_eq
    simp only [Builtin.Str.tooLong]
    have : ¬ x.length * k.toNat > sizeLine := by omega
    simpa using this
  · rw [if_neg (by omega)]
    split
    · rename_i hh
      have : repS x k.toNat = x := by
        simp only [Bool.or_eq_true, beq_iff_eq] at hh
        unfold repS
        rcases hh with hh | hh
        · subst hh; simp
        · have : x.cps.toList = [] := by
            have : x.cps.toList.length = 0 := by
              have h' : x.cps.size = 0 := hh
              simpa using h'
            exact List.eq_nil_of_length_eq_zero this
          cases x with
          | mk c => simp at this; subst this; simp
      rw [this] at q
      exact ⟨.str x, H, I, ⟨_, rfl⟩, q⟩
    · rw [rep_eq]
      have hl : (repS x k.toNat).length ≤ sizeLine := by
        have e : (repS x k.toNat).length = k.toNat * x.length := by
          show ((List.replicate k.toNat x.cps.toList).flatten.toArray).size = _
          simp; rfl
        have : k.toNat * x.length ≤ 1000 * 1000 := Nat.mul_le_mul (by omega) h3
        have hs : sizeLine = 16777216 := sizeLine_eq
        omega
      exact ⟨hl, .str _, H, I.tok _, ⟨_, rfl⟩, q⟩
theorem ansF_repS {K : PySem.W.Frag} {mg : MG} : Ans2 K mg (fun a b H Q => ∃ x k, a = .str x ∧ b = .int k ∧ (0 < k ∧ k < 1000 ∧ x.length ≤ 1000) ∧ Q (.str (repS x k.toNat)) H) pRepS := fun w x y d e z Q s rx ry q k => by
  unfold pRepS at q
  split at q
  · split at q
    · cases q; exact ⟨_, _, rx.str_inv, ry.int_inv, by assumption, k _ fun _ _ => .str _⟩
    · cases q
  · cases q
theorem de_mulX {X : Cx} {W : WB} {a b : Expr} {f g : DEx} {pos : Pos} (ha : DE X W a f) (hb : DE X W b g) : DE X W (.BinOp a .Mult b pos) (lift2 mulK f g) := by
  refine de_opF (opR_or op_mul (opR_or op_rep op_repS)) (AnsF.or fun d e z q => ?_) ha hb
  unfold mulK at q
  split at q
  · exact ⟨iop CMul (· * ·), q, .inl ans_iop.f⟩
  · exact ⟨pRep, q, .inr (AnsF.or fun d e z q => ⟨pRep, q, .inl ansF_rep⟩)⟩
  · exact ⟨pRepS, q, .inr (AnsF.or fun d e z q => ⟨pRepS, q, .inr ansF_repS.f⟩)⟩
  · cases q
@[simp] def kSl : D → Option Int → Option Int → Option D
  | .lst ds, lo, hi => some (.lst (cutD ds lo hi))
  | .str z, lo, hi => if z.length ≤ sizeLine then some (.str (cutS z lo hi)) else none
  | .tup ds, lo, hi => if HT.sIx ds.length 0 lo = 0 ∧ HT.sIx ds.length ds.length hi = ds.length then none else some (.tup (cutD ds lo hi))
  | _, _, _ => none
theorem de_slice {X : Cx} {W : WB} {e : Expr} {lo hi : Option Expr} {f l h : DEx} {p2 pos : Pos} (he : DE X W e f) (hl : DB X W lo l) (hh : DB X W hi h) : DE X W (.Subscript e (.Slice lo hi none p2) pos) (slX kSl f l h) := by
  obtain ⟨te, pe, re⟩ := he
  obtain ⟨tl, pl, rl⟩ := hl
  obtain ⟨th, ph, rh⟩ := hh
  refine ⟨_, pe_slice (sl_list.or (sl_str.or sl_tup)) pe pl ph, fun w Q s q => ?_⟩
  refine ref_sl (P := OkR X.K (MGx X W.b) W w Q) (k := kSl) s re rl rh q (fun _ _ _ z => z) (fun z => z) fun w3 v d z lo hi e3 a3 r3 hz q3 => ?_
  cases d with
  | lst ds =>
    cases hz
    obtain ⟨a, vs, rfl, hs, hl, rs⟩ := r3.lst_inv a3.s
    · refine .inl ⟨_, _, rfl, SqL.of hs, fun p hp => ?_⟩
      obtain ⟨w', k1, k2, k3, k4, A, r⟩ := fz_lst a3.s hp (Nat.le_trans (cutV_length _ lo hi) hl) (rs.cut lo hi)
      rw [← k4]; exact q3 w' _ k1 k2 (k3.trans e3) (a3.trans A) r
  | str y =>
    have hz' : (if y.length ≤ sizeLine then some (D.str (cutS y lo hi)) else none) = some z := hz
    by_cases hh : y.length ≤ sizeLine
    · rw [if_pos hh] at hz'
      cases hz'
      exact .inr (.inl ⟨y, r3.str_inv, hh, q3 w3 _ rfl rfl e3 a3 (.str _)⟩)
    · rw [if_neg hh] at hz'; cases hz'
  | tup ds =>
    have hz' : (if HT.sIx ds.length 0 lo = 0 ∧ HT.sIx ds.length ds.length hi = ds.length then none else some (D.tup (cutD ds lo hi))) = some z := hz
    by_cases hh : HT.sIx ds.length 0 lo = 0 ∧ HT.sIx ds.length ds.length hi = ds.length
    · rw [if_pos hh] at hz'; cases hz'
    · rw [if_neg hh] at hz'
      cases hz'
      obtain ⟨a, vs, rfl, hs, hl, rs⟩ := r3.tup_inv a3.s
      · refine .inr (.inr ⟨_, _, rfl, hs, by rw [rs.len]; exact hh, fun p hp => ?_⟩)
        obtain ⟨w', k1, k2, k3, k4, A, r⟩ := fz_tup a3.s hp (Nat.le_trans (cutV_length _ lo hi) hl) (rs.cut lo hi)
        rw [← k4]; exact q3 w' _ k1 k2 (k3.trans e3) (a3.trans A) r
  | _ => cases hz
theorem takesF {X : Cx} {b : Low} : L2N.Takes X (WF b) := fun u s' h => by
  obtain ⟨_, _, _, _, _, _, _, _, _, _, _, _, _, _, _, _, h⟩ := h
  exact h.elim
theorem Room.u80 {k : Nat} {A : Around} (r : Room k A) : A.units + 80 < cLine := by have := r.un; omega
theorem Room.u65 {k : Nat} {A : Around} (r : Room k A) : A.units + 65 < cLine := by have := r.un; omega
def Cal (P : Program) (w : World) (K : PySem.W.Frag) (mg : Str → Option Value) (base : Heap) (k : Nat) (x : Str) (n : Nat) (den : Den) : Prop :=
  ∃ f fd ps, FnOk P w K mg base (L2N.CX P w) k f fd ps (spD K mg n den) ∧ mg x = some (.ref f) ∧ PySem.W.keepIn K (.ref f) = true ∧ Binds K fd ps []
def Dfn (K : PySem.W.Frag) (mg : Str → Option Value) (x : Str) (ps : List Str) (st : Stmt) : Prop := ∃ f fd, Fun K x x st f fd ∧ mg x = some (.ref f) ∧ Binds K fd ps []
theorem Cal.call {X : Cx} {W : WB} {k k' n : Nat} {den : Den} {x : Str} {p pos : Pos} {e : Expr} {es : List Expr} {fa : DEx} (C : Cal X.prog X.w X.K X.mg X.base k x n den) (hr : Room k' X.A) (hk : k ≤ k') (hg : Gl X x) (tk : L2N.Takes X W)
    (ha : DAn X W (e :: es) fa) (hn : (e :: es).length = n := by rfl) (hdb : (x == ("__debug__" : Str)) = false := by decide) (he : starEach (e :: es) X.env = (false, eval e X.env) :: starEach es X.env := by rfl) (hpl : (backTo pos (starEach es X.env)).any (·.1) = false := by rfl) :
    DE X W (.Call (.Name x p) (e :: es) [] pos) (callD den fa) := by
  obtain ⟨f, fd, ps, F, hm, kp, hb⟩ := C
  exact de_call F (hr.mono hk) hg hm kp hb tk ha hn hdb he hpl
theorem Cal.of {P : Program} {wd : World} {K : PySem.W.Frag} {mg : Str → Option Value} {base : Heap} {x : Str} {st : Stmt} {N ps : List Str} {k n m : Nat} {g : DSx} (Df : Dfn K mg x ps st) (S : FnScope N ps (defScope st)) (hn : n = N.length) (hm : m = ps.length)
    (hb : ∀ (f : Addr) (cdv : Value) (A : Around) (outer : List Env) (s : Shared) (H : Hp) (E : XK), Room k (A.deeper (PyProof.Rows.envOfC x (defScope st) s.heap.objs.size f cdv)) →
      DSs (cxOf (L2N.CX P wd) P wd K mg base N x (defScope st) f cdv A outer s H E) (WEx E) (defBody st) g) : Cal P wd K mg base (k + 1) x m (runD n g) := by
  obtain ⟨f, fd, F, hmg, hB⟩ := Df
  subst hm
  exact ⟨f, fd, ps, fn_D (funV_of F) S hn (hb f), hmg, F.kp, hB⟩
end DL
namespace DL
open PySem L2
section
variable {X : Cx} {W : WB} {x : Str} {pos : Pos}
theorem de_gintE {i : Int} (hg : Gl X x) (hm : ∃ t, X.mg x = some (.int i t)) (hdb : (x == ("__debug__" : Str)) = false := by decide) : DE X W (.Name x pos) (cst (.int i)) := let ⟨_, h⟩ := hm; de_gint hg h hdb
theorem de_gstrE {i : Str} (hg : Gl X x) (hm : ∃ t, X.mg x = some (.str i t)) (hdb : (x == ("__debug__" : Str)) = false := by decide) : DE X W (.Name x pos) (cst (.str i)) := let ⟨_, h⟩ := hm; de_gstr hg h hdb
end
theorem b_len : bootBuiltins "len" = some (.builtin "len") := by decide +kernel
theorem b_abs : bootBuiltins "abs" = some (.builtin "abs") := by decide +kernel
theorem b_max : bootBuiltins "max" = some (.builtin "max") := by decide +kernel
theorem b_min : bootBuiltins "min" = some (.builtin "min") := by decide +kernel
theorem b_all : bootBuiltins "all" = some (.builtin "all") := by decide +kernel
theorem b_any : bootBuiltins "any" = some (.builtin "any") := by decide +kernel
theorem b_str : bootBuiltins "str" = some (.type "str") := by decide +kernel
theorem b_bool : bootBuiltins "bool" = some (.type "bool") := by decide +kernel
theorem b_list : bootBuiltins "list" = some (.type "list") := by decide +kernel
theorem b_tuple : bootBuiltins "tuple" = some (.type "tuple") := by decide +kernel
def pInX (n : Bool) (d e : D) : Option D := (pInB d e).map fun b => .bl (if n then !b else b)
end DL
namespace DL
open PySem L2
def CPow2 (i j : Int) : Prop := 0 ≤ j ∧ j ≤ 1000 ∧ i.natAbs < 2 ^ 1000
instance (i j : Int) : Decidable (CPow2 i j) := by unfold CPow2; infer_instance
theorem op_powW {X : Cx} : OpR X (binaryOp .Pow) (rI CPow2 fun i j => .int (i ^ j.toNat)) := opI fun i j _ _ _ _ _ hc q => by
  refine PyProof.Rows.pow_int hc.1 ?_ q
  have h1 : Builtin.Int.intBits i ≤ 1000 := PyProof.Rows.intBits_le hc.2.2
  have h2 := hc.1
  have h3 := hc.2.1
  have : (Builtin.Int.intBits i : Int) * j ≤ 1000 * 1000 := Int.mul_le_mul (by omega) h3 h2 (by omega)
  omega
@[simp] def pPowW := iop CPow2 (fun i j => i ^ j.toNat)
theorem de_powW {X : Cx} {W : WB} {a b : Expr} {f g : DEx} {pos : Pos} (ha : DE X W a f) (hb : DE X W b g) : DE X W (.BinOp a .Pow b pos) (lift2 pPowW f g) := de_bin op_powW ans_iop ha hb.v
def putD (kvs : List (Key × D)) (k : Key) (d : D) : List (Key × D) :=
  if (kvs.any fun kv => decide (kv.1 = k)) = true then kvs.map (fun kv => if kv.1 = k then (kv.1, d) else kv) else kvs ++ [(k, d)]
def mergeD (kvs more : List (Key × D)) : List (Key × D) := more.foldl (fun acc kv => putD acc kv.1 kv.2) kvs
def getK (kvs : List (Key × D)) (k : Key) : Option D := (kvs.find? fun kv => decide (kv.1 = k)).map (·.2)
section
variable {K : PySem.W.Frag} {mg : MG} {G : Hp} {ι : List Addr}
theorem RepK.any : ∀ {vs : List (Key × V)} {ds : List (Key × D)} (k : Key), RepK K mg G ι vs ds → (vs.any fun kv => decide (kv.1 = k)) = ds.any fun kv => decide (kv.1 = k)
  | _, _, _, .nil => rfl
  | _, _, k, .cons r rs => by simp only [List.any_cons, RepK.any k rs]
theorem RepK.mapSet {v : V} {d : D} (k : Key) (r : Rep K mg G ι v d) : ∀ {vs : List (Key × V)} {ds : List (Key × D)}, RepK K mg G ι vs ds → RepK K mg G ι (vs.map (fun kv => if kv.1 = k then (kv.1, v) else kv)) (ds.map (fun kv => if kv.1 = k then (kv.1, d) else kv))
  | _, _, .nil => .nil
  | _, _, .cons (k := k') (v := v') (d := d') r' rs => by
    simp only [List.map_cons]
    by_cases e : k' = k
    · simp only [e, if_true]; exact .cons r (RepK.mapSet k r rs)
    · simp only [e, if_false]; exact .cons r' (RepK.mapSet k r rs)
theorem RepK.append : ∀ {vs ws : List (Key × V)} {ds es : List (Key × D)}, RepK K mg G ι vs ds → RepK K mg G ι ws es → RepK K mg G ι (vs ++ ws) (ds ++ es)
  | _, _, _, _, .nil, s => s
  | _, _, _, _, .cons r t, s => .cons r (RepK.append t s)
theorem RepK.put {v : V} {d : D} {k : Key} {vs : List (Key × V)} {ds : List (Key × D)} (h : RepK K mg G ι vs ds) (r : Rep K mg G ι v d) : RepK K mg G ι (putK vs k v) (putD ds k d) := by
  unfold putK putD
  rw [h.any k]
  split
  · exact h.mapSet k r
  · exact h.append (.cons r .nil)
theorem RepK.merge : ∀ {more : List (Key × V)} {md : List (Key × D)} {vs : List (Key × V)} {ds : List (Key × D)}, RepK K mg G ι vs ds → RepK K mg G ι more md → RepK K mg G ι (mergeK vs more) (mergeD ds md)
  | _, _, _, _, h, .nil => h
  | _, _, vs, ds, h, .cons (k := k) (v := v) (d := d) r rs => by
    have h1 := RepK.put (k := k) h r
    exact RepK.merge (vs := putK vs k v) (ds := putD ds k d) h1 rs
theorem RepK.len : ∀ {vs : List (Key × V)} {ds : List (Key × D)}, RepK K mg G ι vs ds → vs.length = ds.length
  | _, _, .nil => rfl
  | _, _, .cons _ r => by simp [RepK.len r]
theorem RepK.get {k : Key} : ∀ {vs : List (Key × V)} {ds : List (Key × D)}, RepK K mg G ι vs ds → (∀ d, getK ds k = some d → ∃ v, valV vs k = some v ∧ Rep K mg G ι v d) ∧ (getK ds k = none → valV vs k = none)
  | _, _, .nil => ⟨fun d h => by simp [getK] at h, fun _ => rfl⟩
  | _, _, .cons (k := k') (v := v') (d := d') r' rs => by
    obtain ⟨h1, h2⟩ := RepK.get (k := k) rs
    by_cases e : k' = k
    · refine ⟨fun d h => ?_, fun h => ?_⟩
      · simp [getK, List.find?_cons, e] at h
        subst h
        exact ⟨v', valV_pos e, r'⟩
      · simp [getK, List.find?_cons, e] at h
    · refine ⟨fun d h => ?_, fun h => ?_⟩
      · rw [valV_neg e]
        exact h1 d (by simpa [getK, List.find?_cons, e] using h)
      · rw [valV_neg e]
        exact h2 (by simpa [getK, List.find?_cons, e] using h)
end
@[simp] def D.key : D → Option Key
  | .int i => some (.inl i)
  | .str s => some (.inr s)
  | _ => none
theorem Rep.key {K : PySem.W.Frag} {mg : MG} {G : Hp} {ι : List Addr} {v : V} {d : D} {k : Key} (r : Rep K mg G ι v d) (h : d.key = some k) : v = kV k := by
  cases d with
  | int i => cases h; exact r.int_inv
  | str i => cases h; exact r.str_inv
  | _ => cases h
@[simp] def pairKs : List D → Option (List (Key × D))
  | [] => some []
  | k :: v :: r => match k.key, pairKs r with
    | some k, some kvs => some ((k, v) :: kvs)
    | _, _ => none
  | _ => none
@[simp] def dispD (f : DEx) (ρ : En) (st : Store) : R := (f ρ st).bind fun d ρ st => match d with
  | .tup ds => (match pairKs ds with
    | some kvs => if kvs.length ≤ 15 then .ok (.dct (mergeD [] kvs)) ρ st else .bad
    | none => .bad)
  | _ => .bad
inductive RepPr (K : PySem.W.Frag) (mg : MG) (G : Hp) (ι : List Addr) : List (V × V) → List D → Prop
  | nil : RepPr K mg G ι [] []
  | cons {x y : V} {a b : D} {ps : List (V × V)} {ds : List D} : Rep K mg G ι x a → Rep K mg G ι y b → RepPr K mg G ι ps ds → RepPr K mg G ι ((x, y) :: ps) (a :: b :: ds)
theorem RepPr.mono {K : PySem.W.Frag} {mg : MG} {G G' : Hp} {ι ι' : List Addr} (e : Same G G') (i : LeI ι ι') : ∀ {ps : List (V × V)} {ds : List D}, RepPr K mg G ι ps ds → RepPr K mg G' ι' ps ds
  | _, _, .nil => .nil
  | _, _, .cons a b r => .cons (a.mono e i) (b.mono e i) (RepPr.mono e i r)
theorem RepPr.keys {K : PySem.W.Frag} {mg : MG} {G : Hp} {ι : List Addr} : ∀ {ps : List (V × V)} {ds : List D} {kvs : List (Key × D)}, RepPr K mg G ι ps ds → pairKs ds = some kvs → ∃ vs : List (Key × V), ps = vs.map (fun kv => (kV kv.1, kv.2)) ∧ RepK K mg G ι vs kvs
  | _, _, _, .nil, h => by cases h; exact ⟨[], rfl, .nil⟩
  | _, _, kvs, .cons a b r, h => by
    unfold pairKs at h
    split at h
    · rename_i k kv e1 e2
      cases h
      obtain ⟨vs, e, rk⟩ := RepPr.keys r e2
      exact ⟨(k, _) :: vs, by rw [a.key e1, e]; rfl, .cons b rk⟩
    · cases h
def OkPr (K : PySem.W.Frag) (mg : MG) (W : WB) (w : Ws) (Q : List (V × V) → Hp → Prop) : R → Prop
  | .ok (.tup ds) ρ st => ∀ (w' : Ws) (ps : List (V × V)), w'.ρ = ρ → w'.st = st → w'.σ = w.σ → Aft K mg w w' → RepPr K mg w'.G w'.ι ps ds → Q ps w'.H
  | .ok _ _ _ => False
  | .exc c ρ st => ∀ (w' : Ws) (cls : Value) (dx : Option Addr), w'.ρ = ρ → w'.st = st → w'.σ = w.σ → Aft K mg w w' → ExcAt K mg w' c cls dx → W cls dx w'.σ w'.H
  | .bad => False
def RefPr (K : PySem.W.Frag) (mg : MG) (W : WB) (trs : List (TE × TE)) (f : DEx) : Prop := ∀ (w : Ws) (Q : List (V × V) → Hp → Prop), Sts K mg w → OkPr K mg W w Q (f w.ρ w.st) → tPairs trs w.σ w.H Q
section
variable {K : PySem.W.Frag} {mg : MG} {W : WB}
theorem OkPr.aft {Q : List (V × V) → Hp → Prop} {w w1 : Ws} {r : R} (h : OkPr K mg W w Q r) (a : Aft K mg w w1) (e : w1.σ = w.σ) : OkPr K mg W w1 Q r := by
  cases r with
  | ok d ρ st =>
    cases d with
    | tup ds => exact fun w' v h1 h2 h3 h4 h5 => h w' v h1 h2 (h3.trans e) (a.trans h4) h5
    | _ => exact h
  | exc c ρ st => exact fun w' cls dx h1 h2 h3 h4 h5 => h w' cls dx h1 h2 (h3.trans e) (a.trans h4) h5
  | bad => exact h
theorem refPr_nil : RefPr K mg W [] aNil := fun w Q s q => q w [] rfl rfl rfl (Aft.refl s) .nil
theorem refPr_cons {tk tv : TE} {trs : List (TE × TE)} {f g h : DEx} (hk : RefE K mg W tk f) (hv : RefE K mg W tv g) (hr : RefPr K mg W trs h) : RefPr K mg W ((tk, tv) :: trs) (aCons f (aCons g h)) := fun w Q s q => by
  refine hk.bind (P := OkPr K mg W w Q) s q (fun _ _ _ z => z) (fun z => z) fun w1 v1 d1 e1 a1 r1 q1 => ?_
  show tv w.σ w1.H _
  rw [← e1]
  unfold aCons at q1
  cases eg : g w1.ρ w1.st with
  | ok d2 ρ2 st2 =>
    rw [eg] at q1
    simp only [R.bind] at q1
    refine hv w1 _ a1.s ?_
    rw [eg]
    intro w2 v2 h1 h2 e2 a2 r2
    subst h1; subst h2
    rw [← e2]
    have a12 := a1.trans a2
    have e12 := e2.trans e1
    refine hr w2 _ a2.s ?_
    cases eh : h w2.ρ w2.st with
    | ok d3 ρ3 st3 =>
      rw [eh] at q1
      cases d3 with
      | tup ds =>
        intro w3 ps h1 h2 e3 a3 r3
        exact q1 w3 _ h1 h2 (e3.trans e12) (a12.trans a3) (.cons (r1.mono (a2.g.trans a3.g) (a2.i.trans a3.i)) (r2.mono a3.g a3.i) r3)
      | _ => exact q1.elim
    | exc c ρ3 st3 =>
      rw [eh] at q1
      exact fun w' cls dx h1 h2 h3 h4 h5 => q1 w' cls dx h1 h2 (h3.trans e12) (a12.trans h4) h5
    | bad => rw [eh] at q1; exact q1.elim
  | exc c ρ2 st2 =>
    rw [eg] at q1
    refine hv w1 _ a1.s ?_
    rw [eg]
    exact fun w' cls dx h1 h2 h3 h4 h5 => q1 w' cls dx h1 h2 (h3.trans e1) (a1.trans h4) h5
  | bad => rw [eg] at q1; exact q1.elim
end
def DPr (X : Cx) (W : WB) (pos : Pos) (keys : List (Option Expr)) (values : List Expr) (f : DEx) : Prop := ∃ trs, PPs X pos keys values trs ∧ RefPr X.K (MGx X W.b) W trs f
section
variable {X : Cx} {W : WB} {k v : Expr} {ks : List (Option Expr)} {vs : List Expr} {f g h : DEx} {pos : Pos}
theorem dpr_nil : DPr X W pos [] [] aNil := ⟨_, pps_nil, refPr_nil⟩
theorem dpr_cons (hk : DE X W k f) (hv : DE X W v g) (hr : DPr X W pos ks vs h) : DPr X W pos (some k :: ks) (v :: vs) (aCons f (aCons g h)) :=
  let ⟨_, p1, r1⟩ := hk; let ⟨_, p2, r2⟩ := hv; let ⟨_, p3, r3⟩ := hr; ⟨_, pps_cons p1 p2 p3, refPr_cons r1 r2 r3⟩
theorem fz_dct {K : PySem.W.Frag} {mg : MG} {w0 w : Ws} (A : Aft K mg w0 w) {p : Addr} {o : HO} (hf : w0.H p = none) (hl : Loose w p) (ho : w.H p = some o) {kvs : List (Key × V)} {ds : List (Key × D)} (r : RepK K mg w.G w.ι kvs ds) :
    ∃ w' : Ws, w'.ρ = w.ρ ∧ w'.st = w.st ∧ w'.σ = w.σ ∧ w'.H = upd w.H p (.dK kvs) ∧ Aft K mg w0 w' ∧ Rep K mg w'.G w'.ι (.ref p) (.dct ds) := by
  have A1 := A.looseUpd (o := .dK kvs) hf hl
  have A2 := A1.freeze (a := p) (o := .dK kvs) hf hl upd_same
  exact ⟨{ w with H := upd w.H p (.dK kvs), G := upd w.G p (.dK kvs) }, rfl, rfl, rfl, rfl, A2, .dct (.inl upd_same) (r.mono (same_upd hl.1) (LeI.refl _))⟩
theorem de_dict0 : DE X W (.Dict [] [] pos) (cst (.dct [])) := ⟨_, pe_dnewK, fun w Q s q p hp => by
  have A := Aft.alloc (o := .dK []) s hp
  exact q { w with G := upd w.G p (.dK []), H := upd w.H p (.dK []) } (.ref p) rfl rfl rfl A (.dct (.inl upd_same) .nil)⟩
theorem de_dict (hp : DPr X W pos ks vs f) (hall : ks.all (·.isSome) = true := by rfl) (hl : ks.length = vs.length := by rfl) (h0 : ks ≠ [] := by intro z; cases z) (h15 : ks.length ≤ 15 := by decide) : DE X W (.Dict ks vs pos) (dispD f) := by
  obtain ⟨trs, pp, rp⟩ := hp
  refine ⟨_, pe_disp pp hall hl h0 h15, fun w Q s q p hp => ?_⟩
  have A0 := Aft.loose (o := .dK []) s hp
  have L0 := s.looseAt (o := .dK []) hp
  unfold dispD at q
  refine rp { w with H := upd w.H p (.dK []) } _ A0.s ?_
  show OkPr X.K (MGx X W.b) W _ _ (f w.ρ w.st)
  cases e : f w.ρ w.st with
  | ok d ρ st =>
    rw [e] at q
    cases d with
    | tup ds =>
      intro w1 ps h1 h2 e1 a1 r1
      obtain ⟨L1, hp1⟩ := a1.still L0 upd_same
      refine ⟨hp1, ?_⟩
      simp only [R.bind] at q
      cases z : pairKs ds with
      | none => simp only [z] at q; exact q.elim
      | some kvs =>
        simp only [z] at q
        by_cases hz : kvs.length ≤ 15
        · simp only [if_pos hz] at q
          obtain ⟨vs', e', rk⟩ := r1.keys z
          obtain ⟨w', k1, k2, k3, k4, A, r⟩ := fz_dct (A0.trans a1) hp L1 hp1 (RepK.merge (ds := []) .nil rk)
          refine ⟨vs', e', by rw [rk.len]; exact hz, ?_⟩
          rw [← k4]
          exact q w' _ (k1.trans h1) (k2.trans h2) (k3.trans e1) A r
        · simp only [if_neg hz] at q; exact q.elim
    | _ => exact q.elim
  | exc c ρ st =>
    rw [e] at q
    exact fun w' cls dx h1 h2 h3 h4 h5 => q w' cls dx h1 h2 h3 (A0.trans h4) h5
  | bad => rw [e] at q; exact q.elim
end
theorem Cal.none {P : Program} {wd : World} {K : PySem.W.Frag} {mg : Str → Option Value} {base : Heap} {x : Str} {st : Stmt} {ps : List Str} {k m : Nat} (Df : Dfn K mg x ps st) (hm : m = ps.length) : Cal P wd K mg base k x m (fun _ _ => .bad) := by
  obtain ⟨f, fd, F, hmg, hB⟩ := Df
  subst hm
  refine ⟨f, fd, ps, ⟨fun vs H Q E h => h.1, fun A outer s H args us vs Q E _ _ _ _ h => ?_⟩, hmg, F.kp, hB⟩
  obtain ⟨_, w, ds, _, _, _, _, _, ok⟩ := h
  exact ok.elim
end DL
namespace DL
open PySem L2
theorem Law.of {P : Program} {wd : World} {K : PySem.W.Frag} {mg : Str → Option Value} {base : Heap} {x : Str} {st : Stmt} {N : List Str} {k n : Nat} {g : DSx} (S : FnScope N [x] (defScope st)) (hn : n = N.length)
    (hb : ∀ (f : Addr) (cdv : Value) (A : Around) (outer : List Env) (s : Shared) (H : Hp) (E : XK), Room k (A.deeper (PyProof.Rows.envOfC "law" (defScope st) s.heap.objs.size f cdv)) →
      DSs (cxOf (L2N.CX P wd) P wd K mg base N "law" (defScope st) f cdv A outer s H E) (WEx E) (defBody st) g) :
    ∀ {f : Addr} {fd : FuncData}, Fun K "law" "law" st f fd → FnOk P wd K mg base (L2N.CX P wd) (k + 1) f fd [x] (spD K mg 1 (runD n g)) := fun F => fn_D (funV_of F) S hn (hb _)
theorem reps_ints {K : PySem.W.Frag} {mg : MG} {G : Hp} {ι : List Addr} : ∀ ns : List Int, Reps K mg G ι (ns.map V.int) (ns.map D.int)
  | [] => .nil
  | n :: ns => .cons (.int n) (reps_ints ns)
end DL
namespace DL
open PySem L2
@[simp] theorem kitB_NoneType_str : kitB "NoneType" "str" = some false := by decide
@[simp] theorem kitB_NoneType_list : kitB "NoneType" "list" = some false := by decide
@[simp] theorem kitB_NoneType_tuple : kitB "NoneType" "tuple" = some false := by decide
@[simp] theorem kitB_NoneType_bool : kitB "NoneType" "bool" = some false := by decide
@[simp] theorem kitB_NoneType_int : kitB "NoneType" "int" = some false := by decide
@[simp] theorem kitB_NoneType_dict : kitB "NoneType" "dict" = some false := by decide
@[simp] theorem kitB_bool_str : kitB "bool" "str" = some false := by decide
@[simp] theorem kitB_bool_list : kitB "bool" "list" = some false := by decide
@[simp] theorem kitB_bool_tuple : kitB "bool" "tuple" = some false := by decide
@[simp] theorem kitB_bool_bool : kitB "bool" "bool" = some true := by decide
@[simp] theorem kitB_bool_int : kitB "bool" "int" = some true := by decide
@[simp] theorem kitB_bool_dict : kitB "bool" "dict" = some false := by decide
@[simp] theorem kitB_int_str : kitB "int" "str" = some false := by decide
@[simp] theorem kitB_int_list : kitB "int" "list" = some false := by decide
@[simp] theorem kitB_int_tuple : kitB "int" "tuple" = some false := by decide
@[simp] theorem kitB_int_bool : kitB "int" "bool" = some false := by decide
@[simp] theorem kitB_int_int : kitB "int" "int" = some true := by decide
@[simp] theorem kitB_int_dict : kitB "int" "dict" = some false := by decide
@[simp] theorem kitB_str_str : kitB "str" "str" = some true := by decide
@[simp] theorem kitB_str_list : kitB "str" "list" = some false := by decide
@[simp] theorem kitB_str_tuple : kitB "str" "tuple" = some false := by decide
@[simp] theorem kitB_str_bool : kitB "str" "bool" = some false := by decide
@[simp] theorem kitB_str_int : kitB "str" "int" = some false := by decide
@[simp] theorem kitB_str_dict : kitB "str" "dict" = some false := by decide
@[simp] theorem kitB_tuple_str : kitB "tuple" "str" = some false := by decide
@[simp] theorem kitB_tuple_list : kitB "tuple" "list" = some false := by decide
@[simp] theorem kitB_tuple_tuple : kitB "tuple" "tuple" = some true := by decide
@[simp] theorem kitB_tuple_bool : kitB "tuple" "bool" = some false := by decide
@[simp] theorem kitB_tuple_int : kitB "tuple" "int" = some false := by decide
@[simp] theorem kitB_tuple_dict : kitB "tuple" "dict" = some false := by decide
@[simp] theorem kitB_list_str : kitB "list" "str" = some false := by decide
@[simp] theorem kitB_list_list : kitB "list" "list" = some true := by decide
@[simp] theorem kitB_list_tuple : kitB "list" "tuple" = some false := by decide
@[simp] theorem kitB_list_bool : kitB "list" "bool" = some false := by decide
@[simp] theorem kitB_list_int : kitB "list" "int" = some false := by decide
@[simp] theorem kitB_list_dict : kitB "list" "dict" = some false := by decide
@[simp] theorem kitB_dict_str : kitB "dict" "str" = some false := by decide
@[simp] theorem kitB_dict_list : kitB "dict" "list" = some false := by decide
@[simp] theorem kitB_dict_tuple : kitB "dict" "tuple" = some false := by decide
@[simp] theorem kitB_dict_bool : kitB "dict" "bool" = some false := by decide
@[simp] theorem kitB_dict_int : kitB "dict" "int" = some false := by decide
@[simp] theorem kitB_dict_dict : kitB "dict" "dict" = some true := by decide
end DL
namespace DL
open PySem L2
class Dt (α : Type) [DecidableEq α] where
  d : α → D
  py : α → PyData
  ok : α → Prop
  dep : Nat
  pyd : ∀ a, (d a).py = some (py a)
  eqv : ∀ a b, PyData.eqv (py a) (py b) = decide (a = b)
  lay : ∀ a, ok a → (py a).canLay0 = true
  dle : ∀ a, (py a).depth ≤ dep
def okS (s : Str) : Prop := ∀ c ∈ s.cps.toList, c < 0x110000
theorem okS_lay {s : Str} (h : okS s) : (PyData.str s).canLay0 = true := by
  simp only [PyData.canLay0, PySem.PyData.strOk]
  rw [Array.all_eq_true']
  intro c hc
  exact decide_eq_true (h c (by simpa using hc))
theorem dec_beq {α : Type} [BEq α] [LawfulBEq α] [DecidableEq α] (a b : α) : (a == b) = decide (a = b) := by rw [Bool.eq_iff_iff, beq_iff_eq, decide_eq_true_eq]
instance : Dt Int where
  d := .int
  py := .int
  ok _ := True
  dep := 0
  pyd _ := by simp [D.py]
  eqv a b := by simp only [PyData.eqv]; exact dec_beq a b
  lay _ _ := by simp [PyData.canLay0]
  dle _ := Nat.le_refl _
instance : Dt Bool where
  d := .bl
  py := .bool
  ok _ := True
  dep := 0
  pyd _ := by simp [D.py]
  eqv a b := by simp only [PyData.eqv]; exact dec_beq a b
  lay _ _ := by simp [PyData.canLay0]
  dle _ := Nat.le_refl _
instance : Dt Str where
  d := .str
  py := .str
  ok s := okS s
  dep := 0
  pyd _ := by simp [D.py]
  eqv a b := by simp only [PyData.eqv]; exact dec_beq a b
  lay _ h := okS_lay h
  dle _ := Nat.le_refl _
section
variable {α : Type} [DecidableEq α] [Dt α]
theorem pyAll_dt : ∀ xs : List α, pyAll (xs.map Dt.d) = some (xs.map Dt.py)
  | [] => by simp [pyAll]
  | x :: xs => by simp only [List.map_cons, pyAll, Dt.pyd, pyAll_dt xs]
theorem eqvAll_map : ∀ xs ys : List α, PyData.eqvAll (xs.map Dt.py) (ys.map Dt.py) = decide (xs = ys)
  | [], [] => by simp [PyData.eqvAll]
  | [], _ :: _ => by simp [PyData.eqvAll]
  | _ :: _, [] => by simp [PyData.eqvAll]
  | x :: xs, y :: ys => by
    rw [List.map_cons, List.map_cons, PyData.eqvAll, Dt.eqv x y, eqvAll_map xs ys, ← Bool.decide_and]
    exact decide_eq_decide.mpr (by rw [List.cons.injEq])
theorem layAll_map : ∀ xs : List α, (∀ x ∈ xs, Dt.ok x) → PyData.canLayAll0 (xs.map Dt.py) = true
  | [], _ => by simp [PyData.canLayAll0]
  | x :: xs, h => by simp [PyData.canLayAll0, Dt.lay x (h x (by simp)), layAll_map xs fun y hy => h y (by simp [hy])]
theorem depAll_map : ∀ xs : List α, PyData.depthAll (xs.map Dt.py) ≤ Dt.dep α
  | [] => Nat.zero_le _
  | x :: xs => by
    rw [List.map_cons, PyData.depthAll]
    exact Nat.max_le.mpr ⟨Dt.dle x, depAll_map xs⟩
instance : Dt (List α) where
  d xs := .lst (xs.map Dt.d)
  py xs := .list (xs.map Dt.py)
  ok xs := ∀ x ∈ xs, Dt.ok x
  dep := Dt.dep α + 1
  pyd xs := by simp [D.py, pyAll_dt]
  eqv xs ys := by simp only [PyData.eqv]; exact eqvAll_map xs ys
  lay xs h := by simp only [PyData.canLay0]; exact layAll_map xs h
  dle xs := by simp only [PyData.depth]; exact Nat.succ_le_succ (depAll_map xs)
theorem pEqB_dt {a b : α} (ha : Dt.ok a) (hb : Dt.ok b) (h : Dt.dep α ≤ 64 := by decide) : pEqB (Dt.d a) (Dt.d b) = some (decide (a = b)) := by
  have s1 : SeqAt.shaped (Dt.py a) = true := by unfold SeqAt.shaped; rw [Dt.lay a ha]; simpa using Nat.le_trans (Dt.dle a) h
  have s2 : SeqAt.shaped (Dt.py b) = true := by unfold SeqAt.shaped; rw [Dt.lay b hb]; simpa using Nat.le_trans (Dt.dle b) h
  simp [pEqB, Dt.pyd, s1, s2, Dt.eqv]
end
theorem pEqB_int (i j : Int) : pEqB (.int i) (.int j) = some (decide (i = j)) := pEqB_dt (a := i) (b := j) trivial trivial
theorem pEqB_bl (i j : Bool) : pEqB (.bl i) (.bl j) = some (decide (i = j)) := pEqB_dt (a := i) (b := j) trivial trivial
@[simp] theorem pEq_int (i j : Int) : pEq (.int i) (.int j) = some (.bl (decide (i = j))) := by unfold pEq; rw [pEqB_int]; rfl
@[simp] theorem pNe_int (i j : Int) : pNe (.int i) (.int j) = some (.bl (!decide (i = j))) := by unfold pNe; rw [pEqB_int]; rfl
@[simp] theorem pEq_bl (i j : Bool) : pEq (.bl i) (.bl j) = some (.bl (decide (i = j))) := by unfold pEq; rw [pEqB_bl]; rfl
@[simp] theorem pNe_bl (i j : Bool) : pNe (.bl i) (.bl j) = some (.bl (!decide (i = j))) := by unfold pNe; rw [pEqB_bl]; rfl
def mkS (cs : List Nat) : Str := ⟨cs.toArray⟩
theorem mkS_of (s : Str) : mkS s.cps.toList = s := by cases s; simp [mkS]
@[simp] theorem mkS_cps (cs : List Nat) : (mkS cs).cps.toList = cs := by simp [mkS]
@[simp] theorem mkS_len (cs : List Nat) : (mkS cs).length = cs.length := by simp [mkS, Str.length]
theorem mkS_inj {a b : List Nat} : mkS a = mkS b ↔ a = b := ⟨fun h => by have := congrArg (fun s => s.cps.toList) h; simpa using this, fun h => by rw [h]⟩
theorem mkS_app (a b : List Nat) : mkS a ++ mkS b = mkS (a ++ b) := by
  show (⟨a.toArray ++ b.toArray⟩ : Str) = ⟨(a ++ b).toArray⟩
  simp
theorem mkS_ext {a b : Str} (h : a.cps.toList = b.cps.toList) : a = b := by rw [← mkS_of a, ← mkS_of b, h]
theorem cutS_cps (z : Str) (lo hi : Option Int) : (cutS z lo hi).cps.toList = (z.cps.toList.drop (HT.sIx z.length 0 lo)).take (HT.sIx z.length z.length hi - HT.sIx z.length 0 lo) := by simp [cutS]
theorem repS_cps (z : Str) (n : Nat) : (repS z n).cps.toList = (List.replicate n z.cps.toList).flatten := by simp [repS]
@[simp] theorem strL_map (xs : List Str) : strL (xs.map .str) = some xs := by
  induction xs with
  | nil => rfl
  | cons x xs ih => simp [ih]
@[simp] theorem bools_map {α : Type} (l : List α) (f : α → Bool) : bools (l.map fun x => .bl (f x)) = some (l.map f) := by
  induction l with
  | nil => rfl
  | cons x xs ih => simp [ih]
@[simp] def lc1 (g : DGx) (f : DEx) (vs : List Nat) (d : D) (ρ : En) (st : Store) : R := match g d ρ with
  | none => .bad
  | some ρ => match f ρ st with
    | .ok y ρ st => .ok y (wipeR ρ vs) st
    | _ => .bad
@[simp] def lc2 (g : DGx) (c f : DEx) (vs : List Nat) (d : D) (ρ : En) (st : Store) : R := match g d ρ with
  | none => .bad
  | some ρ => match c ρ st with
    | .ok (.bl true) ρ st => (match f ρ st with
      | .ok y ρ st => .ok (.tup [y]) (wipeR ρ vs) st
      | _ => .bad)
    | .ok (.bl false) ρ st => .ok (.tup []) (wipeR ρ vs) st
    | _ => .bad
theorem lcGo_cons {g : DGx} {c f : DEx} {vs : List Nat} {ρ : En} {st : Store} {d : D} {ds acc : List D} {ys : List D} {ρ' : En} {st' : Store} (h : lc2 g c f vs d ρ st = .ok (.tup ys) ρ' st') : lcGo g c f vs (d :: ds) acc ρ st = lcGo g c f vs ds (acc ++ ys) ρ' st' := by
  unfold lc2 at h
  show (match g d ρ with
    | none => R.bad
    | some ρ => match c ρ st with
      | .ok (.bl true) ρ st => (match f ρ st with
        | .ok y ρ st => lcGo g c f vs ds (acc ++ [y]) (wipeR ρ vs) st
        | _ => .bad)
      | .ok (.bl false) ρ st => lcGo g c f vs ds acc (wipeR ρ vs) st
      | _ => .bad) = _
  cases e1 : g d ρ with
  | none => simp [e1] at h
  | some ρ1 =>
    simp only [e1] at h ⊢
    cases e2 : c ρ1 st with
    | ok b ρ2 st2 =>
      cases b with
      | bl b =>
        cases b with
        | true =>
          simp only [e2] at h ⊢
          cases e3 : f ρ2 st2 with
          | ok y ρ3 st3 =>
            simp only [e3, R.ok.injEq, D.tup.injEq] at h ⊢
            obtain ⟨rfl, rfl, rfl⟩ := h
            rfl
          | exc _ _ _ => simp [e3] at h
          | bad => simp [e3] at h
        | false =>
          simp only [e2, R.ok.injEq, D.tup.injEq] at h ⊢
          obtain ⟨rfl, rfl, rfl⟩ := h
          simp
      | _ => simp [e2] at h
    | exc _ _ _ => simp [e2] at h
    | bad => simp [e2] at h
@[simp] theorem ixN_nat (n k : Nat) : ixN n (k : Int) = if k < n then some k else none := by
  unfold ixN
  rw [if_pos (by omega)]
  by_cases h : k < n
  · rw [if_pos h, if_pos (by omega)]; rfl
  · rw [if_neg h, if_neg (by omega)]
@[simp] theorem atI_nat {α : Type} (xs : List α) (k : Nat) : atI xs (k : Int) = xs[k]? := by
  unfold atI
  rw [ixN_nat]
  by_cases h : k < xs.length
  · simp [h]
  · simp [h]
@[simp] theorem atI_zero {α : Type} (xs : List α) : atI xs 0 = xs[0]? := atI_nat xs 0
@[simp] theorem atI_one {α : Type} (xs : List α) : atI xs 1 = xs[1]? := atI_nat xs 1
@[simp] theorem atI_2 {α : Type} (xs : List α) : atI xs 2 = xs[2]? := atI_nat xs 2
@[simp] theorem atI_3 {α : Type} (xs : List α) : atI xs 3 = xs[3]? := atI_nat xs 3
@[simp] theorem atI_4 {α : Type} (xs : List α) : atI xs 4 = xs[4]? := atI_nat xs 4
@[simp] theorem atI_5 {α : Type} (xs : List α) : atI xs 5 = xs[5]? := atI_nat xs 5
@[simp] theorem atI_6 {α : Type} (xs : List α) : atI xs 6 = xs[6]? := atI_nat xs 6
theorem lc2_of1 {g : DGx} {f : DEx} {vs : List Nat} {ρ ρ' : En} {st st' : Store} {d y : D} (h : lc1 g f vs d ρ st = .ok y ρ' st') : lc2 g yesD f vs d ρ st = .ok (.tup [y]) ρ' st' := by
  unfold lc1 at h
  unfold lc2
  cases e1 : g d ρ with
  | none => simp [e1] at h
  | some ρ1 =>
    simp only [e1, yesD_s] at h ⊢
    cases e3 : f ρ1 st with
    | ok y ρ3 st3 =>
      simp only [e3, R.ok.injEq] at h ⊢
      obtain ⟨rfl, rfl, rfl⟩ := h
      exact ⟨rfl, rfl, rfl⟩
    | exc _ _ _ => simp [e3] at h
    | bad => simp [e3] at h
theorem lc_fmC' {α : Type} {g : DGx} {c e : DEx} {vs : List Nat} {ρ : En} {st : Store} (f F : α → D) (B : α → Bool) : ∀ (cs : List α) (acc : List D), (∀ x ∈ cs, lc2 g c e vs (f x) ρ st = .ok (.tup (if B x then [F x] else [])) ρ st) →
    lcGo g c e vs (cs.map f) acc ρ st = .ok (.lst (acc ++ (cs.filter B).map F)) ρ st
  | [], acc, _ => by simp [lcGo]
  | d :: ds, acc, h => by
    rw [List.map_cons, lcGo_cons (h d (List.mem_cons_self ..)), lc_fmC' f F B ds _ fun d hd => h d (List.mem_cons_of_mem _ hd)]
    cases e : B d <;> simp [e]
theorem lc_fmC {α : Type} {g : DGx} {c e : DEx} {vs : List Nat} {ρ : En} {st : Store} (f F : α → D) (B : α → Bool) (cs : List α) (h : ∀ x ∈ cs, lc2 g c e vs (f x) ρ st = .ok (.tup (if B x then [F x] else [])) ρ st) :
    lcGo g c e vs (cs.map f) [] ρ st = .ok (.lst ((cs.filter B).map F)) ρ st := by simpa using lc_fmC' f F B cs [] h
theorem lc_mapC' {α : Type} {g : DGx} {e : DEx} {vs : List Nat} {ρ : En} {st : Store} (f F : α → D) : ∀ (cs : List α) (acc : List D), (∀ x ∈ cs, lc1 g e vs (f x) ρ st = .ok (F x) ρ st) →
    lcGo g yesD e vs (cs.map f) acc ρ st = .ok (.lst (acc ++ cs.map F)) ρ st
  | [], acc, _ => by simp [lcGo]
  | d :: ds, acc, h => by
    rw [List.map_cons, lcGo_cons (lc2_of1 (h d (List.mem_cons_self ..))), lc_mapC' f F ds _ fun d hd => h d (List.mem_cons_of_mem _ hd)]
    simp
theorem lc_mapC {α : Type} {g : DGx} {e : DEx} {vs : List Nat} {ρ : En} {st : Store} (f F : α → D) (cs : List α) (h : ∀ x ∈ cs, lc1 g e vs (f x) ρ st = .ok (F x) ρ st) :
    lcGo g yesD e vs (cs.map f) [] ρ st = .ok (.lst (cs.map F)) ρ st := by simpa using lc_mapC' f F cs [] h
@[simp] theorem pInX_char (n : Bool) (c : Nat) (z : Str) : pInX n (.str ⟨#[c]⟩) (.str z) = some (.bl (if n then !decide (c ∈ z.cps.toList) else decide (c ∈ z.cps.toList))) := by simp [pInX, pInB]
@[simp] theorem pAll_map {α : Type} (l : List α) (f : α → Bool) : pAll (.lst (l.map fun x => .bl (f x))) = some (.bl (l.all f)) := by
  simp only [pAll, bools_map, Option.map_some]
  congr 2
  induction l with
  | nil => rfl
  | cons x xs ih => simp
end DL
namespace DL
open PySem L2
section
variable {K : PySem.W.Frag} {mg : MG} {w : Ws}
theorem Aft.kill (s : Sts K mg w) {l : Nat} {a : Addr} {c : Cell} {o : HO} (h0 : w.st[l]? = some c) (hd : c ≠ .dead) (h1 : w.ι[l]? = some a) (ha : w.H a = some o) :
    Aft K mg w { w with G := upd w.G a o, st := w.st.set l .dead } := by
  have own : Liv w l a := ⟨c, h0, hd, h1⟩
  have ga : w.G a = none := s.mtG own.mt
  have sg := same_upd (o := o) ga
  have sub' : Same (upd w.G a o) w.H := fun b u e => by
    by_cases h : b = a
    · subst h; rw [upd_same] at e; rw [ha]; exact e
    · rw [upd_ne h] at e; exact s.sub _ _ e
  have lv : ∀ k b, Liv { w with G := upd w.G a o, st := w.st.set l .dead } k b → Liv w k b ∧ k ≠ l := fun k b h => by
    obtain ⟨c', q1, q2, q3⟩ := h
    rcases getElem?_set_ite q1 with ⟨_, e, _⟩ | ⟨ne, e⟩
    · exact absurd e q2
    · exact ⟨⟨c', e, q2, q3⟩, ne⟩
  have gne : ∀ b, b ≠ a → w.G b = none → upd w.G a o b = none := fun b hb e => by rw [upd_ne hb]; exact e
  refine ⟨⟨s.lowG.trans sg, s.lowI, sub', s.ln, by simpa using s.len, fun k c' b q1 q2 => ?_, fun k k' b q1 q2 => s.inj k k' b (lv k b q1).1 (lv k' b q2).1, fun i x h => ?_, fun i k b q1 q2 => s.sep i k b q1 (lv k b q2).1, s.dis⟩, sg, LeI.refl _, fun _ _ h _ => h, fun b h => ?_, fun b h => ?_, fun _ h => h⟩
  · rcases getElem?_set_ite q1 with ⟨_, e2, _⟩ | ⟨ne, e⟩
    · subst e2; trivial
    · exact (s.cel k c' b e q2).keep (w' := { w with G := upd w.G a o, st := w.st.set l .dead }) sg (LeI.refl _) (fun n => ⟨gne b (fun q : b = a => ne (s.inj k l b ⟨c', e, n, q2⟩ (q ▸ own))) (s.mtG (.inl ⟨k, c', e, n, q2⟩)), fun _ e => e⟩) sub'
  · refine (s.slo i x h).keep (w' := { w with G := upd w.G a o, st := w.st.set l .dead }) sg (LeI.refl _) fun b ⟨es, e3⟩ h2 => ?_
    have o2 : OwnS w i b := ⟨es, by rw [h, e3], h2⟩
    exact ⟨gne b (fun q : b = a => s.sep i l b o2 (q ▸ own)) (s.mtG o2.mt), fun _ e => e⟩
  · rcases h with ⟨k, h⟩ | h
    · exact .inl (.inl ⟨k, (lv k b h).1⟩)
    · exact .inl (.inr h)
  · by_cases e : b = a
    · subst e; exact .inr (.inl own.mt)
    · refine .inl ?_
      have h' : upd w.G a o b ≠ none := h
      rwa [upd_ne e] at h'
theorem Aft.newCellG {w0 : Ws} (A : Aft K mg w0 w) {a : Addr} {c : Cell} (hf : w0.H a = none) (hl : Loose w a) (hc : c ≠ .dead) (r : CellAt K mg w a c) :
    Aft K mg w0 { w with ι := w.ι ++ [a], st := w.st ++ [c] } := by
  have s := A.s
  have le := leI_append w.ι a
  have lv : ∀ l b, Liv { w with ι := w.ι ++ [a], st := w.st ++ [c] } l b → (l = w.st.length ∧ b = a) ∨ Liv w l b := fun l b h => by
    obtain ⟨c, h1, h2, h3⟩ := h
    rcases getElem?_append_one h1 with h1 | ⟨h1, _⟩
    · rcases getElem?_append_one h3 with h3 | ⟨h3, _⟩
      · exact .inr ⟨c, h1, h2, h3⟩
      · have := (List.getElem?_eq_some_iff.mp h1).1
        rw [s.len] at this; omega
    · rcases getElem?_append_one h3 with h3 | ⟨_, h3⟩
      · have := (List.getElem?_eq_some_iff.mp h3).1
        rw [← s.len] at this; omega
      · exact .inl ⟨h1, h3⟩
  refine ⟨⟨s.lowG, s.lowI.trans le, s.sub, s.ln, by simp [s.len], fun l c b h1 h2 => ?_, fun l l' b h1 h2 => ?_, fun i x h => ?_, fun i l b h1 h2 => ?_, s.dis⟩, A.g, A.i.trans le, A.kp, fun b h => ?_, A.gn, A.al⟩
  · rcases getElem?_append_one h1 with h1 | ⟨h1, e⟩
    · rcases getElem?_append_one h2 with h2 | ⟨h2, _⟩
      · exact (s.cel l c b h1 h2).keep (w' := { w with ι := w.ι ++ [a], st := w.st ++ [_] }) (Same.refl _) le (fun n => ⟨s.mtG (.inl ⟨l, c, h1, n, h2⟩), fun _ e => e⟩) s.sub
      · have := (List.getElem?_eq_some_iff.mp h1).1
        rw [s.len] at this; omega
    · rcases getElem?_append_one h2 with h2 | ⟨_, h3⟩
      · have := (List.getElem?_eq_some_iff.mp h2).1
        rw [← s.len] at this; omega
      · subst e; subst h3
        exact r.keep (w' := { w with ι := w.ι ++ [_], st := w.st ++ [_] }) (Same.refl _) le (fun _ => ⟨hl.1, fun _ e => e⟩) s.sub
  · rcases lv l b h1 with ⟨e1, e⟩ | q1 <;> rcases lv l' b h2 with ⟨e2, e'⟩ | q2
    · rw [e1, e2]
    · subst e; exact (hl.2 (.inl ⟨l', q2⟩)).elim
    · subst e'; exact (hl.2 (.inl ⟨l, q1⟩)).elim
    · exact s.inj l l' b q1 q2
  · exact (s.slo i x h).keep (w' := { w with ι := w.ι ++ [a], st := w.st ++ [c] }) (Same.refl _) le fun b ⟨es, e⟩ h2 => ⟨s.mtG (.inr ⟨i, es, by rw [h, e], h2⟩), fun _ e => e⟩
  · rcases lv l b h2 with ⟨_, e⟩ | q2
    · subst e; exact hl.2 (.inr ⟨i, h1⟩)
    · exact s.sep i l b h1 q2
  · rcases h with ⟨l, h⟩ | h
    · rcases lv l b h with ⟨_, e⟩ | q
      · subst e; exact .inr hf
      · exact A.nw b (.inl ⟨l, q⟩)
    · exact A.nw b (.inr h)
end
mutual
def frz : D → Store → Option (D × Store)
  | .ref l, st => match st[l]? with
    | some (.lst ds) => some (.lst ds, st.set l .dead)
    | some (.dct ds) => some (.dct ds, st.set l .dead)
    | some (.ins c fs) => some (.ins c fs, st.set l .dead)
    | _ => none
  | .tup ds, st => match frzs ds st with
    | some (ds', st') => some (.tup ds', st')
    | none => none
  | .lst ds, st => match frzs ds st with
    | some (ds', st') => some (.lst ds', st')
    | none => none
  | d, st => some (d, st)
def frzs : List D → Store → Option (List D × Store)
  | [], st => some ([], st)
  | d :: ds, st => match frz d st with
    | some (d', st') => (match frzs ds st' with
      | some (ds', st'') => some (d' :: ds', st'')
      | none => none)
    | none => none
end
section
variable {K : PySem.W.Frag} {mg : MG}
def FrzOk (K : PySem.W.Frag) (mg : MG) (w w' : Ws) (st' : Store) : Prop := w'.ρ = w.ρ ∧ w'.σ = w.σ ∧ w'.H = w.H ∧ w'.st = st' ∧ Aft K mg w w'
theorem FrzOk.refl {w : Ws} (s : Sts K mg w) : FrzOk K mg w w w.st := ⟨rfl, rfl, rfl, rfl, .refl s⟩
theorem FrzOk.trans {w w1 w2 : Ws} {st1 st2 : Store} (a : FrzOk K mg w w1 st1) (b : FrzOk K mg w1 w2 st2) : FrzOk K mg w w2 st2 :=
  ⟨b.1.trans a.1, b.2.1.trans a.2.1, b.2.2.1.trans a.2.2.1, b.2.2.2.1, a.2.2.2.2.trans b.2.2.2.2⟩
theorem frz_ref {w : Ws} (s : Sts K mg w) {v : V} {l : Nat} {d' : D} {st' : Store} (r : Rep K mg w.G w.ι v (.ref l)) (h : frz (.ref l) w.st = some (d', st')) : ∃ w', FrzOk K mg w w' st' ∧ Rep K mg w'.G w'.ι v d' := by
  cases r with
  | ref hi =>
    rename_i a
    rw [frz] at h
    split at h
    · rename_i ds e
      cases h
      obtain ⟨_, vs, e1, e2, e3⟩ := s.cel l _ a e hi
      have A := Aft.kill s e (by simp) hi e1
      exact ⟨{ w with G := upd w.G a (.lst vs), st := w.st.set l .dead }, ⟨rfl, rfl, rfl, rfl, A⟩, .lst upd_same e2 (e3.mono A.g A.i)⟩
    · rename_i ds e
      cases h
      obtain ⟨_, vs, e1, e3⟩ := s.cel l _ a e hi
      have A := Aft.kill s e (by simp) hi e1
      exact ⟨{ w with G := upd w.G a (.dK vs), st := w.st.set l .dead }, ⟨rfl, rfl, rfl, rfl, A⟩, .dct (.inl upd_same) (e3.mono A.g A.i)⟩
    · rename_i c fs e
      cases h
      obtain ⟨_, C, dx, vs, e0, e1, e2, e3, e4⟩ := s.cel l _ a e hi
      have A := Aft.kill s e (by simp) hi e1
      exact ⟨{ w with G := upd w.G a (.ins C dx vs), st := w.st.set l .dead }, ⟨rfl, rfl, rfl, rfl, A⟩, .ins e0 upd_same (A.g _ _ e3) (e4.mono A.g A.i)⟩
    · cases h
mutual
theorem frz_ok : ∀ (d : D) {w : Ws} {v : V} {d' : D} {st' : Store}, Sts K mg w → Rep K mg w.G w.ι v d → frz d w.st = some (d', st') → ∃ w', FrzOk K mg w w' st' ∧ Rep K mg w'.G w'.ι v d'
  | .ref l, w, v, d', st', s, r, h => frz_ref s r h
  | .tup ds, w, v, d', st', s, r, h => by
    cases r with
    | tup h1 h2 h3 =>
      rw [frz] at h
      split at h
      · rename_i ds' st2 e
        cases h
        obtain ⟨w', F, rs⟩ := frzs_ok ds s h3 e
        exact ⟨w', F, .tup (SqT.mono F.2.2.2.2.g h1) h2 rs⟩
      · cases h
  | .lst ds, w, v, d', st', s, r, h => by
    cases r with
    | lst h1 h2 h3 =>
      rw [frz] at h
      split at h
      · rename_i ds' st2 e
        cases h
        obtain ⟨w', F, rs⟩ := frzs_ok ds s h3 e
        exact ⟨w', F, .lst (F.2.2.2.2.g _ _ h1) h2 rs⟩
      · cases h
  | .non, w, v, d', st', s, r, h => by simp [frz] at h; obtain ⟨rfl, rfl⟩ := h; exact ⟨w, .refl s, r⟩
  | .bl _, w, v, d', st', s, r, h => by simp [frz] at h; obtain ⟨rfl, rfl⟩ := h; exact ⟨w, .refl s, r⟩
  | .int _, w, v, d', st', s, r, h => by simp [frz] at h; obtain ⟨rfl, rfl⟩ := h; exact ⟨w, .refl s, r⟩
  | .str _, w, v, d', st', s, r, h => by simp [frz] at h; obtain ⟨rfl, rfl⟩ := h; exact ⟨w, .refl s, r⟩
  | .dct _, w, v, d', st', s, r, h => by simp [frz] at h; obtain ⟨rfl, rfl⟩ := h; exact ⟨w, .refl s, r⟩
  | .lsk _, w, v, d', st', s, r, h => by simp [frz] at h; obtain ⟨rfl, rfl⟩ := h; exact ⟨w, .refl s, r⟩
  | .dlk _, w, v, d', st', s, r, h => by simp [frz] at h; obtain ⟨rfl, rfl⟩ := h; exact ⟨w, .refl s, r⟩
  | .ins _ _, w, v, d', st', s, r, h => by simp [frz] at h; obtain ⟨rfl, rfl⟩ := h; exact ⟨w, .refl s, r⟩
  | .glb _, w, v, d', st', s, r, h => by simp [frz] at h; obtain ⟨rfl, rfl⟩ := h; exact ⟨w, .refl s, r⟩
  | .typ _, w, v, d', st', s, r, h => by simp [frz] at h; obtain ⟨rfl, rfl⟩ := h; exact ⟨w, .refl s, r⟩
theorem frzs_ok : ∀ (ds : List D) {w : Ws} {vs : List V} {ds' : List D} {st' : Store}, Sts K mg w → Reps K mg w.G w.ι vs ds → frzs ds w.st = some (ds', st') → ∃ w', FrzOk K mg w w' st' ∧ Reps K mg w'.G w'.ι vs ds'
  | [], w, vs, ds', st', s, r, h => by
    cases r
    simp [frzs] at h; obtain ⟨rfl, rfl⟩ := h; exact ⟨w, .refl s, .nil⟩
  | d :: ds, w, vs, ds', st', s, r, h => by
    cases r with
    | cons r1 r2 =>
      rw [frzs] at h
      split at h
      · rename_i d1 st1 e1
        split at h
        · rename_i ds2 st2 e2
          cases h
          obtain ⟨w1, F1, q1⟩ := frz_ok d s r1 e1
          have A1 := F1.2.2.2.2
          rw [← F1.2.2.2.1] at e2
          obtain ⟨w2, F2, q2⟩ := frzs_ok ds A1.s (r2.mono A1.g A1.i) e2
          have A2 := F2.2.2.2.2
          exact ⟨w2, F1.trans F2, .cons (q1.mono A2.g A2.i) q2⟩
        · cases h
      · cases h
end
end
section
variable {X : Cx} {W : WB} {e : Expr} {f : DEx}
end
@[simp] def cellE (f : DEx) (ρ : En) (st : Store) : R := (f ρ st).bind fun d ρ st => match d with
  | .lst ds => .ok (.ref st.length) ρ (st ++ [.lst ds])
  | _ => .bad
theorem DO.cell {X : Cx} {W : WB} {e : Expr} {f : DEx} (h : DO X W e f) : DE X W e (cellE f) := by
  obtain ⟨⟨t, p, r⟩, hl⟩ := h
  refine ⟨t, p, fun w Q s q => r w Q s ?_⟩
  unfold cellE at q
  cases e1 : f w.ρ w.st with
  | ok d ρ st =>
    rw [e1] at q
    obtain ⟨ds, rfl⟩ := hl _ _ _ _ _ e1
    intro w' a vs h1 h2 h3 A fr lo ha hz rp
    subst h1; subst h2
    have A1 := A.newCell fr lo ha hz rp
    exact q { w' with ι := w'.ι ++ [a], st := w'.st ++ [.lst ds] } (.ref a) rfl rfl h3 A1 (cellRep A)
  | exc c ρ st => rw [e1] at q; exact q
  | bad => rw [e1] at q; exact q
end DL
namespace DL
open PySem L2
@[simp] def insOf (st : Store) : D → Option (Str × List (Str × D))
  | .ins c fs => some (c, fs)
  | .ref l => match st[l]? with
    | some (.ins c fs) => some (c, fs)
    | _ => none
  | _ => none
section
variable {K : PySem.W.Frag} {mg : MG}
theorem insOf_inv {w : Ws} (s : Sts K mg w) {v : V} {d : D} {c : Str} {fs : List (Str × D)} (r : Rep K mg w.G w.ι v d) (h : insOf w.st d = some (c, fs)) :
    ∃ a C dx vs, v = .ref a ∧ mg c = some (.ref C) ∧ w.H a = some (.ins C dx vs) ∧ RepF K mg w.G w.ι vs fs := by
  unfold insOf at h
  split at h
  · cases h
    cases r with
    | ins h1 h2 h3 h4 => exact ⟨_, _, _, _, rfl, h1, s.sub _ _ h2, h4⟩
  · split at h
    · rename_i e
      cases h
      cases r with
      | ref hi =>
        obtain ⟨_, C, dx, vs, e0, e1, _, _, e4⟩ := s.cel _ _ _ e hi
        exact ⟨_, _, _, _, rfl, e0, e1, e4⟩
    · cases h
  · cases h
theorem RepF.lookup {G : Hp} {ι : List Addr} {f : Str} : ∀ {vs : List (Str × V)} {fs : List (Str × D)}, RepF K mg G ι vs fs → (∀ d, fs.lookup f = some d → ∃ v, vs.lookup f = some v ∧ Rep K mg G ι v d) ∧ (fs.lookup f = none → vs.lookup f = none)
  | _, _, .nil => ⟨fun _ h => by simp at h, fun _ => rfl⟩
  | _, _, .cons (k := k) r rs => by
    by_cases h : f = k
    · subst h
      refine ⟨fun d e => ?_, fun e => ?_⟩
      · simp only [List.lookup_cons, beq_self_eq_true] at e ⊢
        cases e; exact ⟨_, rfl, r⟩
      · simp [List.lookup_cons] at e
    · have hb : (f == k) = false := beq_eq_false_iff_ne.mpr h
      simp only [List.lookup_cons, hb]
      exact RepF.lookup rs
theorem RepF.len {G : Hp} {ι : List Addr} : ∀ {vs : List (Str × V)} {fs : List (Str × D)}, RepF K mg G ι vs fs → vs.length = fs.length
  | _, _, .nil => rfl
  | _, _, .cons r rs => by simp [RepF.len rs]
end
@[simp] def putFD (f : Str) (d : D) : List (Str × D) → List (Str × D)
  | [] => [(f, d)]
  | (g, x) :: r => if g = f then (g, d) :: r else (g, x) :: putFD f d r
theorem RepF.put {K : PySem.W.Frag} {mg : MG} {G : Hp} {ι : List Addr} {f : Str} {v : V} {d : D} (r : Rep K mg G ι v d) : ∀ {vs : List (Str × V)} {fs : List (Str × D)}, RepF K mg G ι vs fs → RepF K mg G ι (putF f v vs) (putFD f d fs)
  | _, _, .nil => .cons r .nil
  | _, _, .cons (k := k) (v := x) (d := y) (vs := vs) (ds := fs) q qs => by
    show RepF K mg G ι (if k = f then (k, v) :: vs else (k, x) :: putF f v vs) (if k = f then (k, d) :: fs else (k, y) :: putFD f d fs)
    by_cases h : k = f
    · rw [if_pos h, if_pos h]; exact .cons r qs
    · rw [if_neg h, if_neg h]; exact .cons q (RepF.put r qs)
def MCal (P : Program) (w : World) (K : PySem.W.Frag) (mg : Str → Option Value) (base : Heap) (k : Nat) (c m : Str) (n : Nat) (den : Den) (dds : List D) : Prop :=
  ∃ C f fd ps ds dvs, mg c = some (.ref C) ∧ Cls K C ∧ Meth K C m f ∧ FnOk P w K mg base (L2N.CX P w) k f fd ps (spD K mg n den) ∧ Binds K fd ps ds ∧ Vals dvs ds ∧ ∀ b G ι, Reps K ⟨mg, b⟩ G ι dvs dds
@[simp] def methD (c m : Str) (den : Den) (dds : List D) (g fa : DEx) (ρ : En) (st : Store) : R := (g ρ st).bind fun d ρ st => match insOf st d with
  | some (c', fs) => if c' = c ∧ fs.lookup m = none then (fa ρ st).bind fun a ρ st => (match a with
    | .tup ds => (match den (d :: (ds ++ dds)) st with
      | .ok r _ st' => .ok r ρ st'
      | .exc c _ st' => .exc c ρ st'
      | .bad => .bad)
    | _ => .bad) else .bad
  | none => .bad
theorem passes_const {X : Cx} {E : XK} {b : Low} (tk : L2N.Takes X (WEb b E)) : Passes (L2N.CX X.prog X.w) X E := fun pins σ H s e s' I c => L2N.passAt tk σ pins H s e s' I c
theorem ref_meth {K : PySem.W.Frag} {mg : Str → Option Value} {E : XK} {b : Low} {ta : TE} {t : TA} {C : Addr} {c m : Str} {n : Nat} {den : Den} {dvs : List V} {dds : List D} {g fa : DEx} (hm : mg c = some (.ref C)) (hd : ∀ G ι, Reps K ⟨mg, b⟩ G ι dvs dds) (ra : RefE K ⟨mg, b⟩ (WEb b E) ta g) (rt : RefA K ⟨mg, b⟩ (WEb b E) t fa)
    (hl : ∀ ρ st d ρ' st', fa ρ st = .ok d ρ' st' → ∃ ds, d = .tup ds ∧ ds.length + dds.length + 1 = n) : RefE K ⟨mg, b⟩ (WEb b E) (tMeth C m (spD K mg n den) dvs E ta t) (methD c m den dds g fa) := fun w Q s q => by
  refine ra.bindR s q fun w1 v d s1 e1 a1 rp q1 => ?_
  cases hz : insOf w1.st d with
  | none => simp only [hz] at q1; exact q1.elim
  | some cf =>
    obtain ⟨c', fs⟩ := cf
    simp only [hz] at q1
    by_cases hh : c' = c ∧ fs.lookup m = none
    · rw [if_pos hh] at q1
      obtain ⟨rfl, hlk⟩ := hh
      obtain ⟨a, C', dx, vs, rfl, hm', ha, rf⟩ := insOf_inv s1 rp hz
      have hm' := hm.symm.trans hm'
      cases hm'
      refine ⟨a, dx, vs, rfl, ha, rf.lookup.2 hlk, ?_⟩
      rw [← e1]
      refine rt.bind (P := OkR K ⟨mg, b⟩ (WEb b E) w1 Q) s1 q1 (fun d ρ st n => by cases d <;> first | rfl | exact absurd rfl (n _)) (fun _ _ _ z => z) (fun z => z) fun w2 us ds e2 a2 r2 ee q2 => ?_
      have l : us.length + dvs.length + 1 = n := by
        obtain ⟨ds', e', l⟩ := hl _ _ _ _ _ ee
        cases e'
        rw [r2.len, (hd w.G w.ι).len]; exact l
      refine sp_at (W := WEb b E) (σ := w2.σ) a2.s (by simp; omega) (.cons (rp.mono a2.g a2.i) (r2.append (hd _ _))) rfl ?_
      exact OkR.aft q2 a2 e2
    · rw [if_neg hh] at q1; exact q1.elim
theorem MCal.call {X : Cx} {E : XK} {b : Low} {k k' n : Nat} {den : Den} {c m : Str} {dds : List D} {o e : Expr} {es : List Expr} {g fa : DEx} {apos pos : Pos} {pl : Sem Bool} (M : MCal X.prog X.w X.K X.mg X.base k c m n den dds) (hr : Room k' X.A) (hk : k ≤ k') (tk : L2N.Takes X (WEb b E)) (ho : DE X (WEb b E) o g) (ha : DAn X (WEb b E) (e :: es) fa)
    (hn : (e :: es).length + dds.length + 1 = n := by rfl) (hst : starEach (e :: es) X.env = (false, eval e X.env) :: starEach es X.env := by rfl) (hpl : (backTo pos (starEach es X.env)).any (·.1) = false := by rfl)
    (ht : eval (.Call (.Attribute o m apos) (e :: es) [] pos) X.env = (do let ov ← eval o X.env; standAt apos.atName; let (f, first) ← holding [ov] (getMethod ov m pl); callWith pos f first (backTo pos (starEach (e :: es) X.env)) (backToKw pos (keywordEach [] X.env))) := by rfl) :
    DE X (WEb b E) (.Call (.Attribute o m apos) (e :: es) [] pos) (methD c m den dds g fa) := by
  obtain ⟨C, f, fd, ps, ds, dvs, hm, hC, hM, F, hB, hV, hD⟩ := M
  obtain ⟨to, po, ro⟩ := ho
  obtain ⟨⟨ta, pa, ra⟩, hl⟩ := ha
  refine ⟨_, pe_meth (pl := pl) po hC hM F (hr.mono hk) hB hV (passes_const tk) pa hst hpl ht, ref_meth hm (hD _) ro ra fun ρ st d ρ' st' h => ?_⟩
  obtain ⟨ds, e1, e2⟩ := hl _ _ _ _ _ h
  exact ⟨ds, e1, by rw [e2]; exact hn⟩
def KCal (P : Program) (w : World) (K : PySem.W.Frag) (mg : Str → Option Value) (base : Heap) (k : Nat) (c : Str) (n : Nat) (den : Den) (dds : List D) : Prop :=
  ∃ C f fd ps ds dvs, mg c = some (.ref C) ∧ Mk K C f ∧ FnOk P w K mg base (L2N.CX P w) k f fd ps (spD K mg n den) ∧ Binds K fd ps ds ∧ Vals dvs ds ∧ ∀ b G ι, Reps K ⟨mg, b⟩ G ι dvs dds
@[simp] def makeD (c : Str) (den : Den) (dds : List D) (fa : DEx) (ρ : En) (st : Store) : R := (fa ρ st).bind fun a ρ st => match a with
  | .tup ds => (match den (.ref st.length :: (ds ++ dds)) (st ++ [.ins c []]) with
    | .ok .non _ st' => .ok (.ref st.length) ρ st'
    | .exc x _ st' => .exc x ρ st'
    | _ => .bad)
  | _ => .bad
theorem ref_make {K : PySem.W.Frag} {mg : Str → Option Value} {E : XK} {b : Low} {t : TA} {C : Addr} {c : Str} {n : Nat} {den : Den} {dvs : List V} {dds : List D} {fa : DEx} (hm : mg c = some (.ref C)) (hd : ∀ G ι, Reps K ⟨mg, b⟩ G ι dvs dds) (rt : RefA K ⟨mg, b⟩ (WEb b E) t fa)
    (hl : ∀ ρ st d ρ' st', fa ρ st = .ok d ρ' st' → ∃ ds, d = .tup ds ∧ ds.length + dds.length + 1 = n) : RefE K ⟨mg, b⟩ (WEb b E) (tMake C (spD K mg n den) dvs E t) (makeD c den dds fa) := fun w Q s q => by
  refine rt.bind (P := OkR K ⟨mg, b⟩ (WEb b E) w Q) s q (fun d ρ st n => by cases d <;> first | rfl | exact absurd rfl (n _)) (fun _ _ _ z => z) (fun z => z) fun w2 us ds e2 a2 r2 ee q2 => ?_
  intro x dx hx hdx hne
  have l : us.length + dvs.length + 1 = n := by
    obtain ⟨ds', e', l⟩ := hl _ _ _ _ _ ee
    cases e'
    rw [r2.len, (hd w.G w.ι).len]; exact l
  have A1 := Aft.alloc (o := .own x) a2.s hdx
  let w3 : Ws := { w2 with G := upd w2.G dx (.own x), H := upd w2.H dx (.own x) }
  have hx3 : w3.H x = none := by show upd w2.H dx (.own x) x = none; rw [upd_ne (Ne.symm hne)]; exact hx
  have A2 : Aft K ⟨mg, b⟩ w3 { w3 with H := upd w3.H x (.ins C dx []) } := Aft.loose (o := .ins C dx []) A1.s hx3
  have lo : Loose { w3 with H := upd w3.H x (.ins C dx []) } x := Sts.looseAt (o := .ins C dx []) A1.s hx3
  have ce : CellAt K ⟨mg, b⟩ { w3 with H := upd w3.H x (.ins C dx []) } x (.ins c []) := by
    refine ⟨lo.1, C, dx, [], hm, upd_same, ?_, ?_, .nil⟩
    · show upd w3.H x _ dx = _
      rw [upd_ne hne]; exact upd_same
    · exact upd_same
  have A3 := Aft.newCellG A2 hx3 lo (by simp) ce
  have A13 := A1.trans A3
  let w4 : Ws := { w3 with H := upd w3.H x (.ins C dx []), ι := w3.ι ++ [x], st := w3.st ++ [.ins c []] }
  have A13' : Aft K ⟨mg, b⟩ w2 w4 := A13
  have rx : Rep K ⟨mg, b⟩ w4.G w4.ι (.ref x) (.ref w2.st.length) := .ref (by show (w2.ι ++ [x])[w2.st.length]? = some x; rw [a2.s.len]; simp)
  refine sp_at (W := WEb b E) (σ := w4.σ) (w := w4) A13'.s (by simp; omega) (.cons rx ((r2.mono A13'.g A13'.i).append (hd _ _))) rfl ?_
  show OkR K ⟨mg, b⟩ (WEb b E) w4 _ (match den (.ref w2.st.length :: (ds ++ dds)) (w2.st ++ [.ins c []]) with | .ok r _ st' => R.ok r w4.ρ st' | .exc c _ st' => .exc c w4.ρ st' | .bad => .bad)
  have q3 : OkR K ⟨mg, b⟩ (WEb b E) w Q (match den (.ref w2.st.length :: (ds ++ dds)) (w2.st ++ [.ins c []]) with | .ok .non _ st' => .ok (.ref w2.st.length) w2.ρ st' | .exc x _ st' => .exc x w2.ρ st' | _ => .bad) := q2
  cases e : den (.ref w2.st.length :: (ds ++ dds)) (w2.st ++ [.ins c []]) with
  | ok r ρ' st' =>
    rw [e] at q3
    cases r with
    | non =>
      intro w' v h1 h2 h3 A r
      cases r
      exact ⟨rfl, q3 w' (.ref x) h1 h2 (h3.trans e2) (a2.trans (A13'.trans A)) (rx.mono A.g A.i)⟩
    | _ => exact q3.elim
  | exc x' ρ' st' =>
    rw [e] at q3
    intro w' cls dx' h1 h2 h3 A r
    exact q3 w' cls dx' h1 h2 (h3.trans e2) (a2.trans (A13'.trans A)) r
  | bad => rw [e] at q3; exact q3.elim
theorem KCal.call {X : Cx} {E : XK} {b : Low} {k k' n : Nat} {den : Den} {c : Str} {dds : List D} {e : Expr} {es : List Expr} {fa : DEx} {p pos : Pos} (M : KCal X.prog X.w X.K X.mg X.base k c n den dds) (hr : Room k' X.A) (hk : k + 1 ≤ k') (hg : Gl X c) (tk : L2N.Takes X (WEb b E)) (ha : DAn X (WEb b E) (e :: es) fa)
    (hn : (e :: es).length + dds.length + 1 = n := by rfl) (hdb : (c == ("__debug__" : Str)) = false := by decide) (hst : starEach (e :: es) X.env = (false, eval e X.env) :: starEach es X.env := by rfl) (hpl : (backTo pos (starEach es X.env)).any (·.1) = false := by rfl) :
    DE X (WEb b E) (.Call (.Name c p) (e :: es) [] pos) (makeD c den dds fa) := by
  obtain ⟨C, f, fd, ps, ds, dvs, hm, hM, F, hB, hV, hD⟩ := M
  obtain ⟨⟨ta, pa, ra⟩, hl⟩ := ha
  refine ⟨_, pe_make hM F (hr.mono hk) hg hm hB hV (passes_const tk) pa hdb hst hpl, ref_make hm (hD _) ra fun ρ st d ρ' st' h => ?_⟩
  obtain ⟨ds, e1, e2⟩ := hl _ _ _ _ _ h
  exact ⟨ds, e1, by rw [e2]; exact hn⟩
end DL
namespace DL
open PySem L2
section
variable {K : PySem.W.Frag} {mg : MG} {W : WB}
end
section
variable {X : Cx} {W : WB} {name : Str} {id : String} {r : V → List V → Hp → VK → Prop} {k : MutK} {e o : Expr} {es : List Expr} {f g : DEx} {apos cpos : Pos}
end
end DL
namespace DL
open PySem L2
section
variable {K : PySem.W.Frag} {mg : MG} {W : WB}
end
section
variable {X : Cx} {W : WB} {name : Str} {id : String} {r : V → List V → Hp → VK → Prop} {p : Str → List D → Option D} {e o : Expr} {es : List Expr} {f g : DEx} {apos cpos : Pos}
end
end DL
namespace DL
open PySem L2
section
variable {K : PySem.W.Frag} {mg : MG} {W : WB}
def iOf (K : PySem.W.Frag) (mg : MG) (W : WB) (f : DEx) : TI := fun σ H Q => ∃ w, w.σ = σ ∧ w.H = H ∧ Sts K mg w ∧ OkI K mg W w Q (f w.ρ w.st)
theorem DI.pi {X : Cx} {W : WB} {tg e : Expr} {f : DEx} (h : DI X W tg e f) : PI X tg e (iOf X.K (MGx X W.b) W f) := by
  obtain ⟨t, p, r⟩ := h
  refine ⟨fun pins s σ H Q I q => ?_⟩
  obtain ⟨w, rfl, rfl, sw, ok⟩ := q
  exact p.run pins s _ _ Q I (r w Q sw ok)
end
section
variable {X : Cx} {W : WB} {elt tg iter tg1 iter1 : Expr} {ifs ifs1 : List Expr} {scope : Scope} {own : List (Str × Nat)} {is is1 vs1 : List Nat} {pos : Pos} {fi : DEx} {g : DGx} {c fi1 : DEx} {g1 : DGx} {c1 f : DEx}
end
end DL
namespace DL
open PySem L2
theorem RefA.bindF {K : PySem.W.Frag} {mg : MG} {W : WB} {t : TA} {f : DEx} (h : RefA K mg W t f) {w : Ws} {E : Ends} {Q1 : List V → Hp → Prop} {r : D → En → Store → Fl} (s : Sts K mg w) (hd : ∀ d ρ st, (∀ b, d ≠ .tup b) → r d ρ st = .bad)
    (hP : OkF K mg W w E (thenF f r w.ρ w.st))
    (k : ∀ (w1 : Ws) (vs : List V) (ds : List D), w1.σ = w.σ → Aft K mg w w1 → Reps K mg w1.G w1.ι vs ds → OkF K mg W w1 E (r (.tup ds) w1.ρ w1.st) → Q1 vs w1.H) : t w.σ w.H Q1 := by
  unfold thenF at hP
  refine h w Q1 s ?_
  cases e : f w.ρ w.st with
  | ok d ρ st =>
    rw [e] at hP
    cases d with
    | tup b =>
      intro w' vs h1 h2 h3 h4 h5
      subst h1; subst h2
      exact k w' vs b h3 h4 h5 (OkF.aft hP h4)
    | _ =>
      simp only at hP
      rw [hd _ ρ st (by intro b q; cases q)] at hP
      exact hP.elim
  | exc c ρ st =>
    rw [e] at hP
    exact fun w' cls dx h1 h2 _ h4 h5 => hP w' cls dx h1 h2 h4 h5
  | bad => rw [e] at hP; exact hP
section
variable {X : Cx} {W : WB} {a b c : Expr} {x y z : Str} {i j l : Nat} {f : DEx} {px py pz pt pos : Pos} {kt k2 : Nat} {pt2 : Pos}
end
section
variable {X : Cx} {W : WB} {elt tg iter tg1 iter1 : Expr} {ifs ifs1 : List Expr} {scope : Scope} {own : List (Str × Nat)} {is is1 vs1 : List Nat} {pos spos : Pos} {fi : DEx} {g : DGx} {c fi1 : DEx} {g1 : DGx} {c1 f : DEx}
end
end DL
namespace DL
open PySem L2
def Mfn (K : PySem.W.Frag) (mg : Str → Option Value) (c m qual : Str) (ps : List Str) (st : Stmt) (dds : List D) : Prop := ∃ C f fd ds dvs, mg c = some (.ref C) ∧ Cls K C ∧ Meth K C m f ∧ FunV K m qual st f fd ∧ Binds K fd ps ds ∧ Vals dvs ds ∧ ∀ b G ι, Reps K ⟨mg, b⟩ G ι dvs dds
theorem MCal.of {P : Program} {wd : World} {K : PySem.W.Frag} {mg : Str → Option Value} {base : Heap} {c m qual : Str} {st : Stmt} {N ps : List Str} {dds : List D} {k n j : Nat} {g : DSx} (M : Mfn K mg c m qual ps st dds) (S : FnScope N ps (defScope st)) (hn : n = N.length) (hj : j = ps.length)
    (hb : ∀ (f : Addr) (cdv : Value) (A : Around) (outer : List Env) (s : Shared) (H : Hp) (E : XK), Room k (A.deeper (PyProof.Rows.envOfC qual (defScope st) s.heap.objs.size f cdv)) →
      DSs (cxOf (L2N.CX P wd) P wd K mg base N qual (defScope st) f cdv A outer s H E) (WEx E) (defBody st) g) : MCal P wd K mg base (k + 1) c m j (runD n g) dds := by
  obtain ⟨C, f, fd, ds, dvs, h1, h2, h3, h4, h5, h6, h7⟩ := M
  subst hj
  exact ⟨C, f, fd, ps, ds, dvs, h1, h2, h3, fn_D h4 S hn (hb f), h5, h6, h7⟩
def Kfn (K : PySem.W.Frag) (mg : Str → Option Value) (c qual : Str) (ps : List Str) (st : Stmt) (dds : List D) : Prop := ∃ C f fd ds dvs, mg c = some (.ref C) ∧ Mk K C f ∧ FunV K "__init__" qual st f fd ∧ Binds K fd ps ds ∧ Vals dvs ds ∧ ∀ b G ι, Reps K ⟨mg, b⟩ G ι dvs dds
theorem KCal.of {P : Program} {wd : World} {K : PySem.W.Frag} {mg : Str → Option Value} {base : Heap} {c qual : Str} {st : Stmt} {N ps : List Str} {dds : List D} {k n j : Nat} {g : DSx} (M : Kfn K mg c qual ps st dds) (S : FnScope N ps (defScope st)) (hn : n = N.length) (hj : j = ps.length)
    (hb : ∀ (f : Addr) (cdv : Value) (A : Around) (outer : List Env) (s : Shared) (H : Hp) (E : XK), Room k (A.deeper (PyProof.Rows.envOfC qual (defScope st) s.heap.objs.size f cdv)) →
      DSs (cxOf (L2N.CX P wd) P wd K mg base N qual (defScope st) f cdv A outer s H E) (WEx E) (defBody st) g) : KCal P wd K mg base (k + 1) c j (runD n g) dds := by
  obtain ⟨C, f, fd, ds, dvs, h1, h3, h4, h5, h6, h7⟩ := M
  subst hj
  exact ⟨C, f, fd, ps, ds, dvs, h1, h3, fn_D h4 S hn (hb f), h5, h6, h7⟩
theorem funD_v {K : PySem.W.Frag} {x qual : Str} {st : Stmt} {dvs : List V} {kws : List (Str × V)} {f : Addr} {fd : FuncData} (F : FunD K x qual (defArgs st) (defBody st) (defScope st) dvs kws f fd) : FunV K x qual st f fd := by
  obtain ⟨oc, od, dV, kV, doc, pm, an, cdv, ct, osl, e, lk, hcd, _⟩ := F.ex
  exact ⟨oc, od, dV, kV, doc, pm, an, cdv, ct, osl, e, lk, hcd⟩
end DL
namespace DL
open PySem L2
section
variable {X : Cx} {W : WB} {e a b : Expr} {f g : DEx} {pos : Pos}
end
end DL
namespace DL
open PySem L2
def rNil (K : PySem.W.Frag) (neg : Bool) : R2 := fun x y H Q => ∃ (a b : Addr) (xs : List V), x = .ref a ∧ y = .ref b ∧ SqL K H a xs ∧ SqL K H b [] ∧ Q (.bl (if neg then !xs.isEmpty else xs.isEmpty)) H
section
variable {X : Cx}
theorem op_eqNil (hu : X.A.units < cLine) : OpR X (compareOp .Eq) (rNil X.K false) := fun pins s σ H x y v u Q I rx ry h => by
  obtain ⟨a, b, xs, rfl, rfl, ha, hb, q⟩ := h
  cases rx
  cases ry
  obtain ⟨its, r, p, _⟩ := I.list ha
  obtain ⟨its2, r2, p2, _⟩ := I.list hb
  cases r2
  obtain ⟨o, n, e1, e2, e3, e4⟩ := p
  obtain ⟨o2, n2, f1, f2, f3, f4⟩ := p2
  show wpAny (model X.prog X.w) X.A (richCompare .Eq (.ref a) (.ref b)) (EP X pins σ Q) X.xe s
  have fin : ∀ k : Bool, k = xs.isEmpty → EP X pins σ Q (.bool k) s := fun k hk => ⟨.bl k, H, I, rfl, by rw [hk]; exact q⟩
  cases r with
  | nil => exact SeqAt.RcAt.lists (e := fun _ => true) ⟨o, e1, e2, n, e4⟩ ⟨o2, f1, f2, n2, f4⟩ rfl hu (fun j h => absurd h (Nat.not_lt_zero _)) _ _ _ _ (fin _ rfl)
  | cons h t => exact SeqAt.RcAt.lists_lengths ⟨o, e1, e2, n, e4⟩ ⟨o2, f1, f2, n2, f4⟩ rfl hu _ _ _ _ (fin _ rfl)
theorem op_neNil (hu : X.A.units < cLine) : OpR X (compareOp .NotEq) (rNil X.K true) := fun pins s σ H x y v u Q I rx ry h => by
  obtain ⟨a, b, xs, rfl, rfl, ha, hb, q⟩ := h
  cases rx
  cases ry
  obtain ⟨its, r, p, _⟩ := I.list ha
  obtain ⟨its2, r2, p2, _⟩ := I.list hb
  cases r2
  obtain ⟨o, n, e1, e2, e3, e4⟩ := p
  obtain ⟨o2, n2, f1, f2, f3, f4⟩ := p2
  show wpAny (model X.prog X.w) X.A (richCompare .NotEq (.ref a) (.ref b)) (EP X pins σ Q) X.xe s
  have fin : ∀ k : Bool, k = !xs.isEmpty → EP X pins σ Q (.bool k) s := fun k hk => ⟨.bl k, H, I, rfl, by rw [hk]; exact q⟩
  cases r with
  | nil => exact SeqAt.RcNeAt.lists (e := fun _ => true) ⟨o, e1, e2, n, e4⟩ ⟨o2, f1, f2, n2, f4⟩ rfl hu (fun j h => absurd h (Nat.not_lt_zero _)) _ _ _ _ (fin _ rfl)
  | cons h t => exact SeqAt.RcNeAt.lists_lengths ⟨o, e1, e2, n, e4⟩ ⟨o2, f1, f2, n2, f4⟩ rfl hu _ _ _ _ (fin _ rfl)
end
@[simp] def pNil (neg : Bool) : D → D → Option D
  | .lst ds, .lst [] => some (.bl (if neg then !ds.isEmpty else ds.isEmpty))
  | _, _ => none
theorem empty_reps {K : PySem.W.Frag} {mg : MG} {G : Hp} {ι : List Addr} {vs : List V} {ds : List D} (h : Reps K mg G ι vs ds) : vs.isEmpty = ds.isEmpty := by cases h <;> rfl
theorem ans_nil {K : PySem.W.Frag} {mg : MG} {neg : Bool} : Ans2 K mg (rNil K neg) (pNil neg) := fun w x y d e z Q s rx ry q k => by
  unfold pNil at q
  split at q
  · rename_i ds
    cases q
    obtain ⟨a, vs, rfl, h1, _, rs⟩ := rx.lst_inv s
    obtain ⟨b, us, rfl, h2, _, ru⟩ := ry.lst_inv s
    cases ru
    refine ⟨a, b, vs, rfl, rfl, SqL.of h1, SqL.of h2, ?_⟩
    rw [empty_reps rs]
    exact k _ (fun _ _ => .bl _)
  · cases q
@[simp] def nilP (neg : Bool) (p : DPx) (ρ : En) (st : Store) : R := match p ρ st with
  | some (.lst ds) => .ok (.bl (if neg then !ds.isEmpty else ds.isEmpty)) ρ st
  | _ => .bad
section
variable {X : Cx} {W : WB} {a : Expr} {p : DPx} {pos lpos : Pos}
theorem ref_nil {K : PySem.W.Frag} {mg : MG} {neg : Bool} {ta : TE} (ra : RefPv K mg ta p) : RefE K mg W (tOp (rNil K neg) ta (tLst tNil)) (nilP neg p) := fun w Q s q => by
  unfold nilP at q
  split at q
  · rename_i ds hp
    refine ra w _ _ s hp fun v rv => ?_
    obtain ⟨a, vs, rfl, h1, _, rs⟩ := rv.lst_inv s
    show ([] : List V).length ≤ sizeLine ∧ _
    refine ⟨Nat.zero_le _, fun l hl => ?_⟩
    have hne : a ≠ l := fun e => by rw [e, hl] at h1; cases h1
    have A := Aft.alloc (o := .lst []) s hl
    refine ⟨a, l, vs, rfl, rfl, SqL.of (by rw [upd_ne hne]; exact h1), SqL.of upd_same, ?_⟩
    rw [empty_reps rs]
    exact q { w with G := upd w.G l (.lst []), H := upd w.H l (.lst []) } _ rfl rfl rfl A (.bl _)
  · exact q.elim
theorem dt_neNil (hu : X.A.units < cLine) (ha : DPv X a p) (hm : behindInMarks .NotEq (.List [] lpos) = false := by rfl) : DT X W (.Compare a [.NotEq] [.List [] lpos] pos) (nilP true p) := let ⟨_, pa, ra⟩ := ha; ⟨_, pt_cmpR (op_neNil hu) pa (pe_lst pa_nil) hm, (ref_nil (ra _)).v.test⟩
end
end DL
namespace DL
open PySem PySem.Spec PyProof.Rows PySem.SeqAt L2
section
variable {X : Cx} {CX : CXT} {k : Nat} {f C : Addr} {fd : FuncData} {ps : List Str} {sp : Sp} {dvs : List V} {ds : List Value} {E : XK} {b : Low}
end
def NatL (n : Int) : Prop := 0 ≤ n ∧ n < 2 ^ 63
noncomputable instance (n : Int) : Decidable (NatL n) := Classical.propDecidable _
section
variable {X : Cx} {E : XK} {b : Low} {k k' : Nat} {den : Den} {c : Str} {e e2 : Expr} {g h : DEx} {p pos : Pos}
end
structure IsO (K : PySem.W.Frag) (mg : Str → Option Value) (c : Str) : Prop where
  ex : ∃ C, mg c = some (.ref C) ∧ Cls K C ∧ PySem.W.findIn K (.ref C) "__class__" = some (some (.builtin "object.__class__")) ∧ PySem.W.specialIn K (.builtin "object.__class__") "__get__" = some (some (.builtin "getset_descriptor.__get__")) ∧
    PySem.W.takesIn K (.builtin "object.__class__") = some true ∧ PySem.W.mroIn K C (.type "object") = some true ∧ ((PySem.W.clsIn K C).isSome && PySem.W.typeIn K (.ref C) == some (.type "type")) = true
end DL
namespace DL
open PySem L2
def rOrd (K : PySem.W.Frag) (g : PyData → PyData → Bool) : R2 := fun x y H Q => ∃ d e, Dp K H x d ∧ Dp K H y e ∧ PySem.W.alike d e = true ∧ d ≠ .none ∧ d.depth ≤ 64 ∧ Q (.bl (g d e)) H
section
variable {X : Cx}
theorem op_ltA (hu : X.A.units + 64 < cLine) : OpR X (compareOp .Lt) (rOrd X.K fun d e => PySem.W.dataLt d e) := fun pins s σ H x y v u Q I rx ry h => by
  obtain ⟨d, e, hd, he, ha, hn, hl, q⟩ := h
  obtain ⟨as, r1⟩ := Dp.reads I d x v hd rx
  obtain ⟨bs, r2⟩ := Dp.reads I e y u he ry
  exact PySem.W.lt_data r1 r2 ha hn (by omega) ⟨.bl _, H, I, rfl, q⟩
theorem op_gtA (hu : X.A.units + 64 < cLine) : OpR X (compareOp .Gt) (rOrd X.K fun d e => PySem.W.dataLt e d) := fun pins s σ H x y v u Q I rx ry h => by
  obtain ⟨d, e, hd, he, ha, hn, hl, q⟩ := h
  obtain ⟨as, r1⟩ := Dp.reads I d x v hd rx
  obtain ⟨bs, r2⟩ := Dp.reads I e y u he ry
  exact PySem.W.gt_data r1 r2 ha hn (by omega) ⟨.bl _, H, I, rfl, q⟩
theorem op_leA (hu : X.A.units + 64 < cLine) : OpR X (compareOp .LtE) (rOrd X.K fun d e => !PySem.W.dataLt e d) := fun pins s σ H x y v u Q I rx ry h => by
  obtain ⟨d, e, hd, he, ha, hn, hl, q⟩ := h
  obtain ⟨as, r1⟩ := Dp.reads I d x v hd rx
  obtain ⟨bs, r2⟩ := Dp.reads I e y u he ry
  exact PySem.W.le_data r1 r2 ha hn (by omega) ⟨.bl _, H, I, rfl, q⟩
theorem op_geA (hu : X.A.units + 64 < cLine) : OpR X (compareOp .GtE) (rOrd X.K fun d e => !PySem.W.dataLt d e) := fun pins s σ H x y v u Q I rx ry h => by
  obtain ⟨d, e, hd, he, ha, hn, hl, q⟩ := h
  obtain ⟨as, r1⟩ := Dp.reads I d x v hd rx
  obtain ⟨bs, r2⟩ := Dp.reads I e y u he ry
  exact PySem.W.ge_data r1 r2 ha hn (by omega) ⟨.bl _, H, I, rfl, q⟩
end
@[simp] def notNone : PyData → Bool
  | .none => false
  | _ => true
theorem notNone_ne {p : PyData} (h : notNone p = true) : p ≠ .none := fun e => by rw [e] at h; cases h
def ordB (g : PyData → PyData → Bool) (d e : D) : Option D := match d.py, e.py with
  | some p, some q => if PySem.W.alike p q = true ∧ notNone p = true ∧ p.depth ≤ 64 then some (.bl (g p q)) else none
  | _, _ => none
theorem ans_ord {K : PySem.W.Frag} {mg : MG} {g : PyData → PyData → Bool} : Ans2 K mg (rOrd K g) (ordB g) := fun w x y d e z Q s rx ry q k => by
  unfold ordB at q
  split at q
  · rename_i p p' e1 e2
    split at q
    · rename_i hh
      cases q
      exact ⟨p, p', (rx.h s).dp e1, (ry.h s).dp e2, hh.1, notNone_ne hh.2.1, hh.2.2, k _ (fun _ _ => .bl _)⟩
    · cases q
  · cases q
@[simp] def ordX (h : Int → Int → Bool) (g : PyData → PyData → Bool) : D → D → Option D
  | .int i, .int j => some (.bl (h i j))
  | d, e => ordB g d e
theorem ans_ordX {K : PySem.W.Frag} {mg : MG} {h : Int → Int → Bool} {g : PyData → PyData → Bool} (hg : ∀ i j, g (.int i) (.int j) = h i j) : Ans2 K mg (rOrd K g) (ordX h g) := fun w x y d e z Q s rx ry q k => by
  unfold ordX at q
  split at q
  · rename_i i j
    cases q
    rw [← hg] at k
    exact ⟨.int i, .int j, (rx.h s).dp (by simp [D.py]), (ry.h s).dp (by simp [D.py]), by simp [PySem.W.alike], by simp, by simp [PyData.depth], k _ (fun _ _ => .bl _)⟩
  · exact ans_ord w x y d e z Q s rx ry q k
abbrev pLtX := ordX (fun i j => decide (i < j)) (fun d e => PySem.W.dataLt d e)
abbrev pGtX := ordX (fun i j => decide (j < i)) (fun d e => PySem.W.dataLt e d)
abbrev pLeX := ordX (fun i j => decide (i ≤ j)) (fun d e => !PySem.W.dataLt e d)
abbrev pGeX := ordX (fun i j => decide (j ≤ i)) (fun d e => !PySem.W.dataLt d e)
theorem ans_ltX {K : PySem.W.Frag} {mg : MG} : Ans2 K mg (rOrd K fun d e => PySem.W.dataLt d e) pLtX := ans_ordX fun i j => PySem.W.dataLt_int i j
theorem ans_gtX {K : PySem.W.Frag} {mg : MG} : Ans2 K mg (rOrd K fun d e => PySem.W.dataLt e d) pGtX := ans_ordX fun i j => PySem.W.dataLt_int j i
theorem ans_leX {K : PySem.W.Frag} {mg : MG} : Ans2 K mg (rOrd K fun d e => !PySem.W.dataLt e d) pLeX := ans_ordX fun i j => by
  show (!PySem.W.dataLt (.int j) (.int i)) = _
  rw [PySem.W.dataLt_int]
  by_cases h : j < i
  · rw [decide_eq_true h, decide_eq_false (by omega)]; rfl
  · rw [decide_eq_false h, decide_eq_true (by omega)]; rfl
theorem ans_geX {K : PySem.W.Frag} {mg : MG} : Ans2 K mg (rOrd K fun d e => !PySem.W.dataLt d e) pGeX := ans_ordX fun i j => by
  show (!PySem.W.dataLt (.int i) (.int j)) = _
  rw [PySem.W.dataLt_int]
  by_cases h : i < j
  · rw [decide_eq_true h, decide_eq_false (by omega)]; rfl
  · rw [decide_eq_false h, decide_eq_true (by omega)]; rfl
end DL
class BK (σ : Type) where
  le : σ → σ → Bool
  emp : σ
  refl : ∀ s, le s s = true
  trans : ∀ a b c, le a b = true → le b c = true → le a c = true
  anti : ∀ a b, le a b = true → le b a = true → a = b
  emp_le : ∀ s, le emp s = true
namespace BK
section
variable {τ σ : Type} [DecidableEq τ] [DecidableEq σ] [BK σ]
structure Up (U : σ → Bool) : Prop where
  up : ∀ s t, le s t = true → U s = true → U t = true
  ne : U emp = false
def heardF (U : σ → Bool) (d : τ) (rows : List (τ × σ)) : τ := rows.foldl (fun acc r => if U r.2 then r.1 else acc) d
@[simp] theorem heardF_nil (U : σ → Bool) (d : τ) : heardF U d [] = d := rfl
@[simp] theorem heardF_cons (U : σ → Bool) (d : τ) (r : τ × σ) (rows : List (τ × σ)) : heardF U d (r :: rows) = heardF U (if U r.2 then r.1 else d) rows := rfl
theorem heardF_app (U : σ → Bool) (d : τ) (A B : List (τ × σ)) : heardF U d (A ++ B) = heardF U (heardF U d A) B := by simp [heardF]
def Eqv (non : τ) (A B : List (τ × σ)) : Prop := ∀ U : σ → Bool, Up U → heardF U non A = heardF U non B
theorem Eqv.refl (non : τ) (A : List (τ × σ)) : Eqv non A A := fun _ _ => rfl
theorem Eqv.symm {non : τ} {A B : List (τ × σ)} (h : Eqv non A B) : Eqv non B A := fun U u => (h U u).symm
theorem Eqv.trans {non : τ} {A B C : List (τ × σ)} (h : Eqv non A B) (k : Eqv non B C) : Eqv non A C := fun U u => (h U u).trans (k U u)
theorem Eqv.app {non : τ} {A B : List (τ × σ)} (h : Eqv non A B) (C : List (τ × σ)) : Eqv non (A ++ C) (B ++ C) := fun U u => by rw [heardF_app, heardF_app, h U u]
abbrev Run (τ σ : Type) := τ × List σ
def flat (rs : List (Run τ σ)) : List (τ × σ) := rs.flatMap fun p => p.2.map fun s => (p.1, s)
@[simp] theorem flat_nil : flat ([] : List (Run τ σ)) = [] := rfl
@[simp] theorem flat_cons (p : Run τ σ) (rs : List (Run τ σ)) : flat (p :: rs) = (p.2.map fun s => (p.1, s)) ++ flat rs := by simp [flat]
def runsOf : List (τ × σ) → List (Run τ σ)
  | [] => []
  | (t, s) :: rest => match runsOf rest with
    | [] => [(t, [s])]
    | (t', lot) :: rs => if t = t' then (t, s :: lot) :: rs else (t, [s]) :: (t', lot) :: rs
def Adj : List (Run τ σ) → Prop
  | [] => True
  | [_] => True
  | a :: b :: r => a.1 ≠ b.1 ∧ Adj (b :: r)
end
end BK
namespace BK
section
variable {τ σ : Type} [DecidableEq τ] [DecidableEq σ] [BK σ]
structure RF (non : τ) (rs : List (Run τ σ)) : Prop where
  ne : ∀ p ∈ rs, p.2 ≠ []
  em : ∀ p ∈ rs, ∀ s ∈ p.2, s ≠ emp
  an : ∀ p ∈ rs, p.2.Pairwise (fun a b => le a b = false ∧ le b a = false)
  co : rs.Pairwise (fun p q => ∀ a ∈ p.2, ∀ b ∈ q.2, le a b = false)
  ad : Adj rs
  hd : rs.head?.map (·.1) ≠ some non
def PermR (A B : List (Run τ σ)) : Prop := A.length = B.length ∧ ∀ x ∈ A.zip B, x.1.1 = x.2.1 ∧ x.1.2.Perm x.2.2
theorem PermR.refl : ∀ A : List (Run τ σ), PermR A A
  | [] => ⟨rfl, fun x h => by cases h⟩
  | a :: A => ⟨rfl, fun x h => by
    rw [List.zip_cons_cons] at h
    rcases List.mem_cons.mp h with rfl | h
    · exact ⟨rfl, List.Perm.refl _⟩
    · exact (PermR.refl A).2 x h⟩
structure Nf (non : τ) (hle : σ → σ → Bool) (A : List (τ × σ)) : Prop where
  rf : RF non (runsOf A)
  so : ∀ p ∈ runsOf A, p.2.Pairwise (fun a b => hle a b = true)
def thn (lot : List σ) : List σ := lot.filter fun one => !(lot.any fun other => decide (other ≠ one) && le one other)
variable (srt : List σ → List σ)
variable {srt}
variable (sp : ∀ l, (srt l).Perm l)
include sp
theorem flat_len (rs : List (Run τ σ)) : (flat rs).length = (rs.map fun p => p.2.length).sum := by
  induction rs with
  | nil => rfl
  | cons p rs ih => simp [ih]
end
end BK
namespace BK
section
variable {τ σ : Type} [DecidableEq τ] [DecidableEq σ] [BK σ]
def rb (pre : List (τ × σ)) (t : τ) : List (τ × σ) := pre.reverse.takeWhile fun r => decide (r.1 = t)
def ra (post : List (τ × σ)) (t : τ) : List (τ × σ) := post.takeWhile fun r => decide (r.1 = t)
variable (hle : σ → σ → Bool)
variable {hle}
end
end BK
namespace DL
open PySem L2
section
variable {α : Type} {le : α → α → Bool}
theorem sorted_ext (anti : ∀ a b, le a b = true → le b a = true → a = b) : ∀ {l m : List α}, l.Pairwise (fun a b => le a b = true) → m.Pairwise (fun a b => le a b = true) → l.Nodup → m.Nodup → (∀ x, x ∈ l ↔ x ∈ m) → l = m
  | [], [], _, _, _, _, _ => rfl
  | [], b :: m, _, _, _, _, h => by have := (h b).mpr (List.mem_cons_self ..); cases this
  | a :: l, [], _, _, _, _, h => by have := (h a).mp (List.mem_cons_self ..); cases this
  | a :: l, b :: m, hl, hm, nl, nm, h => by
    have e : a = b := by
      rcases List.mem_cons.mp ((h a).mp (List.mem_cons_self ..)) with e | ha
      · exact e
      · rcases List.mem_cons.mp ((h b).mpr (List.mem_cons_self ..)) with e | hb
        · exact e.symm
        · exact anti _ _ ((List.pairwise_cons.mp hl).1 b hb) ((List.pairwise_cons.mp hm).1 a ha)
    subst e
    have hx : ∀ x, x ∈ l ↔ x ∈ m := fun x => by
      constructor
      · intro hx
        rcases List.mem_cons.mp ((h x).mp (List.mem_cons_of_mem _ hx)) with e | hx'
        · subst e; exact absurd hx (List.nodup_cons.mp nl).1
        · exact hx'
      · intro hx
        rcases List.mem_cons.mp ((h x).mpr (List.mem_cons_of_mem _ hx)) with e | hx'
        · subst e; exact absurd hx (List.nodup_cons.mp nm).1
        · exact hx'
    rw [sorted_ext anti (List.pairwise_cons.mp hl).2 (List.pairwise_cons.mp hm).2 (List.nodup_cons.mp nl).2 (List.nodup_cons.mp nm).2 hx]
end
def sLe (a b : Str) : Bool := leD (.str a) (.str b)
theorem leD_total : PySem.W.TotalLe leD := by
  have := PySem.W.sortLe_total (α := D) (PyProof.Rows.listOrd PyProof.Rows.itemOrd) false fun d => PySem.W.keyToks (d.py.getD .none)
  exact this
theorem leD_anti {a b : D} (h1 : leD a b = true) (h2 : leD b a = true) : PySem.W.keyToks (a.py.getD .none) = PySem.W.keyToks (b.py.getD .none) := by
  have h1' : (!PyProof.Rows.lexLt PyProof.Rows.itemOrd (PySem.W.keyToks (b.py.getD .none)) (PySem.W.keyToks (a.py.getD .none))) = true := h1
  have h2' : (!PyProof.Rows.lexLt PyProof.Rows.itemOrd (PySem.W.keyToks (a.py.getD .none)) (PySem.W.keyToks (b.py.getD .none))) = true := h2
  rw [Bool.not_eq_true'] at h1' h2'
  exact PyProof.Rows.lex_total _ _ h2' h1'
theorem sLe_total : PySem.W.TotalLe sLe := ⟨fun a b c => leD_total.trans _ _ _, fun a b => leD_total.total _ _⟩
theorem sLe_anti (a b : Str) (h1 : sLe a b = true) (h2 : sLe b a = true) : a = b := by
  have := leD_anti h1 h2
  simp only [D.py, Option.getD_some, PySem.W.keyToks, List.cons.injEq, and_true, Sum.inr.injEq] at this
  exact mkS_ext this
def srt (l : List Str) : List Str := l.mergeSort sLe
theorem srt_perm (l : List Str) : (srt l).Perm l := List.mergeSort_perm _ _
theorem srt_mem {l : List Str} {x : Str} : x ∈ srt l ↔ x ∈ l := (srt_perm l).mem_iff
theorem srt_pw (l : List Str) : (srt l).Pairwise (fun a b => sLe a b = true) := PySem.W.sort_pairwise sLe_total l
theorem srt_nodup {l : List Str} (h : l.Nodup) : (srt l).Nodup := (srt_perm l).nodup_iff.mpr h
structure HS where
  l : List Str
  so : l.Pairwise (fun a b => sLe a b = true)
  nd : l.Nodup
  ok : ∀ x ∈ l, okS x
theorem HS.ext' {a b : HS} (h : a.l = b.l) : a = b := by cases a; cases b; cases h; rfl
instance : DecidableEq HS := fun a b => if h : a.l = b.l then isTrue (HS.ext' h) else isFalse fun e => h (by rw [e])
theorem HS.inj {a b : HS} : a = b ↔ a.l = b.l := ⟨fun h => by rw [h], HS.ext'⟩
def HS.nil : HS := ⟨[], .nil, .nil, fun _ h => by cases h⟩
def HS.of (l : List Str) (nd : l.Nodup) (ok : ∀ x ∈ l, okS x) : HS := ⟨srt l, srt_pw l, srt_nodup nd, fun x hx => ok x (srt_mem.mp hx)⟩
instance : BK HS where
  le a b := a.l.all fun x => decide (x ∈ b.l)
  emp := .nil
  refl s := List.all_eq_true.mpr fun x hx => decide_eq_true hx
  trans a b c h k := List.all_eq_true.mpr fun x hx => by
    have h1 := of_decide_eq_true (List.all_eq_true.mp h x hx)
    exact List.all_eq_true.mp k x h1
  anti a b h k := HS.ext' (sorted_ext sLe_anti a.so b.so a.nd b.nd fun x => ⟨fun hx => of_decide_eq_true (List.all_eq_true.mp h x hx), fun hx => of_decide_eq_true (List.all_eq_true.mp k x hx)⟩)
  emp_le s := rfl
inductive Th where
  | non | nm (s : Str) | later (s : Str)
deriving DecidableEq
instance : Dt Th where
  d | .non => .non
    | .nm s => .str s
    | .later s => .tup [.str "later", .str s]
  py | .non => .none
     | .nm s => .str s
     | .later s => .tuple [.str "later", .str s]
  ok | .non => True
     | .nm s => okS s
     | .later s => okS s
  dep := 1
  pyd a := by cases a <;> simp [D.py, pyAll]
  eqv a b := by cases a <;> cases b <;> simp [PyData.eqv, PyData.eqvAll, dec_beq]
  lay a h := by
    cases a with
    | non => simp [PyData.canLay0]
    | nm s => exact okS_lay h
    | later s =>
      have h1 : (PyData.str s).canLay0 = true := okS_lay h
      have h2 : (PyData.str "later").canLay0 = true := okS_lay (by unfold okS; decide)
      simp [PyData.canLay0, PyData.canLayAll0] at h1 h2 ⊢
      exact ⟨h2, h1⟩
  dle a := by cases a <;> simp [PyData.depth, PyData.depthAll]
theorem strs_eqv (a b : List Str) : PyData.eqvAll (a.map .str) (b.map .str) = decide (a = b) := eqvAll_map (α := Str) a b
instance : Dt HS where
  d s := .tup (s.l.map .str)
  py s := .tuple (s.l.map .str)
  ok _ := True
  dep := 1
  pyd s := by
    have := pyAll_dt (α := Str) s.l
    simp only [D.py]
    rw [show pyAll (s.l.map .str) = some (s.l.map .str) from this]
    rfl
  eqv a b := by
    simp only [PyData.eqv]
    rw [strs_eqv]
    exact decide_eq_decide.mpr HS.inj.symm
  lay s _ := by
    simp only [PyData.canLay0]
    exact layAll_map (α := Str) s.l s.ok
  dle s := by
    simp only [PyData.depth]
    have := depAll_map (α := Str) s.l
    exact Nat.succ_le_succ this
instance {α β : Type} [DecidableEq α] [DecidableEq β] [Dt α] [Dt β] : Dt (α × β) where
  d p := .tup [Dt.d p.1, Dt.d p.2]
  py p := .tuple [Dt.py p.1, Dt.py p.2]
  ok p := Dt.ok p.1 ∧ Dt.ok p.2
  dep := max (Dt.dep α) (Dt.dep β) + 1
  pyd p := by simp [D.py, pyAll, Dt.pyd]
  eqv p q := by
    simp only [PyData.eqv, PyData.eqvAll, Dt.eqv, Bool.and_true]
    rw [← Bool.decide_and]
    exact decide_eq_decide.mpr (by rw [Prod.ext_iff])
  lay p h := by simp [PyData.canLay0, PyData.canLayAll0, Dt.lay _ h.1, Dt.lay _ h.2]
  dle p := by
    simp only [PyData.depth, PyData.depthAll]
    have h1 := Dt.dle p.1
    have h2 := Dt.dle p.2
    omega
section
variable {α : Type} [DecidableEq α] [Dt α]
theorem pEq_dt {a b : α} (ha : Dt.ok a) (hb : Dt.ok b) (h : Dt.dep α ≤ 64 := by decide) : pEq (Dt.d a) (Dt.d b) = some (.bl (decide (a = b))) := by unfold pEq; rw [pEqB_dt ha hb h]; rfl
theorem pNe_dt {a b : α} (ha : Dt.ok a) (hb : Dt.ok b) (h : Dt.dep α ≤ 64 := by decide) : pNe (Dt.d a) (Dt.d b) = some (.bl (!decide (a = b))) := by unfold pNe; rw [pEqB_dt ha hb h]; rfl
theorem shaped_dt {a : α} (ha : Dt.ok a) (h : Dt.dep α ≤ 63) : SeqAt.shaped (Dt.py a) = true := by
  unfold SeqAt.shaped; rw [Dt.lay a ha]; simpa using Nat.le_trans (Dt.dle a) (by omega)
theorem any_eqv (a : α) : ∀ xs : List α, ((xs.map Dt.py).any fun z => PyData.eqv z (Dt.py a)) = decide (a ∈ xs)
  | [] => by simp
  | x :: xs => by
    rw [List.map_cons, List.any_cons, any_eqv a xs, Dt.eqv, Bool.eq_iff_iff, Bool.or_eq_true, decide_eq_true_eq, decide_eq_true_eq, decide_eq_true_eq, List.mem_cons, eq_comm]
theorem pInB_tupE (d : D) (ds : List D) : pInB d (.tup ds) = match d.py, pyAll ds with
    | some p, some ps => if SeqAt.shaped p = true ∧ SeqAt.shaped (.list ps) = true then some (ps.any fun z => PyData.eqv z p) else none
    | _, _ => none := by cases d <;> rfl
theorem pInB_lstE (d : D) (ds : List D) : pInB d (.lst ds) = match d.py, pyAll ds with
    | some p, some ps => if SeqAt.shaped p = true ∧ SeqAt.shaped (.list ps) = true then some (ps.any fun z => PyData.eqv z p) else none
    | _, _ => none := by cases d <;> rfl
theorem shaped_list {xs : List α} (hx : ∀ x ∈ xs, Dt.ok x) (h : Dt.dep α ≤ 63) : SeqAt.shaped (.list (xs.map Dt.py)) = true := by
  unfold SeqAt.shaped
  have l := layAll_map xs hx
  have dd := depAll_map (α := α) xs
  have e1 : (PyData.list (xs.map Dt.py)).canLay0 = true := by simp only [PyData.canLay0]; exact l
  have e2 : (PyData.list (xs.map Dt.py)).depth ≤ 64 := by simp only [PyData.depth]; exact Nat.le_trans (Nat.succ_le_succ dd) (by omega)
  rw [e1, decide_eq_true e2]; rfl
theorem pInB_tup {a : α} {xs : List α} (ha : Dt.ok a) (hx : ∀ x ∈ xs, Dt.ok x) (h : Dt.dep α ≤ 63 := by decide) : pInB (Dt.d a) (.tup (xs.map Dt.d)) = some (decide (a ∈ xs)) := by
  rw [pInB_tupE, Dt.pyd, pyAll_dt]
  simp only [shaped_dt ha h, shaped_list hx h, any_eqv, and_self, if_true]
theorem pInB_lst {a : α} {xs : List α} (ha : Dt.ok a) (hx : ∀ x ∈ xs, Dt.ok x) (h : Dt.dep α ≤ 63 := by decide) : pInB (Dt.d a) (.lst (xs.map Dt.d)) = some (decide (a ∈ xs)) := by
  rw [pInB_lstE, Dt.pyd, pyAll_dt]
  simp only [shaped_dt ha h, shaped_list hx h, any_eqv, and_self, if_true]
theorem pInX_tup {n : Bool} {a : α} {xs : List α} (ha : Dt.ok a) (hx : ∀ x ∈ xs, Dt.ok x) (h : Dt.dep α ≤ 63 := by decide) : pInX n (Dt.d a) (.tup (xs.map Dt.d)) = some (.bl (if n then !decide (a ∈ xs) else decide (a ∈ xs))) := by unfold pInX; rw [pInB_tup ha hx h]; rfl
theorem pInX_lst {n : Bool} {a : α} {xs : List α} (ha : Dt.ok a) (hx : ∀ x ∈ xs, Dt.ok x) (h : Dt.dep α ≤ 63 := by decide) : pInX n (Dt.d a) (.lst (xs.map Dt.d)) = some (.bl (if n then !decide (a ∈ xs) else decide (a ∈ xs))) := by unfold pInX; rw [pInB_lst ha hx h]; rfl
end
theorem py_strs (l : List Str) : pyAll (l.map .str) = some (l.map .str) := pyAll_dt (α := Str) l
theorem sortOk_strs (l : List Str) : sortOk (l.map .str) := by
  refine ⟨_, py_strs l, fun d hd d' hd' => ?_, .inr fun d hd => ?_, fun p hp => ?_⟩
  · obtain ⟨x, _, rfl⟩ := List.mem_map.mp hd
    obtain ⟨y, _, rfl⟩ := List.mem_map.mp hd'
    simp [PySem.W.alike]
  · obtain ⟨x, _, rfl⟩ := List.mem_map.mp hd
    exact ⟨by simp, fun _ => by simp⟩
  · obtain ⟨x, _, rfl⟩ := List.mem_map.mp hp
    simp [PyData.depth]
theorem sort_strs (l : List Str) : (l.map D.str).mergeSort leD = (srt l).map D.str := (PySem.W.sort_maps (r := sLe) (s := leD) D.str (fun _ _ _ _ => rfl)).symm
@[simp] theorem seen_th (st : Store) (t : Th) : seen st (.val (Dt.d t)) = some (Dt.d t) := by cases t <;> rfl
@[simp] theorem seen_hs (st : Store) (t : HS) : seen st (.val (Dt.d t)) = some (Dt.d t) := rfl
@[simp] theorem len_hs (s : HS) : pLen (Dt.d s) = some (.int s.l.length) := by simp [Dt.d]
@[simp] theorem isNon_th (t : Th) : D.isNon (Dt.d t) = some (decide (t = .non)) := by cases t <;> rfl
end DL
namespace DL
open PySem L2
@[simp] theorem pAny_map {α : Type} (l : List α) (f : α → Bool) : pAny (.lst (l.map fun x => .bl (f x))) = some (.bl (l.any f)) := by
  simp only [pAny, bools_map, Option.map_some]
  congr 2
  induction l with
  | nil => rfl
  | cons x xs ih => simp
theorem sz (n : Nat) (h : n ≤ 1000000) : n ≤ sizeLine := by rw [sizeLine_eq]; omega
@[simp] theorem atI_7 {α : Type} (xs : List α) : atI xs 7 = xs[7]? := DL.atI_nat xs 7
@[simp] theorem atI_8 {α : Type} (xs : List α) : atI xs 8 = xs[8]? := DL.atI_nat xs 8
@[simp] theorem atI_9 {α : Type} (xs : List α) : atI xs 9 = xs[9]? := DL.atI_nat xs 9
@[simp] theorem atI_10 {α : Type} (xs : List α) : atI xs 10 = xs[10]? := DL.atI_nat xs 10
@[simp] theorem atI_11 {α : Type} (xs : List α) : atI xs 11 = xs[11]? := DL.atI_nat xs 11
@[simp] theorem atI_12 {α : Type} (xs : List α) : atI xs 12 = xs[12]? := DL.atI_nat xs 12
@[simp] theorem atI_13 {α : Type} (xs : List α) : atI xs 13 = xs[13]? := DL.atI_nat xs 13
@[simp] theorem atI_14 {α : Type} (xs : List α) : atI xs 14 = xs[14]? := DL.atI_nat xs 14
@[simp] theorem atI_15 {α : Type} (xs : List α) : atI xs 15 = xs[15]? := DL.atI_nat xs 15
end DL
namespace DL
open PySem L2
def tApp (n m : Nat) (t tk : TA) : TA := fun σ H Q => t σ H fun vs H1 => tk σ H1 fun zs H2 => vs.length = n ∧ zs.length = m ∧ Q (vs ++ zs) H2
section
variable {X : Cx} {CX : CXT} {k n : Nat} {f C : Addr} {fd : FuncData} {ps ks : List Str} {sp : Sp} {E : XK} {b : Low} {m : Str} {apos pos : Pos} {e o : Expr} {es : List Expr} {kws : List Keyword} {t tk : TA} {ta : TE}
theorem pe_methN {pl : Sem Bool} (he : PE X o ta) (c : Cls X.K C) (hm : Meth X.K C m f) (F : FnOk X.prog X.w X.K X.mg X.base CX k f fd ps sp) (hr : Room k X.A) (hb : KBn X.K fd ps (n + 1) ks (fun a b => a ++ b) (fun a b => a ++ b)) (hx : Passes CX X E) (ha : PA X (e :: es) t) (hkw : PK X kws tk)
    (hall : (backToKw pos (keywordEach kws X.env)).all (·.1.isSome) = true := by rfl) (hks : (backToKw pos (keywordEach kws X.env)).filterMap (·.1) = ks := by rfl)
    (hst : starEach (e :: es) X.env = (false, eval e X.env) :: starEach es X.env := by rfl) (hpl : ((backTo pos (starEach (e :: es) X.env)).any (·.1) || (backToKw pos (keywordEach kws X.env)).any (·.1.isNone)) = false := by rfl)
    (ht : eval (.Call (.Attribute o m apos) (e :: es) kws pos) X.env = (do
      let ov ← eval o X.env
      standAt apos.atName
      let (f, first) ← holding [ov] (getMethod ov m pl)
      callWith pos f first (backTo pos (starEach (e :: es) X.env)) (backToKw pos (keywordEach kws X.env))) := by rfl) :
    PE X (.Call (.Attribute o m apos) (e :: es) kws pos) (tMeth C m sp [] E ta (tApp n ks.length t tk)) := by
  refine ⟨fun pins s σ H Q I h => ?_⟩
  refine PySem.W.methodCall_KW (pl := pl) (thn (he.run pins s σ H _ I h) fun u s1 ⟨x, H1, I1, rx, a, dx, fs, ex, ea, l, q⟩ => ?_) ht
  subst ex
  obtain rfl : u = Value.ref a := rx
  refine getmeth_ok I1 ea c hm l ?_
  refine PySem.W.callWith_KW (first := [.ref a]) (h₀ := X.base) I.ok.mod.kin hm.kp hall (thn (ha.run pos pins s1 σ H1 _ I1 q) fun us s2 ⟨vs, H2, I2, r, q2⟩ => ?_) hpl hst
  refine thn (hkw.run pos pins s2 σ H2 _ I2 q2) fun ws s3 ⟨zs, H3, I3, rz, l1, l2, q3⟩ => ⟨I3.kIn, ?_⟩
  rw [hks]
  refine run_fnN (us := .ref a :: us) (vs := .ref a :: vs) F hr hb hx I3 (.cons rfl r) rz (by simp [l1]) l2 ?_
  have e : ((V.ref a :: vs) ++ zs) = V.ref a :: (vs ++ zs ++ []) := by simp
  show sp ((V.ref a :: vs) ++ zs) H3 Q E
  rw [e]
  exact q3
end
def DK (X : Cx) (W : WB) (kws : List Keyword) (f : DEx) : Prop := (∃ t, PK X kws t ∧ RefA X.K (MGx X W.b) W t f) ∧ ∀ ρ st d ρ' st', f ρ st = .ok d ρ' st' → ∃ ds, d = .tup ds ∧ ds.length = kws.length
theorem acons_len {f g : DEx} {n : Nat} (h : ∀ ρ st d ρ' st', g ρ st = .ok d ρ' st' → ∃ ds, d = .tup ds ∧ ds.length = n) : ∀ ρ st d ρ' st', aCons f g ρ st = .ok d ρ' st' → ∃ ds, d = .tup ds ∧ ds.length = n + 1 := fun ρ st d ρ' st' e => by
  unfold aCons at e
  cases h1 : f ρ st with
  | ok d1 ρ1 st1 =>
    rw [h1] at e
    simp only [R.bind] at e
    cases h2 : g ρ1 st1 with
    | ok d2 ρ2 st2 =>
      obtain ⟨ds, rfl, l⟩ := h _ _ _ _ _ h2
      rw [h2] at e
      simp only [R.bind] at e
      cases e
      exact ⟨_, rfl, by simp [l]⟩
    | exc c ρ2 st2 => rw [h2] at e; cases e
    | bad => rw [h2] at e; cases e
  | exc c ρ2 st2 => rw [h1] at e; cases e
  | bad => rw [h1] at e; cases e
section
variable {X : Cx} {W : WB} {e : Expr} {kws : List Keyword} {f g : DEx} {nm : Option Str} {kpos : Pos}
theorem dk_nil : DK X W [] aNil := ⟨⟨_, pk_nil, refA_nil⟩, fun ρ st d ρ' st' h => by cases h; exact ⟨[], rfl, rfl⟩⟩
theorem dk_cons (he : DE X W e f) (ht : DK X W kws g) : DK X W (⟨nm, e, kpos⟩ :: kws) (aCons f g) := by
  obtain ⟨te, pe, re⟩ := he
  obtain ⟨⟨t, pt, rt⟩, hl⟩ := ht
  exact ⟨⟨_, pk_cons pe pt, refA_cons re rt⟩, acons_len hl⟩
end
@[simp] def aApp (f g : DEx) (ρ : En) (st : Store) : R := (f ρ st).bind fun d ρ st => match d with
  | .tup xs => (g ρ st).bind fun d ρ st => (match d with
    | .tup ys => .ok (.tup (xs ++ ys)) ρ st
    | _ => .bad)
  | _ => .bad
theorem refA_app {K : PySem.W.Frag} {mg : MG} {W : WB} {t tk : TA} {f g : DEx} {n m : Nat} (hf : RefA K mg W t f) (hg : RefA K mg W tk g) (lf : ∀ ρ st d ρ' st', f ρ st = .ok d ρ' st' → ∃ ds, d = .tup ds ∧ ds.length = n) (lg : ∀ ρ st d ρ' st', g ρ st = .ok d ρ' st' → ∃ ds, d = .tup ds ∧ ds.length = m) : RefA K mg W (tApp n m t tk) (aApp f g) := fun w Q s q => by
  refine hf.bind (P := OkA K mg W w Q) s q (fun d ρ st n => by cases d <;> first | rfl | exact absurd rfl (n _)) (fun _ _ _ z => z) (fun z => z) fun w1 vs ds e1 a1 r1 f1 q1 => ?_
  show tk w.σ w1.H _
  rw [← e1]
  refine hg.bind (P := OkA K mg W w1 Q) a1.s (q1.aft a1 e1) (fun d ρ st n => by cases d <;> first | rfl | exact absurd rfl (n _)) (fun _ _ _ z => z) (fun z => z) fun w2 us es e2 a2 r2 f2 q2 => ?_
  obtain ⟨d1, h1, l1⟩ := lf _ _ _ _ _ f1
  obtain ⟨d2, h2, l2⟩ := lg _ _ _ _ _ f2
  cases h1; cases h2
  exact ⟨by rw [r1.len]; exact l1, by rw [r2.len]; exact l2, q2 w2 (vs ++ us) rfl rfl e2 a2 ((r1.mono a2.g a2.i).append r2)⟩
def MKal (P : Program) (w : World) (K : PySem.W.Frag) (mg : Str → Option Value) (base : Heap) (k : Nat) (c m : Str) (j n : Nat) (ks : List Str) (den : Den) : Prop :=
  ∃ C f fd ps, mg c = some (.ref C) ∧ Cls K C ∧ Meth K C m f ∧ FnOk P w K mg base (L2N.CX P w) k f fd ps (spD K mg j den) ∧ KBn K fd ps (n + 1) ks (fun a b => a ++ b) (fun a b => a ++ b)
theorem MKal.call {X : Cx} {E : XK} {b : Low} {k k' j n : Nat} {ks : List Str} {den : Den} {c m : Str} {o e : Expr} {es : List Expr} {kws : List Keyword} {g fa fk : DEx} {apos pos : Pos} {pl : Sem Bool} (M : MKal X.prog X.w X.K X.mg X.base k c m j n ks den) (hr : Room k' X.A) (hk : k ≤ k') (tk : L2N.Takes X (WEb b E)) (ho : DE X (WEb b E) o g) (ha : DAn X (WEb b E) (e :: es) fa) (hw : DK X (WEb b E) kws fk)
    (hn : (e :: es).length = n := by rfl) (hkl : kws.length = ks.length := by rfl) (hj : n + ks.length + 1 = j := by rfl)
    (hall : (backToKw pos (keywordEach kws X.env)).all (·.1.isSome) = true := by rfl) (hks : (backToKw pos (keywordEach kws X.env)).filterMap (·.1) = ks := by rfl)
    (hst : starEach (e :: es) X.env = (false, eval e X.env) :: starEach es X.env := by rfl) (hpl : ((backTo pos (starEach (e :: es) X.env)).any (·.1) || (backToKw pos (keywordEach kws X.env)).any (·.1.isNone)) = false := by rfl)
    (ht : eval (.Call (.Attribute o m apos) (e :: es) kws pos) X.env = (do let ov ← eval o X.env; standAt apos.atName; let (f, first) ← holding [ov] (getMethod ov m pl); callWith pos f first (backTo pos (starEach (e :: es) X.env)) (backToKw pos (keywordEach kws X.env))) := by rfl) :
    DE X (WEb b E) (.Call (.Attribute o m apos) (e :: es) kws pos) (methD c m den [] g (aApp fa fk)) := by
  obtain ⟨C, f, fd, ps, hm, hC, hM, F, hB⟩ := M
  obtain ⟨to, po, ro⟩ := ho
  obtain ⟨⟨ta, pa, ra⟩, hl⟩ := ha
  obtain ⟨⟨tw, pw, rw'⟩, hl2⟩ := hw
  subst hn
  refine ⟨_, pe_methN (pl := pl) po hC hM F (hr.mono hk) hB (passes_const tk) pa pw hall hks hst hpl ht, ref_meth hm (fun _ _ => .nil) ro (refA_app ra rw' hl (fun ρ st d ρ' st' h => by rw [← hkl]; exact hl2 _ _ _ _ _ h)) fun ρ st d ρ' st' h => ?_⟩
  unfold aApp at h
  cases h1 : fa ρ st with
  | ok d1 ρ1 st1 =>
    obtain ⟨d1', rfl, l1⟩ := hl _ _ _ _ _ h1
    rw [h1] at h
    simp only [R.bind] at h
    cases h2 : fk ρ1 st1 with
    | ok d2 ρ2 st2 =>
      obtain ⟨d2', rfl, l2⟩ := hl2 _ _ _ _ _ h2
      rw [h2] at h
      simp only [R.bind] at h
      cases h
      exact ⟨_, rfl, by rw [List.length_append, l1, l2, hkl]; simpa using hj⟩
    | exc c ρ2 st2 => rw [h2] at h; cases h
    | bad => rw [h2] at h; cases h
  | exc c ρ2 st2 => rw [h1] at h; cases h
  | bad => rw [h1] at h; cases h
end DL
namespace DL
open PySem L2
def Mfk (K : PySem.W.Frag) (mg : Str → Option Value) (c m qual : Str) (ps : List Str) (st : Stmt) (n : Nat) (ks : List Str) : Prop := ∃ C f fd, mg c = some (.ref C) ∧ Cls K C ∧ Meth K C m f ∧ FunV K m qual st f fd ∧ KBn K fd ps (n + 1) ks (fun a b => a ++ b) (fun a b => a ++ b)
theorem MKal.of {P : Program} {wd : World} {K : PySem.W.Frag} {mg : Str → Option Value} {base : Heap} {c m qual : Str} {st : Stmt} {N ps ks : List Str} {k n j i : Nat} {g : DSx} (M : Mfk K mg c m qual ps st i ks) (S : FnScope N ps (defScope st)) (hn : n = N.length) (hj : j = ps.length)
    (hb : ∀ (f : Addr) (cdv : Value) (A : Around) (outer : List Env) (s : Shared) (H : Hp) (E : XK), Room k (A.deeper (PyProof.Rows.envOfC qual (defScope st) s.heap.objs.size f cdv)) →
      DSs (cxOf (L2N.CX P wd) P wd K mg base N qual (defScope st) f cdv A outer s H E) (WEx E) (defBody st) g) : MKal P wd K mg base (k + 1) c m j i ks (runD n g) := by
  obtain ⟨C, f, fd, h1, h2, h3, h4, h5⟩ := M
  subst hj
  exact ⟨C, f, fd, ps, h1, h2, h3, fn_D h4 S hn (hb f), h5⟩
end DL
namespace DL
open PySem L2 NdefX LamX PyProof.Rows
def spB (K : PySem.W.Frag) (mg : Str → Option Value) (b : Low) (n : Nat) (dn : Den) : Sp := fun vs H Q E => vs.length = n ∧
  ∃ (w : Ws) (ds : List D), w.ρ = [] ∧ w.σ = [] ∧ w.H = H ∧ Sts K ⟨mg, b⟩ w ∧ Reps K ⟨mg, b⟩ w.G w.ι vs ds ∧ OkR K ⟨mg, b⟩ (WEb b E) w Q (dn ds w.st)
theorem cells_next {cl : List (Str × Addr)} {fr : List Str} {ws : List (Option V)} {H H' : Hp} {h h' : Heap} {fs : List Addr} (C : CellsAt cl fr ws h H) (u : Un fs [] H H' h h') : CellsAt cl fr ws h' H' := by
  have kp : ∀ c v, H c = none → h.IsCell c v → h'.IsCell c v := fun c v n ⟨o, ho, hd⟩ => by
    obtain ⟨sl, q⟩ := u.any ho n (by simp)
    exact ⟨_, q, hd⟩
  refine ⟨C.len, fun y c e => ?_, C.inj, fun i y e => ?_⟩
  · obtain ⟨n, v, o, ho, hd⟩ := C.all y c e
    exact ⟨u.free c o ho n (by simp), v, kp c v n ⟨o, ho, hd⟩⟩
  · obtain ⟨c, hc, hv⟩ := C.has i y e
    refine ⟨c, hc, fun v ev => ?_⟩
    obtain ⟨x, r, z⟩ := hv v ev
    exact ⟨x, r, kp c _ (C.all y c hc).1 z⟩
structure CloX (Y : Cx) (k n : Nat) (b : Low) (dn : Den) : Prop where
  at_ : ∀ (f : Addr), b.fn = some f → ∀ (pins : List (Addr × Obj)) (σ : L2.St) (s : Shared) (w : Ws), Inv Y pins σ w.H s → Sts Y.K ⟨Y.mg, b⟩ w → PySem.W.FnAt f s.heap
  run : ∀ (f : Addr), b.fn = some f → ∀ (pins : List (Addr × Obj)) (σ : L2.St) (H : Hp) (s : Shared) (us : List Value) (vs : List V) (Q : VK) (E : XK), Inv Y pins σ H s → Room k Y.A → Vals vs us → spB Y.K Y.mg b n dn vs H Q E →
    codeAny (model Y.prog Y.w) Y.A (.call (.ref f) ⟨us, []⟩) (CR (L2N.CX Y.prog Y.w) Y.stack Y.prog Y.w H s Q E) s
def tClo (K : PySem.W.Frag) (mg : Str → Option Value) (b : Low) (i n : Nat) (dn : Den) (W : WX) (t : TA) : TE := fun σ H Q => ∃ (f : Addr) (w : Ws), b.fn = some f ∧ σ[i]? = some (some (.ref f)) ∧ w.H = H ∧ Sts K ⟨mg, b⟩ w ∧
  t σ H fun vs H1 => (∃ w1 : Ws, w1.H = H1 ∧ Sts K ⟨mg, b⟩ w1) ∧ spB K mg b n dn vs H1 Q (fun cls d H' => W cls d σ H')
section
variable {X : Cx} {k j n i : Nat} {b : Low} {dn : Den} {W : WX} {x : Str} {t : TA} {e : Expr} {es : List Expr} {p pos : Pos}
theorem clo_ends {pins : List (Addr × Obj)} {σ : L2.St} {H : Hp} {s : Shared} {Q : VK} {f : Addr} {us : List Value} (tk : L2N.Takes X W) (I : Inv X pins σ H s)
    (c : codeAny (model X.prog X.w) X.A (.call (.ref f) ⟨us, []⟩) (CR (L2N.CX X.prog X.w) X.stack X.prog X.w H s Q (WE W σ)) s) : wpAny (model X.prog X.w) X.A (call (.ref f) us) (EP X pins σ Q) X.xe s := by
  refine wpAny_call (codeAny_mono c fun r s' z => ?_)
  cases r with
  | error u => exact L2N.passAt tk σ pins H s u s' I z
  | ok o =>
    cases o with
    | ret u => exact I.after z
    | _ => exact False.elim z
theorem pe_clo (C : CloX X k n b dn) (hr : Room j X.A) (hk : k ≤ j) (tk : L2N.Takes X W) (hN : X.N[i]? = some x) (hv : Vis X.env.scope x) (ha : PA X (e :: es) t)
    (hd : (x == ("__debug__" : Str)) = false := by decide) (hcd : (x == ("__classdict__" : Str)) = false := by decide)
    (he : starEach (e :: es) X.env = (false, eval e X.env) :: starEach es X.env := by rfl) (hpl : (backTo pos (starEach es X.env)).any (·.1) = false := by rfl) :
    PE X (.Call (.Name x p) (e :: es) [] pos) (tClo X.K X.mg b i n dn W t) := by
  refine ⟨fun pins s σ H Q I z => ?_⟩
  obtain ⟨f, w, hf, hs, rfl, sw, ht⟩ := z
  have V := (pe_var (pos := p) hN hv hd hcd).run pins s σ w.H (fun v H1 => v = .ref f ∧ H1 = w.H) I ⟨.ref f, hs, rfl, rfl⟩
  refine wpAny_Call_Name_kw (thn V fun u s1 ⟨v, H1, I1, r1, ev, eH⟩ => ?_)
  subst ev
  rw [eH] at I1
  obtain rfl : u = Value.ref f := r1
  have A := ha.run pos pins s1 σ w.H _ I1 ht
  refine PySem.W.callWith_F (first := []) (C.at_ f hf pins σ s1 w I1 sw) (thn A fun us s2 ⟨vs, H2, I2, r, ⟨w1, eh, sw1⟩, q⟩ => ?_) he hpl
  subst eh
  exact ⟨C.at_ f hf pins σ s2 w1 I2 sw1, clo_ends tk I2 (C.run f hf pins σ _ s2 us vs Q _ I2 (hr.mono hk) r q)⟩
end
@[simp] def callFD (i : Nat) (dn : Den) (fa : DEx) (ρ : En) (st : Store) : R := match ρ[i]? with
  | some .fn => callD dn fa ρ st
  | _ => .bad
theorem spB_at {K : PySem.W.Frag} {mg : Str → Option Value} {b : Low} {n : Nat} {dn : Den} {W : WB} {w : Ws} {vs : List V} {ds : List D} {Q : VK} {σ : L2.St} (s : Sts K ⟨mg, b⟩ w) (hl : vs.length = n) (r : Reps K ⟨mg, b⟩ w.G w.ι vs ds) (hs : w.σ = σ)
    (q : OkR K ⟨mg, b⟩ W w Q (callD dn (fun ρ st => .ok (.tup ds) ρ st) w.ρ w.st)) : spB K mg b n dn vs w.H Q (fun cls dx H => W cls dx σ H) := by
  subst hs
  refine ⟨hl, w.strip, ds, rfl, rfl, rfl, s.strip, r, ?_⟩
  show OkR K ⟨mg, b⟩ _ w.strip Q (dn ds w.st)
  unfold callD at q
  simp only [R.bind] at q
  cases e : dn ds w.st with
  | ok d ρ st =>
    rw [e] at q
    intro w' v h1 h2 h3 A rv
    have A1 := Aft.out (w := w) (ρ := []) (σ := []) s.strip (fun i ds h => by simp at h) A
    exact q { w'.strip with ρ := w.ρ, σ := w.σ } v rfl h2 rfl (Aft.back s A1) rv
  | exc c ρ st =>
    rw [e] at q
    intro w' cls dx h1 h2 h3 A rv
    have A1 := Aft.out (w := w) (ρ := []) (σ := []) s.strip (fun i ds h => by simp at h) A
    exact q { w'.strip with ρ := w.ρ, σ := w.σ } cls dx rfl h2 rfl (Aft.back s A1) rv
  | bad => rw [e] at q; exact q.elim
section
variable {X : Cx} {W : WB} {k j n i : Nat} {dn : Den} {x : Str} {e : Expr} {es : List Expr} {fa : DEx} {p pos : Pos}
theorem de_clo (C : CloX X k n W.b dn) (hr : Room j X.A) (hk : k ≤ j) (tk : L2N.Takes X W) (ha : DAn X W (e :: es) fa) (hn : (e :: es).length = n := by rfl) (hN : X.N[i]? = some x := by rfl) (hv : Vis X.env.scope x := by first | exact Or.inl rfl | exact Or.inr (Or.inl rfl) | exact Or.inr (Or.inr rfl))
    (hd : (x == ("__debug__" : Str)) = false := by decide) (hcd : (x == ("__classdict__" : Str)) = false := by decide)
    (he : starEach (e :: es) X.env = (false, eval e X.env) :: starEach es X.env := by rfl) (hpl : (backTo pos (starEach es X.env)).any (·.1) = false := by rfl) : DE X W (.Call (.Name x p) (e :: es) [] pos) (callFD i dn fa) := by
  obtain ⟨⟨t, pt, rt⟩, hl⟩ := ha
  refine ⟨_, pe_clo (b := W.b) C hr hk tk hN hv pt hd hcd he hpl, fun w Q s q => ?_⟩
  unfold callFD at q
  split at q
  · rename_i hρ
    obtain ⟨a, ea, eb⟩ := s.slo i _ hρ
    refine ⟨a, w, eb, ea, rfl, s, ?_⟩
    refine rt.bind (P := OkR X.K (MGx X W.b) W w Q) s q (fun d ρ st n => by cases d <;> first | rfl | exact absurd rfl (n _)) (fun _ _ _ z => z) (fun z => z) fun w1 vs ds e1 a1 r1 ee q1 => ?_
    have l : vs.length = n := by
      obtain ⟨ds', e', l⟩ := hl _ _ _ _ _ ee
      cases e'
      rw [r1.len, l]; exact hn
    exact ⟨⟨w1, rfl, a1.s⟩, spB_at a1.s l r1 e1 (OkR.aft q1 a1 e1)⟩
  · exact q.elim
end
end DL
namespace DL
open PySem L2 NdefX LamX PyProof.Rows
theorem codeHd_field {K : PySem.W.Frag} {c P : Addr} (h : PySem.W.codeHdIn K c P = true) : ∃ (oc : Option Addr) (vs : Array Value) (sl : Array (Option Value)), K.lookup c = some ⟨.type "code", oc, .fields vs, sl⟩ ∧ (vs[11]? : Option Value) = some (.ref P) := by
  unfold PySem.W.codeHdIn at h
  split at h
  · rename_i oc vs sl hk
    simp only [Bool.and_eq_true] at h
    have a := h.1.1.1.1.1
    split at a
    · rename_i P' h11
      rw [beq_iff_eq.mp a] at h11
      exact ⟨_, vs, _, hk, h11⟩
    · cases a
  · cases h
theorem codeHd_uniq {K : PySem.W.Frag} {c P P' : Addr} (h : PySem.W.codeHdIn K c P = true) (h' : PySem.W.codeHdIn K c P' = true) : P = P' := by
  obtain ⟨_, _, _, e1, e2⟩ := codeHd_field h
  obtain ⟨_, _, _, f1, f2⟩ := codeHd_field h'
  rw [e1] at f1
  cases f1
  rw [e2] at f2
  cases f2
  rfl
theorem body_run {K : PySem.W.Frag} {mg : Str → Option Value} {b : Low} {E : XK} {t : TS} {g : DSx} {w : Ws} {ρ : En} {σ : L2.St} {Q : VK} (rt : RefS K ⟨mg, b⟩ (WEb b E) t g) (hρ : w.ρ = []) (hσ : w.σ = []) (sts : Sts K ⟨mg, b⟩ w) (sts' : Sts K ⟨mg, b⟩ { w with ρ := ρ, σ := σ })
    (nm : ∀ (i : Nat) ds, ρ[i]? ≠ some (Sl.ml ds)) (ok : OkR K ⟨mg, b⟩ (WEb b E) w Q (endR (g ρ w.st))) : t { nx := fun _ H' => Q .non H', rt := Q } σ w.H := by
  have e0 : w.strip = w := ws_strip hρ hσ
  have s0 : Sts K ⟨mg, b⟩ w.strip := by rw [e0]; exact sts
  have out : ∀ w', Aft K ⟨mg, b⟩ { w with ρ := ρ, σ := σ } w' → Aft K ⟨mg, b⟩ w w'.strip := fun w' A => by
    have := Aft.out (w := w) s0 nm A
    rwa [e0] at this
  refine rt { w with ρ := ρ, σ := σ } { nx := fun _ H' => Q .non H', rt := Q } sts' ?_
  show OkF K ⟨mg, b⟩ (WEb b E) _ _ (g ρ w.st)
  cases e : g ρ w.st with
  | nx ρ' st' =>
    rw [e] at ok
    exact fun w' h1 h2 A => ok w'.strip .non rfl h2 hσ.symm (out w' A) .non
  | rt d ρ' st' =>
    rw [e] at ok
    exact fun w' v h1 h2 A r => ok w'.strip v rfl h2 hσ.symm (out w' A) r
  | bk ρ' st' => rw [e] at ok; exact ok.elim
  | ct ρ' st' => rw [e] at ok; exact ok.elim
  | exc c ρ' st' =>
    rw [e] at ok
    exact fun w' cls dx h1 h2 A r => ok w'.strip cls dx rfl h2 hσ.symm (out w' A) r
  | bad => rw [e] at ok; exact ok.elim
def spN (K : PySem.W.Frag) (mg : Str → Option Value) (b : Low) (n : Nat) (den : Den) : List (Option V) → Sp := fun ws vs H Q E => vs.length = n ∧
  ∃ (w : Ws) (us : List V) (ds : List D), ws = us.map some ∧ w.ρ = [] ∧ w.σ = [] ∧ w.H = H ∧ Sts K ⟨mg, b⟩ w ∧ Reps K ⟨mg, b⟩ w.G w.ι (vs ++ us) ds ∧ OkR K ⟨mg, b⟩ (WEb b E) w Q (den ds w.st)
theorem startF_eq (N : List Str) (vs us : List V) : startF N vs (us.map some) = L2.start N (vs ++ us) := by
  unfold startF L2.start
  simp [Nat.sub_sub]
theorem nfn_D {P : Program} {wd : World} {K : PySem.W.Frag} {mg : Str → Option Value} {base : Heap} {b : Low} {k n : Nat} {f : Addr} {F : NF} {N ps fr : List Str} {g : DSx} (S : NScope N ps fr F.scope) (hn : n = N.length)
    (hb : ∀ (doc pm ctv : Value) (us : List Value), us.length = ps.length → bindArgs (F.fd doc pm ctv) ⟨us, []⟩ = pure (ps.zip us))
    (hbody : ∀ (A : Around) (outer : List Env) (s : Shared) (H : Hp) (E : XK), Room k (A.deeper (envF F f s.heap.objs.size)) → DSs (ncx (L2N.CX P wd) P wd K mg base N F f A outer s H E) (WEb b E) F.body g) :
    NOk P wd K mg base (L2N.CX P wd) (k + 1) f F ps fr (spN K mg b ps.length (runD n g)) := by
  refine nok_of S hb (fun ws vs H Q E z => z.1) fun A outer s H vs ws Q E hr _ _ hw z => ?_
  obtain ⟨hl, w, us, ds, rfl, hρ, hσ, rfl, sts, rp, ok⟩ := z
  obtain ⟨t, pt, rt⟩ := hbody A outer s w.H E hr
  refine ⟨t, pt, ?_⟩
  rw [startF_eq]
  exact body_run rt hρ hσ sts (sts.enter hn rp (N := N)) (enter_ml n ds) ok
structure RecD (P : Program) (wd : World) (K : PySem.W.Frag) (mg : Str → Option Value) (base : Heap) (k kc m : Nat) (x : Str) (st : Stmt) (N ps : List Str) (gb : Den → DSx) (f : Addr) (fd : FuncData) : Prop where
  fn : FunV K x x st f fd
  kp : PySem.W.keepIn K (.ref f) = true
  at_ : mg x = some (.ref f)
  bi : Binds K fd ps []
  sc : FnScope N ps (defScope st)
  body : ∀ (b : Low) (dn : Den) (cdv : Value) (A : Around) (outer : List Env) (s : Shared) (H : Hp) (E : XK), b.ex = none → Room k (A.deeper (envOfC x (defScope st) s.heap.objs.size f cdv)) →
    (∀ pn xe, CloX ((cxOf (L2N.CX P wd) P wd K mg base N x (defScope st) f cdv A outer s H E).tr pn xe) kc m b dn) → DSs (cxOf (L2N.CX P wd) P wd K mg base N x (defScope st) f cdv A outer s H E) (WEb b E) (defBody st) (gb dn)
@[simp] def enterC (n : Nat) (ds : List D) : En := ds.map .val ++ Sl.fn :: List.replicate (n - ds.length - 1) .no
theorem enterC_ml (n : Nat) (ds : List D) (i : Nat) (es : List D) : (enterC n ds)[i]? ≠ some (.ml es) := by
  intro h
  have := List.mem_of_getElem? h
  unfold enterC at this
  rcases List.mem_append.mp this with h | h
  · obtain ⟨d, _, e⟩ := List.mem_map.mp h; cases e
  · rcases List.mem_cons.mp h with h | h
    · cases h
    · have := List.eq_of_mem_replicate h; cases this
@[simp] def recD (n : Nat) (gb : Den → DSx) (dn : Den) : Den := fun ds st => endR (gb dn (enterC n ds) st)
theorem Sts.enterC {K : PySem.W.Frag} {mg : MG} {w : Ws} {n : Nat} {N : List Str} {vs : List V} {ds : List D} {a : Addr} (s : Sts K mg w) (hn : n = N.length) (r : Reps K mg w.G w.ι vs ds) (hf : mg.b.fn = some a) (hl : ds.length + 1 ≤ n) : Sts K mg { w with ρ := enterC n ds, σ := L2.start N (vs ++ [.ref a]) } where
  lowG := s.lowG
  lowI := s.lowI
  sub := s.sub
  ln := by unfold DL.enterC L2.start; simp [r.len, ← hn]; omega
  len := s.len
  cel := s.cel
  inj := s.inj
  slo := fun i x h => by
    show SlotAt K mg { w with ρ := DL.enterC n ds, σ := L2.start N (vs ++ [.ref a]) } (L2.start N (vs ++ [.ref a]))[i]? x
    have h' : (DL.enterC n ds)[i]? = some x := h
    unfold DL.enterC at h'
    by_cases q : i < ds.length
    · rw [List.getElem?_append_left (by simpa using q), List.getElem?_map] at h'
      cases e : ds[i]? with
      | none => rw [e] at h'; cases h'
      | some d =>
        rw [e] at h'
        cases h'
        obtain ⟨v, e1, e2⟩ := r.get e
        refine ⟨v, ?_, e2⟩
        unfold L2.start
        rw [List.getElem?_append_left (by simp [r.len]; omega), List.getElem?_map, List.getElem?_append_left (by rw [r.len]; exact q), e1]
        rfl
    · rw [List.getElem?_append_right (by simpa using q), List.length_map] at h'
      by_cases q2 : i = ds.length
      · subst q2
        simp at h'
        subst h'
        refine ⟨a, ?_, hf⟩
        unfold L2.start
        rw [List.getElem?_append_left (by simp [r.len]), List.getElem?_map, List.getElem?_append_right (by rw [r.len]; omega), r.len]
        simp
      · obtain ⟨j, hj⟩ : ∃ j, i - ds.length = j + 1 := ⟨i - ds.length - 1, by omega⟩
        rw [hj, List.getElem?_cons_succ] at h'
        have := List.eq_of_mem_replicate (List.mem_of_getElem? h')
        subst this; trivial
  sep := fun i l a ⟨es, h, _⟩ _ => absurd h (enterC_ml _ _ _ _)
  dis := fun i j a ⟨es, h, _⟩ _ => absurd h (enterC_ml _ _ _ _)
structure Hand (P : Program) (wd : World) (K : PySem.W.Frag) (mg : Str → Option Value) (base : Heap) (kc m : Nat) (b : Low) (dn : Den) (stack : List Env) (s : Shared) (H : Hp) : Prop where
  clo : ∀ Y : Cx, Y.prog = P → Y.w = wd → Y.K = K → Y.mg = mg → Y.base = base → Y.outer = stack → Y.ex = [] → Y.s_0 = s → Y.H_0 = H → CloX Y kc m b dn
theorem rec_run {X : Cx} {W : WX} {pins : List (Addr × Obj)} {w : Ws} {s : Shared} {k kc m n : Nat} {x : Str} {st : Stmt} {N ps : List Str} {gb : Den → DSx} {g f : Addr} {fd : FuncData} {b0 : Low} {dn : Den} {us : List Value} {vs : List V} {ds : List D} {Q : VK}
    (RD : RecD X.prog X.w X.K X.mg X.base k kc m x st N ps gb g fd) (hr : Room (k + 1) X.A) (hn : n = N.length) (hp : ds.length + 1 = ps.length) (hpn : ps.length ≤ n) (I : Inv X pins w.σ w.H s) (sts : Sts X.K ⟨X.mg, b0⟩ w) (rp : Reps X.K ⟨X.mg, b0⟩ w.G w.ι vs ds) (rv : Vals (vs ++ [.ref f]) us)
    (Hc : Hand X.prog X.w X.K X.mg X.base kc m ⟨w.G, w.ι, some f, none⟩ dn X.stack s w.H) (ok : OkR X.K ⟨X.mg, b0⟩ ⟨W, b0⟩ w Q (callD (recD n gb dn) (fun ρ st => .ok (.tup ds) ρ st) w.ρ w.st)) :
    codeAny (model X.prog X.w) X.A (.call (.ref g) ⟨us, []⟩) (CR (L2N.CX X.prog X.w) X.stack X.prog X.w w.H s Q (WE W w.σ)) s := by
  obtain ⟨oc, od, dV, kV, doc, pm, an, cdv, ct, osl, rfl, lk, hcd⟩ := RD.fn.ex
  have hl : (vs ++ [V.ref f]).length = ps.length := by rw [List.length_append, rp.len]; exact hp
  refine run_ofS (N := N) (ps := ps) (us := us) (vs := vs ++ [.ref f]) lk hcd RD.sc hr I.env0 (by have := RD.bi s us I.kIn (by rw [List.append_nil, ← rv.length]; exact hl); rwa [List.append_nil] at this) rv hl fun hr' => ?_
  obtain ⟨t, pt, rt⟩ := RD.body ⟨w.G, w.ι, some f, none⟩ dn cdv X.A X.stack s w.H (WE W w.σ) rfl hr' fun pn xe => Hc.clo _ rfl rfl rfl rfl rfl rfl rfl rfl rfl
  refine ⟨t, pt, ?_⟩
  have s1 : Sts X.K ⟨X.mg, ⟨w.G, w.ι, some f, none⟩⟩ w.strip := sts.strip.reb rfl (Same.refl _) (LeI.refl _)
  have s2 : Sts X.K ⟨X.mg, ⟨w.G, w.ι, some f, none⟩⟩ { w.strip with ρ := enterC n ds, σ := L2.start N (vs ++ [V.ref f]) } := s1.enterC (n := n) (N := N) (a := f) hn (rp.reb _ _) rfl (by omega)
  refine body_run (w := w.strip) (ρ := enterC n ds) (σ := L2.start N (vs ++ [V.ref f])) rt rfl rfl s1 s2 (enterC_ml n ds) ?_
  unfold callD recD at ok
  simp only [R.bind] at ok
  cases e : endR (gb dn (enterC n ds) w.st) with
  | ok d ρ st =>
    have e' : endR (gb dn (enterC n ds) w.strip.st) = .ok d ρ st := e
    rw [e'] 
    rw [e] at ok
    intro w' v h1 h2 h3 A rv
    have A1 := (Aft.out (w := w) (ρ := []) (σ := []) s1 (fun i ds h => by simp at h) A).reb (b' := b0) sts.strip rfl
    exact ok { w'.strip with ρ := w.ρ, σ := w.σ } v rfl h2 rfl (Aft.back sts A1) (rv.reb _ _)
  | exc c ρ st =>
    have e' : endR (gb dn (enterC n ds) w.strip.st) = .exc c ρ st := e
    rw [e']
    rw [e] at ok
    intro w' cls dx h1 h2 h3 A rv
    have A1 := (Aft.out (w := w) (ρ := []) (σ := []) s1 (fun i ds h => by simp at h) A).reb (b' := b0) sts.strip rfl
    exact ok { w'.strip with ρ := w.ρ, σ := w.σ } cls dx rfl h2 rfl (Aft.back sts A1) (rv.reb _ _)
  | bad => rw [e] at ok; exact ok.elim
end DL
namespace DL
open PySem L2 NdefX LamX PyProof.Rows
theorem hand_nested {X : Cx} {pins : List (Addr × Obj)} {σ : L2.St} {s : Shared} {w : Ws} {F : NF} {a : Addr} {kc : Nat} {ps fr : List Str} {us : List V} {cs : List D} {den : Den} {b0 : Low} (I : Inv X pins σ w.H s) (h1 : w.G a = some (FnO a F)) (h2 : w.G F.c = some (CodeO F.c F.qual))
    (C0 : CellsAt F.cl fr (us.map some) s.heap w.H) (rc : Reps X.K ⟨X.mg, b0⟩ w.G w.ι us cs) (O : NOk X.prog X.w X.K X.mg X.base (L2N.CX X.prog X.w) kc a F ps fr (spN X.K X.mg ⟨w.G, w.ι, some a, none⟩ ps.length den)) :
    Hand X.prog X.w X.K X.mg X.base kc ps.length ⟨w.G, w.ι, some a, none⟩ (fun ds st => den (ds ++ cs) st) X.stack s w.H := by
  refine ⟨fun Y e1 e2 e3 e4 e5 e6 e7 e8 e9 => ?_⟩
  have up : ∀ w' : Ws, Sts Y.K ⟨Y.mg, ⟨w.G, w.ι, some a, none⟩⟩ w' → ∀ q o, w.G q = some o → w'.H q = some o := fun w' z q o g => z.sub _ _ (z.lowG _ _ g)
  constructor
  · intro f hf pins' σ' s' w' I' sw'
    cases hf
    exact fnAt_of I' (up w' sw' _ _ h1)
  · intro f hf pins' σ' H' s' us' vs' Q E I' hr rv z
    cases hf
    obtain ⟨hl, w', ds, hρ, hσ, rfl, sw', rp, ok⟩ := z
    have un : Un Y.fs [] w.H w'.H s.heap s'.heap := by
      have u := I'.base
      rw [e7, e8, e9] at u
      exact u
    have e0 := I'.env0
    rw [e1, e2, e3, e4, e5] at e0
    have := O.run Y.A Y.stack s' w'.H us' vs' (us.map some) Q E hr e0 (up w' sw' _ _ h1) (up w' sw' _ _ h2) (cells_next C0 un) rv
    rw [e1, e2]
    rw [e3, e4] at sw' rp ok
    exact this ⟨hl, w', us, ds ++ cs, rfl, hρ, hσ, rfl, sw', rp.append ((rc.reb _ _).mono sw'.lowG sw'.lowI), ok⟩
section
variable {X : Cx} {pins : List (Addr × Obj)} {σ : L2.St} {H : Hp} {s : Shared}
theorem nd_make {c P : Addr} {ps : Array Value} {name : Str} {params : Arguments} {body : List Stmt} {scope : Scope} {pos : Pos} {E : Value → Shared → Prop} {Q : Value → Shared → Prop} (I : Inv X pins σ H s) (TB : TabB X.base X.mg c P) (hcode : X.env.code = .ref c)
    (hP : H P = some (.tbl ps)) (ht : TriplesOk ps.toList) (hco : ∀ cv, codeAmong pos ps.toList = some cv → ∃ c', cv = .ref c') (hfr : ∀ y ∈ scope.names, y.2 = .free → ∃ c, X.env.cells.lookup y.1 = some c)
    (new : ∀ (f c' : Addr) (s' : Shared), H c' = none → H f = none → f ≠ c' → Inv X pins σ (upd (upd (upd H P (.tbl (ps ++ #[rawInt pos.line, rawInt pos.col, .ref c']))) c' (CodeO c' (X.env.qual ++ name))) f (FnO f ⟨name, X.env.qual ++ name, params, body, scope, cloFrom X.env.cells scope.names [], c'⟩)) s' → Q (.ref f) s')
    (hit : ∀ (f c' : Addr) (s' : Shared), codeAmong pos ps.toList = some (.ref c') → H f = none → Inv X pins σ (upd H f (FnO f ⟨name, X.env.qual ++ name, params, body, scope, cloFrom X.env.cells scope.names [], c'⟩)) s' → Q (.ref f) s') :
    wpAny (model X.prog X.w) X.A (makeFunction name (X.env.qual ++ name) params (.stmts body) scope X.env [] [] [] pos pos.line) Q E s := by
  have gl := I.mod.glob.keeps I.bk
  have hd := TB.code.keeps I.bk
  have tb : s.heap.get? P = some { cls := .none, data := .fields ps } := I.hok P _ hP
  have bl : s.heap.BuiltinsAt X.mg P := TB.bm.keeps I.bk
  cases hc : codeAmong pos ps.toList with
  | none =>
    refine PySem.W.makeFunction_K (mg := X.mg) (c := c) (P := P) (ps := ps) (closure_ok hfr) I.ok.glob gl hcode hd tb ht hc TB.gP bl fun c' ctv doc h' tk hx hge hlt ⟨c2, oc, vs, t, e2, z⟩ htb => ?_
    cases e2
    have I1 := inv_table (t' := tk) (more := #[rawInt pos.line, rawInt pos.col, .ref c']) (h' := h') I hP (fun b o hb e => hx b o hb e) htb hge ⟨oc, vs, t, z⟩
    have I2 := inv_fn (F := ⟨name, X.env.qual ++ name, params, body, scope, cloFrom X.env.cells scope.names [], c'⟩) (t' := tk) (doc := doc) (pm := (X.mg "__name__").getD .none) (ctv := ctv) I1 rfl
    exact new h'.objs.size c' _ (I.hok.fresh hge) (I.hok.fresh (Nat.le_trans hge (Nat.le_of_lt hlt))) (Nat.ne_of_gt hlt) I2
  | some cv =>
    obtain ⟨c', rfl⟩ := hco cv hc
    refine PySem.W.makeFunction_hit (mg := X.mg) (c := c) (P := P) (ps := ps) (closure_ok hfr) I.ok.glob gl hcode hd tb ht hc bl fun ctv doc h' tk hx hsz => ?_
    have I1 : Inv X pins σ H { s with heap := h', toks := tk } := I.kept hx
    have I2 := inv_fn (F := ⟨name, X.env.qual ++ name, params, body, scope, cloFrom X.env.cells scope.names [], c'⟩) (t' := tk) (doc := doc) (pm := (X.mg "__name__").getD .none) (ctv := ctv) I1 rfl
    exact hit h'.objs.size c' _ hc (I1.hok.fresh (Nat.le_refl _)) I2
end
def tNd (P : Addr) (ln col : Nat) (q : Str) (i : Nat) (mk : Addr → NF) : TS := fun D σ H => ∃ ps : Array Value, H P = some (.tbl ps) ∧ TriplesOk ps.toList ∧ (∀ (pos : Pos) (cv : Value), codeAmong pos ps.toList = some cv → ∃ c, cv = .ref c) ∧
  (∀ f c' : Addr, H c' = none → H f = none → f ≠ c' → D.nx (σ.set i (some (.ref f))) (upd (upd (upd H P (.tbl (ps ++ #[rawInt ln, rawInt col, .ref c']))) c' (CodeO c' q)) f (FnO f (mk c')))) ∧
  ∀ (f c' : Addr) (pos : Pos), codeAmong pos ps.toList = some (.ref c') → H f = none → D.nx (σ.set i (some (.ref f))) (upd H f (FnO f (mk c')))
theorem ps_nd {X : Cx} {c P : Addr} {name : Str} {params : Arguments} {body : List Stmt} {scope : Scope} {pos : Pos} {i : Nat} (TB : TabB X.base X.mg c P) (hcode : X.env.code = .ref c) (hfree : ∀ y ∈ scope.names, y.2 = .free → X.env.scope.names.lookup y.1 = some .cell ∨ X.env.scope.names.lookup y.1 = some .free)
    (hd0 : params.defaults = []) (hk0 : params.kw_defaults = []) (ha : annTrees params none X.env = []) (hN : X.N.Nodup) (hi : X.N[i]? = some name) (hx : Loc X.env.scope name) (hf : X.fn name = true ∨ X.env.scope.names.lookup name = some .local) :
    PS X (.FunctionDef name params body [] none [] scope none name pos) (tNd P pos.line pos.col (X.env.qual ++ name) i fun c' => ⟨name, X.env.qual ++ name, params, body, scope, cloFrom X.env.cells scope.names [], c'⟩) := by
  refine ⟨fun pins s σ H D I z => ?_⟩
  obtain ⟨ps, hP, ht, hco, new, hit⟩ := z
  have hq : qualnameIn X.env name name = X.env.qual ++ name := by
    rcases (show X.env.kindOf name = some .local ∨ X.env.kindOf name = some .cell from hx) with k | k
    · unfold qualnameIn; rw [k] <;> first | rfl | exact if_neg (by decide)
    · unfold qualnameIn; rw [k] <;> first | rfl | exact if_neg (by decide)
  refine PySem.W.nestDef_K hd0 hk0 ha ?_
  rw [hq]
  have fr : ∀ y ∈ scope.names, y.2 = .free → ∃ c, X.env.cells.lookup y.1 = some c := fun y hy e => by
    rcases hfree y hy e with z | z
    · exact I.ok.has _ (.inl z)
    · exact I.ok.has _ (.inr z)
  refine nd_make I TB hcode hP ht (fun cv => hco pos cv) fr (fun f c' s' n1 n2 ne I1 => ?_) fun f c' s' hc n1 I1 => ?_
  · exact store_ok I1 hN hi hx (v := .ref f) rfl (fun s'' J => ⟨_, _, J, new f c' n1 n2 ne⟩) hf
  · exact store_ok I1 hN hi hx (v := .ref f) rfl (fun s'' J => ⟨_, _, J, hit f c' pos hc n1⟩) hf
end DL
namespace DL
open PySem L2 NdefX LamX PyProof.Rows
def tSem (X : Cx) (W : WX) (g : Addr) (t : TA) : TE := fun σ H Q => t σ H fun vs H1 => ∀ (pins : List (Addr × Obj)) (s : Shared) (us : List Value), Inv X pins σ H1 s → Vals vs us → codeAny (model X.prog X.w) X.A (.call (.ref g) ⟨us, []⟩) (CR (L2N.CX X.prog X.w) X.stack X.prog X.w H1 s Q (WE W σ)) s
theorem pe_sem {X : Cx} {W : WX} {g : Addr} {x : Str} {t : TA} {e : Expr} {es : List Expr} {p pos : Pos} (hg : Gl X x) (hm : X.mg x = some (.ref g)) (hk : PySem.W.keepIn X.K (.ref g) = true) (tk : L2N.Takes X W) (ha : PA X (e :: es) t)
    (hdb : (x == ("__debug__" : Str)) = false := by decide) (he : starEach (e :: es) X.env = (false, eval e X.env) :: starEach es X.env := by rfl) (hpl : (backTo pos (starEach es X.env)).any (·.1) = false := by rfl) : PE X (.Call (.Name x p) (e :: es) [] pos) (tSem X W g t) := by
  refine ⟨fun pins s σ H Q I z => ?_⟩
  refine wpAny_Call_Name_kw (ld_glob I hg hm ?_ hdb)
  have A := ha.run pos pins s σ H _ I z
  exact PySem.W.callWith_K (h₀ := X.base) I.ok.mod.kin hk (thn A fun us s1 ⟨vs, H1, I1, r, q⟩ => ⟨I1.kIn, clo_ends tk I1 (q pins s1 us I1 r)⟩) he hpl
@[simp] def capsD (ρ : En) : List Nat → Option (List D)
  | [] => some []
  | j :: js => match ρ[j]? with
    | some (.val d) => (capsD ρ js).map (d :: ·)
    | _ => none
theorem caps_slots {K : PySem.W.Frag} {mg : MG} {w : Ws} (s : Sts K mg w) : ∀ {js : List Nat} {cs : List D}, capsD w.ρ js = some cs → ∃ us : List V, js.map (slotAt w.σ) = us.map some ∧ Reps K mg w.G w.ι us cs
  | [], cs, h => by cases h; exact ⟨[], rfl, .nil⟩
  | j :: js, cs, h => by
    unfold capsD at h
    split at h
    · rename_i d e
      cases e2 : capsD w.ρ js with
      | none => rw [e2] at h; cases h
      | some c2 =>
        rw [e2] at h
        cases h
        obtain ⟨us, q1, q2⟩ := caps_slots s e2
        obtain ⟨v, ev, rv⟩ := s.slo j _ e
        exact ⟨v :: us, by rw [List.map_cons, List.map_cons, slotAt_of ev, q1], .cons rv q2⟩
    · cases h
theorem set_same {α : Type} {l : List α} {i : Nat} {x : α} (h : l[i]? = some x) : l.set i x = l := by
  apply List.ext_getElem?
  intro j
  by_cases e : i = j
  · subst e
    rw [List.getElem?_set_self (List.getElem?_eq_some_iff.mp h).1, h]
  · rw [List.getElem?_set_ne e]
theorem upd_comm {H : Hp} {a b : Addr} {x y : HO} (h : a ≠ b) : upd (upd H a x) b y = upd (upd H b y) a x := by
  funext q
  by_cases h1 : q = a
  · subst h1; rw [upd_ne h, upd_same, upd_same]
  · by_cases h2 : q = b
    · subst h2; rw [upd_same, upd_ne h1, upd_same]
    · rw [upd_ne h2, upd_ne h1, upd_ne h1, upd_ne h2]
theorem nd_states {K : PySem.W.Frag} {mg : MG} {w : Ws} {P : Addr} {l i : Nat} {q nm : Str} (s : Sts K mg w) (hst : w.st[l]? = some (.tab q nm)) (hi : w.ι[l]? = some P) {E : Ends} {mk : Addr → NF} (hmk : ∀ c, (mk c).c = c ∧ (mk c).qual = nm) {ln col : Nat}
    (k : ∀ (w1 : Ws) (f c : Addr), Aft K mg w w1 → w1.ρ = w.ρ.set i .no → w1.st = w.st → w1.σ = w.σ.set i (some (.ref f)) → w1.G f = some (FnO f (mk c)) → w1.G c = some (CodeO c nm) → E.nx w1.σ w1.H) : tNd P ln col nm i mk E w.σ w.H := by
  obtain ⟨gP, tO, ps, hP, ht, hc⟩ := s.cel l _ P hst hi
  have live : Liv w l P := ⟨_, hst, by simp, hi⟩
  refine ⟨ps, hP, ht, fun pos cv z => let ⟨c, e, _⟩ := hc pos cv z; ⟨c, e⟩, fun f c' n1 n2 ne => ?_, fun f c' pos z n1 => ?_⟩
  · have A1 := Aft.alloc (o := CodeO c' nm) s n1
    let wA : Ws := { w with G := upd w.G c' (CodeO c' nm), H := upd w.H c' (CodeO c' nm) }
    have nf : wA.H f = none := by show upd w.H c' _ f = none; rw [upd_ne ne]; exact n2
    have A2 : Aft K mg wA { wA with G := upd wA.G f (FnO f (mk c')), H := upd wA.H f (FnO f (mk c')) } := Aft.alloc (o := FnO f (mk c')) A1.s nf
    let wB : Ws := { wA with G := upd wA.G f (FnO f (mk c')), H := upd wA.H f (FnO f (mk c')) }
    have pc : P ≠ c' := ne_of_none hP n1
    have pf : P ≠ f := ne_of_none hP n2
    have gB : wB.G P = none := by show upd (upd w.G c' _) f _ P = none; rw [upd_ne pf, upd_ne pc]; exact gP
    have sB : Sts K mg wB := A2.s
    have gc : wB.G c' = some (CodeO c' nm) := by show upd (upd w.G c' _) f _ c' = _; rw [upd_ne (Ne.symm ne), upd_same]
    have A3 := Aft.mutCell sB (l := l) (a := P) (o := .tbl (ps ++ #[rawInt ln, rawInt col, .ref c'])) (c0 := .tab q nm) (c := .tab q nm) hst (by simp) hi (by simp) (by
      refine ⟨gB, tO, _, upd_same, ?_, fun p' cv z => ?_⟩
      · have eL : (ps ++ #[rawInt ln, rawInt col, .ref c']).toList = ps.toList ++ [rawInt ln, rawInt col, .ref c'] := by simp
        rw [eL]
        exact PySem.TriplesOk_snoc _ _ _ _ ht
      · have eL : (ps ++ #[rawInt ln, rawInt col, .ref c']).toList = ps.toList ++ [rawInt ln, rawInt col, .ref c'] := by simp
        rw [eL] at z
        rcases among_app (pos := ⟨ln, col, 0, 0⟩) _ ht z with z | z
        · obtain ⟨c0, e0, g0⟩ := hc p' cv z
          exact ⟨c0, e0, A2.g _ _ (A1.g _ _ g0)⟩
        · exact ⟨c', z, gc⟩)
    have A4 := Aft.setNo (i := i) (x := some (.ref f)) A3.s
    have AA := A1.trans (A2.trans (A3.trans A4))
    have := k _ f c' AA rfl (by show wB.st.set l (.tab q nm) = w.st; exact set_same hst) rfl upd_same gc
    have eH : upd (upd (upd w.H P (.tbl (ps ++ #[rawInt ln, rawInt col, .ref c']))) c' (CodeO c' nm)) f (FnO f (mk c')) = upd (upd (upd w.H c' (CodeO c' nm)) f (FnO f (mk c'))) P (.tbl (ps ++ #[rawInt ln, rawInt col, .ref c'])) := by
      rw [upd_comm (H := w.H) pc, upd_comm (H := upd w.H c' (CodeO c' nm)) pf]
    rw [eH]
    exact this
  · obtain ⟨c0, e0, g0⟩ := hc pos _ z
    cases e0
    have A1 := Aft.alloc (o := FnO f (mk c')) s n1
    have A4 := Aft.setNo (i := i) (x := some (.ref f)) A1.s
    exact k _ f c' (A1.trans A4) rfl rfl rfl upd_same (A1.g _ _ g0)
end DL
namespace DL
open PySem L2 NdefX LamX PyProof.Rows
structure TabAt (X : Cx) (q : Str) (c P : Addr) : Prop where
  tb : TabB X.base X.mg c P
  code : X.env.code = .ref c
  hd : PySem.W.codeHdIn X.K c P = true
  fn : ∃ (f : Addr) (fd : FuncData) (oc : Value) (od : Option Addr) (osl : Array (Option Value)), X.mg q = some (.ref f) ∧ X.K.lookup f = some ⟨oc, od, .func fd, osl⟩ ∧ fd.code = .ref c
theorem TabAt.uniq {X : Cx} {q : Str} {c P P' : Addr} (T : TabAt X q c P) (h : TabOf X.K X.mg q P') : P' = P := by
  obtain ⟨f, fd, oc, od, osl, h1, h2, h3⟩ := T.fn
  exact codeHd_uniq (h f c fd oc od osl h1 h2 h3) T.hd
@[simp] def ndRetD (l : Nat) (q nm : Str) (i : Nat) (js : List Nat) (n : Nat) (gb : Den → DSx) (nb : Nat) (g : DSx) (fe : DEx) (ρ : En) (st : Store) : Fl := match st[l]? with
  | some (.tab q' nm') => if q' = q ∧ nm' = nm ∧ i < ρ.length then (match fe (ρ.set i .no) st with
    | .ok d ρ st => (match capsD ρ js with
      | some cs => (match recD n gb (fun ds st => runD nb g (ds ++ cs) st) [d] st with
        | .ok r _ st => .rt r ρ st
        | .exc x _ st => .exc x ρ st
        | .bad => .bad)
      | none => .bad)
    | .exc x ρ st => .exc x ρ st
    | .bad => .bad) else .bad
  | _ => .bad
theorem dss_ndret {X : Cx} {W : WB} {l i k k1 j n nb : Nat} {q nm name x : Str} {c P g0 : Addr} {fd : FuncData} {params : Arguments} {body : List Stmt} {scope : Scope} {stg : Stmt} {Ng pg N ps fr : List Str} {gb : Den → DSx} {g : DSx} {js : List Nat} {e : Expr} {fe : DEx} {pos p p2 pos2 pos3 : Pos}
    (T : TabAt X q c P) (hq : X.env.qual ++ name = nm) (hnd : ndefB X.env.scope scope fr = true) (hd0 : params.defaults = []) (hk0 : params.kw_defaults = []) (ha : annTrees params none X.env = []) (hN : X.N.Nodup) (hi : X.N[i]? = some name) (hx : Loc X.env.scope name)
    (hf : X.fn name = true ∨ X.env.scope.names.lookup name = some .local) (hjs : js.map (fun j => X.N[j]?) = fr.map some)
    (S : nscB N ps fr scope = true) (hnb : nb = N.length) (hps : ps.length = 1)
    (hb : ∀ (cl : List (Str × Addr)) (c' : Addr) (doc pm ctv : Value) (us : List Value), us.length = ps.length → bindArgs ((⟨name, nm, params, body, scope, cl, c'⟩ : NF).fd doc pm ctv) ⟨us, []⟩ = pure (ps.zip us))
    (hbody : ∀ (cl : List (Str × Addr)) (c' f : Addr) (b : Low) (A : Around) (outer : List Env) (s : Shared) (H : Hp) (E : XK), Room k1 (A.deeper (envF ⟨name, nm, params, body, scope, cl, c'⟩ f s.heap.objs.size)) → DSs (ncx (L2N.CX X.prog X.w) X.prog X.w X.K X.mg X.base N ⟨name, nm, params, body, scope, cl, c'⟩ f A outer s H E) (WEb b E) body g)
    (RD : RecD X.prog X.w X.K X.mg X.base k (k1 + 1) 1 x stg Ng pg gb g0 fd) (hr : Room j X.A) (hk : k + 1 ≤ j) (hn : n = Ng.length) (hpg : pg.length = 2) (hpn : 2 ≤ n) (hg : Gl X x) (tk : L2N.Takes X W) (he : DE X W e fe) (hv : Vis X.env.scope name)
    (hdb : (x == ("__debug__" : Str)) = false := by decide) (hd : (name == ("__debug__" : Str)) = false := by decide) (hcd : (name == ("__classdict__" : Str)) = false := by decide)
    (he1 : starEach [e, .Name name p2] X.env = (false, eval e X.env) :: starEach [.Name name p2] X.env := by rfl) (he2 : starEach [.Name name p2] X.env = (false, eval (.Name name p2) X.env) :: starEach [] X.env := by rfl) (hpl : (backTo pos2 (starEach [.Name name p2] X.env)).any (·.1) = false := by rfl) :
    DSs X W [.FunctionDef name params body [] none [] scope none name pos, .Return (some (.Call (.Name x p) [e, .Name name p2] [] pos2)) pos3] (ndRetD l q nm i js n gb nb g fe) := by
  subst hq
  obtain ⟨te, pe, re⟩ := he
  refine ⟨_, pss_cons (ps_nd T.tb T.code (ndef_free hnd) hd0 hk0 ha hN hi hx hf) (pss_one (ps_ret (pe_sem (W := W) hg RD.at_ RD.kp tk (pa_cons pe (pa_cons (pv i hi hv hd hcd) pa_nil he2) he1) hdb he1 hpl))), fun w E s ok => ?_⟩
  unfold ndRetD at ok
  split at ok
  · rename_i q' nm' hst
    split at ok
    · rename_i hh
      obtain ⟨rfl, rfl, hil⟩ := hh
      obtain ⟨P', hP'⟩ : ∃ P', w.ι[l]? = some P' := by
        have := (List.getElem?_eq_some_iff.mp hst).1
        rw [s.len] at this
        exact ⟨_, List.getElem?_eq_getElem this⟩
      have eP : P' = P := T.uniq (s.cel l _ P' hst hP').2.1
      subst eP
      refine nd_states s hst hP' (mk := fun c' => ⟨name, X.env.qual ++ name, params, body, scope, cloFrom X.env.cells scope.names [], c'⟩) (fun c => ⟨rfl, rfl⟩) fun w1 f c1 A1 r1 t1 s1 g1 g2 => ?_
      show te w1.σ w1.H _
      rw [← r1, ← t1] at ok
      refine re.bindF A1.s (OkF.aft ok A1) fun w2 v d sw2 e2 A2 rp ok2 => ?_
      have sl : w2.σ[i]? = some (some (V.ref f)) := by
        rw [e2, s1]
        exact List.getElem?_set_self (by rw [← s.ln]; exact hil)
      refine ⟨.ref f, by rw [← e2]; exact sl, fun pins s0 us I rv => ?_⟩
      cases hcs : capsD w2.ρ js with
      | none => simp only [hcs] at ok2; exact ok2.elim
      | some cs =>
        simp only [hcs] at ok2
        obtain ⟨vs2, eq1, rc⟩ := caps_slots sw2 hcs
        rw [← e2] at I ⊢
        have C0 : CellsAt (cloFrom X.env.cells scope.names []) fr (vs2.map some) s0.heap w2.H := by
          have := cells_of I (Caps.made I.ok (ndef_free hnd) (ndef_fr hnd) hjs)
          rwa [eq1] at this
        have O := nfn_D (b := ⟨w2.G, w2.ι, some f, none⟩) (f := f) (F := ⟨name, X.env.qual ++ name, params, body, scope, cloFrom X.env.cells scope.names [], c1⟩) (nscope_by S) hnb (hb _ c1) (fun A outer s H E hr => hbody _ c1 f _ A outer s H E hr)
        have Hc := hand_nested (b0 := W.b) I (A2.g _ _ g1) (A2.g _ _ g2) C0 rc O
        rw [hps] at Hc
        refine rec_run (W := W) (n := n) (vs := [v]) (ds := [d]) (b0 := W.b) RD (hr.mono hk) hn (by rw [hpg]; rfl) (by rw [hpg]; exact hpn) I sw2 (.cons rp .nil) rv Hc ?_
        simp only [callD, R.bind]
        cases er : recD n gb (fun ds st => runD nb g (ds ++ cs) st) [d] w2.st with
        | ok r ρ st =>
          rw [er] at ok2
          exact fun w' v h1 h2 h3 A rv => ok2 w' v h1 h2 A rv
        | exc x ρ st =>
          rw [er] at ok2
          exact fun w' cls dx h1 h2 h3 A rv => ok2 w' cls dx h1 h2 A rv
        | bad => rw [er] at ok2; exact ok2.elim
    · exact ok.elim
  · exact ok.elim
end DL
namespace DL
open PySem L2 NdefX LamX PyProof.Rows
@[simp] def keepS : Sl → Sl
  | .val d => .val d
  | _ => .no
theorem Sts.kept {K : PySem.W.Frag} {mg : Str → Option Value} {b0 : Low} {f : Option Addr} {w w' : Ws} (s : Sts K ⟨mg, b0⟩ w) (s' : Sts K ⟨mg, ⟨w.G, w.ι, f, none⟩⟩ w') : Sts K ⟨mg, ⟨w.G, w.ι, f, none⟩⟩ { w' with ρ := w.ρ.map keepS, σ := w.σ } where
  lowG := s'.lowG
  lowI := s'.lowI
  sub := s'.sub
  ln := by simp [s.ln]
  len := s'.len
  cel := s'.cel
  inj := s'.inj
  slo := fun i x h => by
    have h' : (w.ρ.map keepS)[i]? = some x := h
    rw [List.getElem?_map] at h'
    cases e : w.ρ[i]? with
    | none => rw [e] at h'; cases h'
    | some y =>
      rw [e] at h'
      cases h'
      have z := s.slo i y e
      cases y with
      | val d => obtain ⟨v, e1, r⟩ := z; exact ⟨v, e1, (r.reb _ _).mono s'.lowG s'.lowI⟩
      | _ => trivial
  sep := fun i l a ⟨es, h, _⟩ _ => by
    have h' : (w.ρ.map keepS)[i]? = some (.ml es) := h
    rw [List.getElem?_map] at h'
    cases e : w.ρ[i]? with
    | none => rw [e] at h'; cases h'
    | some y => rw [e] at h'; cases y <;> cases h'
  dis := fun i j a ⟨es, h, _⟩ _ => by
    have h' : (w.ρ.map keepS)[i]? = some (.ml es) := h
    rw [List.getElem?_map] at h'
    cases e : w.ρ[i]? with
    | none => rw [e] at h'; cases h'
    | some y => rw [e] at h'; cases y <;> cases h'
section
variable {X : Cx} {pins : List (Addr × Obj)} {s : Shared} {w : Ws}
end
end DL
namespace DL
open PySem L2
def OkOd (K : PySem.W.Frag) (mg : MG) (W : WB) (w : Ws) (Q : VK) : R → Prop
  | .ok (.dct ds) ρ st => ∀ (w' : Ws) (a : Addr) (vs : List (Key × V)), w'.ρ = ρ → w'.st = st → w'.σ = w.σ → Aft K mg w w' → w.H a = none → Loose w' a → w'.H a = some (.dK vs) → RepK K mg w'.G w'.ι vs ds → Q (.ref a) w'.H
  | .ok _ _ _ => False
  | .exc c ρ st => ∀ (w' : Ws) (cls : Value) (dx : Option Addr), w'.ρ = ρ → w'.st = st → w'.σ = w.σ → Aft K mg w w' → ExcAt K mg w' c cls dx → W cls dx w'.σ w'.H
  | .bad => False
def RefOd (K : PySem.W.Frag) (mg : MG) (W : WB) (t : TE) (f : DEx) : Prop := ∀ (w : Ws) (Q : VK), Sts K mg w → OkOd K mg W w Q (f w.ρ w.st) → t w.σ w.H Q
def DOd (X : Cx) (W : WB) (e : Expr) (f : DEx) : Prop := ∃ t, PE X e t ∧ RefOd X.K (MGx X W.b) W t f
def LockQ (Q : VK) : VK := fun v H => Q v H ∨ ∃ d u, v = .ref d ∧ H d = some u ∧ Mut (some u) ∧ ∀ od, Q v (upd H d (.frz od u))
theorem pe_lk {X : Cx} {e : Expr} {t : TE} (h : PE X e t) : PE X e (fun σ H Q => t σ H (LockQ Q)) := by
  refine ⟨fun pins s σ H Q I z => ?_⟩
  refine thn (h.run pins s σ H _ I z) fun u s1 ⟨v, H1, I1, r, q⟩ => ?_
  rcases q with q | ⟨d, o, rfl, hd, mu, q⟩
  · exact ⟨v, H1, I1, r, q⟩
  · obtain ⟨od, J⟩ := I1.lock hd mu
    exact ⟨_, _, J, r, q od⟩
@[simp] def lkE (f : DEx) (ρ : En) (st : Store) : R := (f ρ st).bind fun d ρ st => match d with
  | .dct ds => .ok (.dlk ds) ρ st
  | _ => .bad
@[simp] def cellDE (f : DEx) (ρ : En) (st : Store) : R := (f ρ st).bind fun d ρ st => match d with
  | .dct ds => .ok (.ref st.length) ρ (st ++ [.dct ds])
  | _ => .bad
section
variable {K : PySem.W.Frag} {mg : MG} {W : WB}
theorem Aft.lockD {w0 w : Ws} (A : Aft K mg w0 w) {a : Addr} {vs : List (Key × V)} {ds : List (Key × D)} (od : Obj) (hf : w0.H a = none) (hl : Loose w a) (r : RepK K mg w.G w.ι vs ds) :
    ∃ w' : Ws, w'.ρ = w.ρ ∧ w'.st = w.st ∧ w'.σ = w.σ ∧ w'.H = upd w.H a (.frz od (.dK vs)) ∧ Aft K mg w0 w' ∧ Rep K mg w'.G w'.ι (.ref a) (.dlk ds) := by
  have A1 := A.looseUpd (o := .frz od (.dK vs)) hf hl
  have A2 := A1.freeze (a := a) (o := .frz od (.dK vs)) hf hl upd_same
  exact ⟨{ w with H := upd w.H a (.frz od (.dK vs)), G := upd w.G a (.frz od (.dK vs)) }, rfl, rfl, rfl, rfl, A2, .dlk upd_same (r.mono (same_upd hl.1) (LeI.refl _))⟩
theorem RefOd.lk {t : TE} {f : DEx} (h : RefOd K mg W t f) : RefE K mg W (fun σ H Q => t σ H (LockQ Q)) (lkE f) := fun w Q s q => by
  refine h w _ s ?_
  unfold lkE at q
  cases e : f w.ρ w.st with
  | ok d ρ st =>
    rw [e] at q
    cases d with
    | dct ds =>
      intro w' a vs h1 h2 h3 A hf hl ha r
      subst h1; subst h2
      refine .inr ⟨a, .dK vs, rfl, ha, trivial, fun od => ?_⟩
      obtain ⟨w2, e1, e2, e3, e4, A2, r2⟩ := A.lockD od hf hl r
      rw [← e4]
      exact q w2 _ e1 e2 (e3.trans h3) A2 r2
    | _ => exact q.elim
  | exc c ρ st => rw [e] at q; exact q
  | bad => rw [e] at q; exact q
theorem RefOd.cell {t : TE} {f : DEx} (h : RefOd K mg W t f) : RefE K mg W t (cellDE f) := fun w Q s q => by
  refine h w _ s ?_
  unfold cellDE at q
  cases e : f w.ρ w.st with
  | ok d ρ st =>
    rw [e] at q
    cases d with
    | dct ds =>
      intro w' a vs h1 h2 h3 A hf hl ha r
      subst h1; subst h2
      have A1 := A.newCellG (c := .dct ds) hf hl (by simp) ⟨hl.1, vs, ha, r⟩
      exact q { w' with ι := w'.ι ++ [a], st := w'.st ++ [.dct ds] } (.ref a) rfl rfl h3 A1 (cellRep A)
    | _ => exact q.elim
  | exc c ρ st => rw [e] at q; exact q
  | bad => rw [e] at q; exact q
end
section
variable {X : Cx} {W : WB} {e : Expr} {f : DEx} {pos : Pos}
theorem DOd.lk (h : DOd X W e f) : DE X W e (lkE f) := let ⟨_, p, r⟩ := h; ⟨_, pe_lk p, r.lk⟩
theorem DOd.cell (h : DOd X W e f) : DE X W e (cellDE f) := let ⟨_, p, r⟩ := h; ⟨_, p, r.cell⟩
theorem dod_new : DOd X W (.Dict [] [] pos) (cst (.dct [])) := ⟨_, pe_dnewK, fun w Q s q p hp => by
  have A := Aft.loose (o := .dK []) s hp
  exact q { w with H := upd w.H p (.dK []) } p [] rfl rfl rfl A hp (s.looseAt hp) upd_same .nil⟩
end
def dcGo (g : DGx) (c fk f : DEx) (vs : List Nat) : List D → List (Key × D) → En → Store → R
  | [], acc => fun ρ st => .ok (.dct acc) ρ st
  | d :: ds, acc => fun ρ st => match g d ρ with
    | none => .bad
    | some ρ => match c ρ st with
      | .ok (.bl true) ρ st => (match fk ρ st with
        | .ok kd ρ st => (match kd.key with
          | some k => (match f ρ st with
            | .ok y ρ st => dcGo g c fk f vs ds (putD acc k y) (wipeR ρ vs) st
            | _ => .bad)
          | none => .bad)
        | _ => .bad)
      | .ok (.bl false) ρ st => dcGo g c fk f vs ds acc (wipeR ρ vs) st
      | _ => .bad
@[simp] noncomputable def dcD (fi : DEx) (g : DGx) (c fk f : DEx) (vs : List Nat) (ρ : En) (st : Store) : R := (fi ρ st).bind fun d ρ st => match d.iter with
  | some (ds, gd) => if ds.length ≤ sizeLine then dcGo g (chkE gd c) fk (chkE gd f) vs ds [] (wipeR ρ vs) st else .bad
  | none => .bad
theorem dc_it {J : It} {n : Nat} {G : Hp → Prop} {Y : Nat → Hp → V → Hp → Prop} (w : Walk J n G Y) {g : TG} {tt : TT} {tk tv : TE} {vs : List Nat} {σ : L2.St} {H1 : Hp} {D : Addr} {Qd : Hp → Prop} (Pv : Nat → Hp → Prop) (h0 : Pv 0 (upd H1 D (.dK []))) (hG : ∀ i H, i ≤ n → Pv i H → G H)
    (hs : ∀ i x H H', i < n → Pv i H → Y i H x H' → g x (wipe σ vs) H' fun σ2 H2 => wipe σ2 vs = wipe σ vs ∧ tt σ2 H2 fun b H3 => if b = true then tk σ2 H3 fun y H4 => tv σ2 H4 fun z H5 => ∃ kvs k, y = kV k ∧ H5 D = some (.dK kvs) ∧ kvs.length < sizeLine ∧ Pv (i + 1) (upd H5 D (.dK (putK kvs k z))) else Pv (i + 1) H3)
    (hd : ∀ H, Pv n H → Qd H) : ∃ W : Nat → Nat → Hp → Prop, (∃ m, W 0 m (upd H1 D (.dK []))) ∧ ∀ i m H, W i m H → (J.stop i H ∧ Qd H) ∨ (J.go i H ∧ ∃ Nx : Hp → Prop, (∀ H', Nx H' → ∃ m', m' < m ∧ W (i + 1) m' H') ∧ ∀ x H', J.yld i H x H' → g x (wipe σ vs) H' fun σ2 H2 => wipe σ2 vs = wipe σ vs ∧ tt σ2 H2 fun b H3 =>
        if b = true then tk σ2 H3 fun y H4 => tv σ2 H4 fun z H5 => ∃ kvs k, y = kV k ∧ H5 D = some (.dK kvs) ∧ kvs.length < sizeLine ∧ Nx (upd H5 D (.dK (putK kvs k z))) else Nx H3) := by
  refine ⟨fun i m H => i ≤ n ∧ m = n - i ∧ Pv i H, ⟨n, Nat.zero_le _, by simp, h0⟩, fun i m H z => ?_⟩
  obtain ⟨hi, rfl, p⟩ := z
  have q := hG i H hi p
  rcases Nat.lt_or_ge i n with hlt | hge
  · exact .inr ⟨w.goes i H hlt q, Pv (i + 1), fun H' p' => ⟨n - (i + 1), by omega, hlt, rfl, p'⟩, fun x H' y => hs i x H H' hlt p (w.yields i H x H' hlt q y)⟩
  · have e : i = n := Nat.le_antisymm hi hge
    subst e
    exact .inl ⟨w.stops H q, hd H p⟩
section
variable {K : PySem.W.Frag} {mg : MG} {W : WB}
theorem RefI.bindOd {t : TI} {f : DEx} (h : RefI K mg W t f) {w : Ws} {Q : VK} {Q1 : It → Hp → Prop} {r : D → En → Store → R} (s : Sts K mg w) (hd : ∀ d ρ st, d.iter = none → r d ρ st = .bad)
    (hP : OkOd K mg W w Q ((f w.ρ w.st).bind r))
    (k : ∀ (w1 : Ws) (J : It) (d : D) (ds : List D) (gd : Gd), w1.σ = w.σ → Aft K mg w w1 → d.iter = some (ds, gd) → IterOk K mg w1 J ds gd → okG gd w1.st → OkOd K mg W w Q (r d w1.ρ w1.st) → Q1 J w1.H) : t w.σ w.H Q1 := by
  refine h w Q1 s ?_
  cases e : f w.ρ w.st with
  | ok d ρ st =>
    rw [e] at hP
    cases ei : d.iter with
    | none =>
      simp only [R.bind] at hP
      rw [hd _ ρ st ei] at hP
      exact hP.elim
    | some dg =>
      obtain ⟨ds, gd⟩ := dg
      simp only [OkI, ei]
      intro w' J h1 h2 h3 h4 h5 h6
      subst h1; subst h2
      exact k w' J d ds gd h3 h4 ei h5 h6 hP
  | exc c ρ st =>
    rw [e] at hP
    exact hP
  | bad => rw [e] at hP; exact hP
theorem refOd_dc {wi : TI} {is vs : List Nat} {fi : DEx} {g : DGx} {c fk f : DEx} (hi : RefI K mg W wi fi) (hsub : ∀ i ∈ is, i ∈ vs) :
    RefOd K mg W (tDc wi (gOf K mg is g) (ttOf K mg (WF mg.b) c) (tOf K mg (WF mg.b) fk) (tOf K mg (WF mg.b) f) vs) (dcD fi g c fk f vs) := fun w Q s q => by
  refine hi.bindOd s (fun d ρ st n => by simp only [n]) q fun w1 J d0 ds gd e1 a1 ei it og q1 => ?_
  simp only [ei] at q1
  have hz : ds.length ≤ sizeLine := by
    by_cases h : ds.length ≤ sizeLine
    · exact h
    · simp only [if_neg h] at q1; exact q1.elim
  simp only [if_pos hz] at q1
  obtain ⟨G0, Y, wk, hG, hY⟩ := it
  intro D hD
  have fr : w.H D = none := a1.al D hD
  have A0 := Aft.loose (o := .dK []) a1.s hD
  have L0 := a1.s.looseAt (o := .dK []) hD
  refine dc_it wk (fun i H => ∃ (w2 : Ws) (ρ2 : En) (av : List (Key × V)) (ad : List (Key × DL.D)), Aft K mg w1 w2 ∧ w2.σ = wipe w.σ vs ∧ w2.ρ = wipeR ρ2 vs ∧ w2.H = H ∧ Loose w2 D ∧ w2.H D = some (.dK av) ∧ RepK K mg w2.G w2.ι av ad ∧ av.length ≤ i ∧ okG gd w2.st ∧
    OkOd K mg W w Q (dcGo g (chkE gd c) fk (chkE gd f) vs (ds.drop i) ad w2.ρ w2.st)) ?_ ?_ ?_ ?_
  · have A1 := Aft.wiped A0.s vs
    refine ⟨{ w1 with H := upd w1.H D (.dK []), ρ := wipeR w1.ρ vs, σ := wipe w1.σ vs }, w1.ρ, [], [], A0.trans A1, by rw [← e1], rfl, rfl, (A1.still L0 upd_same).1, upd_same, .nil, Nat.le_refl _, og, q1⟩
  · rintro i H _ ⟨w2, _, _, _, A, _, _, rfl, _, _, _, _, og2, _⟩
    exact hG w2 A.fz og2
  · rintro i x H H' hl ⟨w2, ρ2, av, ad, A, hσ, hρ, rfl, hL, hav, hr, hle, og2, q2⟩ y
    have hd : ds[i]? = some ds[i] := List.getElem?_eq_getElem hl
    obtain ⟨G', A3, r3⟩ := hY i w2 x H' _ hd A.fz og2 y
    have ed : ds.drop i = ds[i] :: ds.drop (i + 1) := List.drop_eq_getElem_cons hl
    rw [ed] at q2
    unfold dcGo at q2
    cases z : g ds[i] w2.ρ with
    | none => simp only [z] at q2; exact q2.elim
    | some ρ' =>
      simp only [z] at q2
      refine ⟨{ w2 with G := G', H := H' }, ds[i], ρ', hσ, rfl, A3.s, r3, z, fun σ' hw A4 => ⟨?_, ?_⟩⟩
      · have := hw vs hsub
        have e : ({ w2 with G := G', H := H' } : Ws).σ = wipe w.σ vs := hσ
        rw [this, e]
        have idem : ∀ (σ : L2.St) (us : List Nat), wipe (wipe σ us) us = wipe σ us := by
          intro σ us
          have : ∀ us' : List Nat, (∀ i ∈ us', i ∈ us) → wipe (wipe σ us') us = wipe σ us := by
            intro us'
            induction us' with
            | nil => intro _; rfl
            | cons v us' ih =>
              intro hh
              show wipe ((wipe σ us').set v none) us = _
              rw [wipe_set (hh v (by simp)), ih fun i hi => hh i (by simp [hi])]
          exact this us fun _ h => h
        exact idem _ _
      · have A5 := A3.trans A4
        have A15 := A.trans A5
        refine ⟨{ w2 with ρ := ρ', σ := σ', G := G', H := H' }, rfl, rfl, A5.s, ?_⟩
        have hwσ : wipe σ' vs = wipe w.σ vs := by
          have := hw vs hsub
          have e : ({ w2 with G := G', H := H' } : Ws).σ = wipe w.σ vs := hσ
          rw [this, e]
          have idem : ∀ (σ : L2.St) (us us' : List Nat), (∀ i ∈ us', i ∈ us) → wipe (wipe σ us') us = wipe σ us := by
            intro σ us us'
            induction us' with
            | nil => intro _; rfl
            | cons v us' ih =>
              intro hh
              show wipe ((wipe σ us').set v none) us = _
              rw [wipe_set (hh v (by simp)), ih fun i hi => hh i (by simp [hi])]
          exact idem _ _ _ fun _ h => h
        obtain ⟨L5, h5⟩ := A5.still hL hav
        show OkT K mg (WF mg.b) _ _ (c ρ' w2.st)
        cases ec : c ρ' w2.st with
        | ok d ρ6 st6 =>
          have og6 : okG gd st6 := by
            by_cases h : okG gd st6
            · exact h
            · simp only [chkE, ec, if_neg h] at q2; exact q2.elim
          simp only [chkE, ec, if_pos og6] at q2
          cases d with
          | bl b =>
            intro w6 h1 h2 h3 A6
            subst h1; subst h2
            obtain ⟨L6, h6⟩ := A6.still L5 h5
            cases b with
            | false =>
              refine iteF ?_
              have A7 := Aft.wiped A6.s vs
              exact ⟨{ w6 with ρ := wipeR w6.ρ vs, σ := wipe w6.σ vs }, w6.ρ, av, ad, (A15.trans A6).trans A7, by rw [show w6.σ = σ' from h3]; exact hwσ, rfl, rfl, (A7.still L6 h6).1, h6, hr.mono (A5.g.trans A6.g) (A5.i.trans A6.i), Nat.le_succ_of_le hle, og6, q2⟩
            | true =>
              refine iteT ?_
              refine ⟨w6, h3, rfl, A6.s, ?_⟩
              simp only at q2
              cases ek : fk w6.ρ w6.st with
              | ok kd ρ7 st7 =>
                simp only [ek] at q2
                cases hkey : kd.key with
                | none => simp only [hkey] at q2; exact q2.elim
                | some k =>
                  simp only [hkey] at q2
                  intro w7 kv h1 h2 h37 A7 r7
                  subst h1; subst h2
                  obtain ⟨L7, h7⟩ := A7.still L6 h6
                  refine ⟨w7, h37.trans h3, rfl, A7.s, ?_⟩
                  cases ef : f w7.ρ w7.st with
                  | ok y' ρ8 st8 =>
                    have og8 : okG gd st8 := by
                      by_cases h : okG gd st8
                      · exact h
                      · simp only [ef, if_neg h] at q2; exact q2.elim
                    simp only [ef, if_pos og8] at q2
                    intro w8 yv h1 h2 h3' A8 r8
                    subst h1; subst h2
                    obtain ⟨L8, h8⟩ := A8.still L7 h7
                    have rk : kv = kV k := r7.key hkey
                    refine ⟨av, k, rk, h8, ?_, ?_⟩
                    · have : i < ds.length := hl
                      omega
                    · have A78 := A7.trans A8
                      have A18 := A15.trans (A6.trans A78)
                      have A9 := A18.looseUpd (o := .dK (putK av k yv)) hD L8
                      have L9 : Loose { w8 with H := upd w8.H D (.dK (putK av k yv)) } D := L8
                      have A10 := Aft.wiped A9.s vs
                      have hlen := length_putK av k yv
                      refine ⟨{ w8 with H := upd w8.H D (.dK (putK av k yv)), ρ := wipeR w8.ρ vs, σ := wipe w8.σ vs }, w8.ρ, putK av k yv, putD ad k y', A9.trans A10, ?_, rfl, rfl, (A10.still L9 upd_same).1, upd_same, ?_, by omega, og8, q2⟩
                      · show wipe w8.σ vs = _
                        rw [h3', h37, h3]; exact hwσ
                      · exact RepK.put (hr.mono (A5.g.trans (A6.g.trans A78.g)) (A5.i.trans (A6.i.trans A78.i))) r8
                  | exc x ρ8 st8 => simp only [ef] at q2; exact q2.elim
                  | bad => simp only [ef] at q2; exact q2.elim
              | exc x ρ8 st8 => simp only [ek] at q2; exact q2.elim
              | bad => simp only [ek] at q2; exact q2.elim
          | _ => exact q2.elim
        | exc x ρ6 st6 => simp only [chkE, ec] at q2; exact q2.elim
        | bad => simp only [chkE, ec] at q2; exact q2.elim
  · rintro H ⟨w2, ρ2, av, ad, A, hσ, hρ, rfl, hL, hav, hr, hle, _, q2⟩
    rw [List.drop_length] at q2
    have A2 := A.unwipe hσ hρ
    refine q2 { w2 with σ := w.σ } D av rfl rfl rfl (a1.trans A2) fr ?_ hav hr
    refine ⟨hL.1, fun m => hL.2 ?_⟩
    rcases m with m | ⟨i, es, h1, h2⟩
    · exact .inl m
    · refine .inr ⟨i, es, h1, ?_⟩
      have h1' : w2.ρ[i]? = some (.ml es) := h1
      rw [hρ] at h1'
      rw [hσ, wipe_get_ne _ (wipeR_get ρ2 h1' (by simp)).1]
      exact h2
end
end DL
namespace DL
open PySem L2 PyProof.Rows
section
variable {X : Cx} {W : WB} {kx vx tg iter : Expr} {ifs : List Expr} {scope : Scope} {own : List (Str × Nat)} {pos spos : Pos} {fi c fk f : DEx} {g : DGx} {is : List Nat}
theorem dod_dc (hc : X.calm = true) (hN : X.N.Nodup) (hi : DI X W tg iter fi) (ok : BlkOk X.N X.env.scope scope own) (hsub : ∀ i ∈ is, i ∈ own.map (·.2))
    (hg : ∀ (s : Shared) (H : Hp) (C : Addr) (cl : List (Str × Addr)) (fp : List Addr), DG (X.blk s H scope (PySem.compEnvC scope cl C X.env) fp) tg is g)
    (ht : ∀ (s : Shared) (H : Hp) (C : Addr) (cl : List (Str × Addr)) (fp : List Addr), DTs (X.blk s H scope (PySem.compEnvC scope cl C X.env) fp) W.b ifs c)
    (hk : ∀ (s : Shared) (H : Hp) (C : Addr) (cl : List (Str × Addr)) (fp : List Addr), DE (X.blk s H scope (PySem.compEnvC scope cl C X.env) fp) (WF W.b) kx fk)
    (he : ∀ (s : Shared) (H : Hp) (C : Addr) (cl : List (Str × Addr)) (fp : List Addr), DE (X.blk s H scope (PySem.compEnvC scope cl C X.env) fp) (WF W.b) vx f) (hs : ∀ x, foldedSetIterable iter X.env x = pure x := by intro _; rfl) :
    DOd X W (.DictComp kx vx [⟨tg, iter, ifs, 0⟩] scope pos) (dcD fi g c fk f (own.map (·.2))) := by
  obtain ⟨wi, pi, ri⟩ := hi
  exact ⟨_, pe_dc hc hN pi ok (fun s H C cl fp => (hg s H C cl fp).pg W.b) (fun s H C cl fp => (ht s H C cl fp).pts) (fun s H C cl fp => (hk s H C cl fp).pe) (fun s H C cl fp => (he s H C cl fp).pe) hs, refOd_dc ri hsub⟩
end
end DL
namespace DL
open PySem L2 PyProof.Rows
@[simp] def dOf : D → Option (List (Key × D))
  | .dct k => some k
  | .dlk k => some k
  | _ => none
section
variable {K : PySem.W.Frag} {mg : MG}
theorem dct_at {w : Ws} (s : Sts K mg w) {v : V} {d : D} {kvs : List (Key × D)} (r : Rep K mg w.G w.ι v d) (h : dOf (lkD w.st d) = some kvs) : ∃ a vs, v = .ref a ∧ Rd w.H a (.dK vs) ∧ RepK K mg w.G w.ι vs kvs := by
  rcases lk_repV s r with r | ⟨a, vs, ds, rfl, e, _⟩ | ⟨a, vs, ds, rfl, e, h1, h2⟩
  · generalize lkD w.st d = z at r h
    cases r with
    | dct q q2 => cases h; exact ⟨_, _, rfl, Rd.mono s.sub q, q2⟩
    | dlk q q2 => cases h; exact ⟨_, _, rfl, .inr ⟨_, s.sub _ _ q⟩, q2⟩
    | _ => cases h
  · rw [e] at h; cases h
  · rw [e] at h; cases h
    exact ⟨a, vs, rfl, .inl h1, h2⟩
theorem dget_at {w : Ws} {a : Addr} {vs : List (Key × V)} {k : Key} (h : Rd w.H a (.dK vs)) : DGet w.H a (kV k) (valV vs k) := .inl ⟨vs, k, h, rfl, rfl⟩
theorem val_getD {G : Hp} {ι : List Addr} {vs : List (Key × V)} {ds : List (Key × D)} {k : Key} {u : V} {e : D} (r : RepK K mg G ι vs ds) (ru : Rep K mg G ι u e) : Rep K mg G ι ((valV vs k).getD u) ((getK ds k).getD e) := by
  cases h : getK ds k with
  | none => rw [r.get.2 h]; exact ru
  | some d => obtain ⟨v, e1, e2⟩ := r.get.1 d h; rw [e1]; exact e2
end
@[simp] def dgetD (f g h : DEx) (ρ : En) (st : Store) : R := (f ρ st).bind fun d ρ st => match dOf (lkD st d) with
  | some _ => (g ρ st).bind fun kd ρ st => (h ρ st).bind fun e ρ st => (match kd.key, dOf (lkD st d) with
    | some k, some kvs => .ok ((getK kvs k).getD e) ρ st
    | _, _ => .bad)
  | none => .bad
@[simp] def dinD (neg : Bool) (g f : DEx) (ρ : En) (st : Store) : R := (g ρ st).bind fun kd ρ st => (f ρ st).bind fun d ρ st => match kd.key, dOf (lkD st d) with
  | some k, some kvs => .ok (.bl (xor neg (getK kvs k).isSome)) ρ st
  | _, _ => .bad
@[simp] def dsubD (f g : DEx) (ρ : En) (st : Store) : R := (f ρ st).bind fun d ρ st => (g ρ st).bind fun kd ρ st => match kd.key, dOf (lkD st d) with
  | some k, some kvs => (match getK kvs k with
    | some e => .ok e ρ st
    | none => .bad)
  | _, _ => .bad
section
variable {X : Cx} {W : WB} {o e x : Expr} {f g h : DEx} {pos apos cpos : Pos}
theorem de_dget2 (hu : X.A.units + 1 < cLine) (ho : DE X W o f) (he : DE X W e g) (hx : DE X W x h) (m : M2 X o "get" apos e x cpos) : DE X W (.Call (.Attribute o "get" apos) [e, x] [] cpos) (dgetD f g h) := by
  obtain ⟨to, po, ro⟩ := ho
  obtain ⟨te, pe, re⟩ := he
  obtain ⟨tx, px, rx⟩ := hx
  refine ⟨_, pe_dget2 hu po pe px m, fun w Q s q => ?_⟩
  refine ro.bindR s q fun w1 v d s1 e1 a1 r1 q1 => ?_
  cases h1 : dOf (lkD w1.st d) with
  | none => simp only [h1] at q1; exact q1.elim
  | some k1 =>
    simp only [h1] at q1
    obtain ⟨a, vs, rfl, hR, _⟩ := dct_at s1 r1 h1
    refine ⟨a, rfl, .inl ⟨vs, hR⟩, ?_⟩
    rw [← e1]
    refine re.bindR s1 q1 fun w2 kv kd s2 e2 a2 r2 q2 => ?_
    show tx w1.σ w2.H _
    rw [← e2]
    refine rx.bindR s2 q2 fun w3 z zd s3 e3 a3 r3 q3 => ?_
    cases hk : kd.key with
    | none => simp only [hk] at q3; exact q3.elim
    | some k =>
      cases h3 : dOf (lkD w3.st d) with
      | none => simp only [hk, h3] at q3; exact q3.elim
      | some kvs =>
        simp only [hk, h3] at q3
        have a13 := a2.trans a3
        obtain ⟨a', vs', ea, hR', rk⟩ := dct_at s3 (r1.mono a13.g a13.i) h3
        cases ea
        have ek := (r2.mono a3.g a3.i).key hk
        subst ek
        exact ⟨valV vs' k, dget_at hR', q3 w3 _ rfl rfl rfl (.refl s3) (val_getD rk r3)⟩
theorem isSome_get {K : PySem.W.Frag} {mg : MG} {G : Hp} {ι : List Addr} {vs : List (Key × V)} {ds : List (Key × D)} {k : Key} (r : RepK K mg G ι vs ds) : (valV vs k).isSome = (getK ds k).isSome := by
  cases h : getK ds k with
  | none => rw [r.get.2 h]; rfl
  | some d => obtain ⟨v, e1, _⟩ := r.get.1 d h; rw [e1]; rfl
theorem ref_din {K : PySem.W.Frag} {mg : MG} {tk td : TE} (rk : RefE K mg W tk g) (rd : RefE K mg W td f) : RefE K mg W (tDIn tk td) (dinD false g f) := fun w Q s q => by
  refine rk.bindR s q fun w1 kv kd s1 e1 a1 r1 q1 => ?_
  show td w.σ w1.H _
  rw [← e1]
  refine rd.bindR s1 q1 fun w2 v d s2 e2 a2 r2 q2 => ?_
  cases hk : kd.key with
  | none => simp only [hk] at q2; exact q2.elim
  | some k =>
    cases h3 : dOf (lkD w2.st d) with
    | none => simp only [hk, h3] at q2; exact q2.elim
    | some kvs =>
      simp only [hk, h3] at q2
      obtain ⟨a', vs', rfl, hR', rr⟩ := dct_at s2 r2 h3
      have ek := (r1.mono a2.g a2.i).key hk
      subst ek
      refine ⟨a', valV vs' k, rfl, dget_at hR', ?_⟩
      rw [isSome_get rr]
      have := q2 w2 (.bl (xor false (getK kvs k).isSome)) rfl rfl rfl (.refl s2) (.bl _)
      simpa using this
theorem RefE.tB {K : PySem.W.Frag} {mg : MG} {t : TE} {ff : DEx} (h : RefE K mg W t ff) (hb : ∀ ρ st d ρ' st', ff ρ st = .ok d ρ' st' → ∃ b, d = .bl b) : RefT K mg W (L2.tB t) ff := fun w Q s q => by
  refine h w _ s ?_
  cases e : ff w.ρ w.st with
  | ok d ρ st =>
    rw [e] at q
    obtain ⟨b, rfl⟩ := hb _ _ _ _ _ e
    intro w' v h1 h2 h3 A r
    cases r
    exact ⟨b, rfl, q w' h1 h2 h3 A⟩
  | exc c ρ st => rw [e] at q; exact q
  | bad => rw [e] at q; exact q
theorem din_bl {neg : Bool} (ρ : En) (st : Store) (d : D) (ρ' : En) (st' : Store) (h : dinD neg g f ρ st = .ok d ρ' st') : ∃ b, d = .bl b := by
  unfold dinD at h
  cases e : g ρ st with
  | ok a b c =>
    rw [e] at h
    simp only [R.bind] at h
    cases e2 : f b c with
    | ok a' b' c' =>
      rw [e2] at h
      simp only at h
      split at h
      · cases h; exact ⟨_, rfl⟩
      · cases h
    | exc _ _ _ => rw [e2] at h; cases h
    | bad => rw [e2] at h; cases h
  | exc _ _ _ => rw [e] at h; cases h
  | bad => rw [e] at h; cases h
theorem dt_din (hu : X.A.units + 1 < cLine) (he : DE X W e g) (ho : DE X W o f) (h1 : behindInMarks .In o = false := by rfl) : DT X W (.Compare e [.In] [o] pos) (dinD false g f) := let ⟨_, p, r⟩ := he; let ⟨_, p', r'⟩ := ho; ⟨_, pt_cmp (pc_din hu p p') h1, (ref_din r r').tB din_bl⟩
theorem de_dsub (hu : X.A.units + 1 < cLine) (ho : DE X W o f) (he : DE X W e g) (hs : NoSl e) : DE X W (.Subscript o e pos) (dsubD f g) := by
  obtain ⟨to, po, ro⟩ := ho
  obtain ⟨te, pe, re⟩ := he
  refine ⟨_, pe_dget hu po pe hs, fun w Q s q => ?_⟩
  refine ro.bindR s q fun w1 v d s1 e1 a1 r1 q1 => ?_
  show te w.σ w1.H _
  rw [← e1]
  refine re.bindR s1 q1 fun w2 kv kd s2 e2 a2 r2 q2 => ?_
  cases hk : kd.key with
  | none => simp only [hk] at q2; exact q2.elim
  | some k =>
    cases h3 : dOf (lkD w2.st d) with
    | none => simp only [hk, h3] at q2; exact q2.elim
    | some kvs =>
      simp only [hk, h3] at q2
      obtain ⟨a', vs', rfl, hR', rr⟩ := dct_at s2 (r1.mono a2.g a2.i) h3
      have ek := r2.key hk
      subst ek
      cases h4 : getK kvs k with
      | none => simp only [h4] at q2; exact q2.elim
      | some z =>
        simp only [h4] at q2
        obtain ⟨u, e4, r4⟩ := rr.get.1 z h4
        have := dget_at (k := k) hR'
        rw [e4] at this
        exact ⟨a', u, rfl, this, q2 w2 u rfl rfl rfl (.refl s2) r4⟩
end
@[simp] def dputD (fo fk fv : DEx) (ρ0 : En) (st0 : Store) : Fl := thenF fv (fun vd ρ st => match fo ρ st with
  | .ok (.ref l) ρ st => (match fk ρ st with
    | .ok kd ρ st => (match kd.key, st[l]? with
      | some k, some (.dct kvs) => if kvs.length < sizeLine then .nx ρ (st.set l (.dct (putD kvs k vd))) else .bad
      | _, _ => .bad)
    | .exc c ρ st => .exc c ρ st
    | .bad => .bad)
  | .ok _ _ _ => .bad
  | .exc c ρ st => .exc c ρ st
  | .bad => .bad) ρ0 st0
section
variable {X : Cx} {W : WB} {o e x : Expr} {f g h : DEx} {pos pos' apos cpos : Pos}
theorem ds_dput (hu : X.A.units + 1 < cLine) (hv : DE X W x h) (ho : DE X W o f) (he : DE X W e g) (hs : swapsWith x (some (.Subscript o e pos')) pos.line X.env = pure false := by rfl) : DS X W (.Assign [.Subscript o e pos'] x pos) (dputD f g h) := by
  obtain ⟨to, po, ro⟩ := ho
  obtain ⟨te, pe, re⟩ := he
  obtain ⟨tx, px, rx⟩ := hv
  refine ⟨_, ps_dput hu po pe px hs, fun w E s q => ?_⟩
  refine rx.bindF s q fun w1 v vd s1 e1 a1 r1 q1 => ?_
  show to w.σ w1.H _
  rw [← e1]
  refine ro.bindF (E := E) (r := fun d ρ st => match d with
    | .ref l => (match g ρ st with
      | .ok kd ρ st => (match kd.key, st[l]? with
        | some k, some (.dct kvs) => if kvs.length < sizeLine then .nx ρ (st.set l (.dct (putD kvs k vd))) else .bad
        | _, _ => .bad)
      | .exc c ρ st => .exc c ρ st
      | .bad => .bad)
    | _ => .bad) s1 ?_ fun w2 ov od s2 e2 a2 r2 q2 => ?_
  · cases eo : f w1.ρ w1.st with
    | ok d ρ st => rw [eo] at q1; cases d <;> exact q1
    | exc c ρ st => rw [eo] at q1; exact q1
    | bad => rw [eo] at q1; exact q1
  · cases od with
    | ref l =>
      show te w1.σ w2.H _
      rw [← e2]
      refine re.bindF s2 q2 fun w3 kv kd s3 e3 a3 r3 q3 => ?_
      cases hk : kd.key with
      | none => simp only [hk] at q3; exact q3.elim
      | some k =>
        simp only [hk] at q3
        split at q3
        · rename_i k' kvs hk' hst
          cases hk'
          split at q3
          · rename_i hz
            cases r2 with
            | ref hi =>
              rename_i a
              have hi3 := a3.i _ _ hi
              obtain ⟨g0, vs, hH, rk⟩ := s3.cel l _ a hst hi3
              have ek := r3.key hk
              subst ek
              have r1' := (r1.mono a2.g a2.i).mono a3.g a3.i
              have A := Aft.mutCell s3 (o := .dK (putK vs k v)) (c := .dct (putD kvs k vd)) hst (by simp) hi3 (by simp) ⟨g0, putK vs k v, upd_same, rk.put r1'⟩
              have := q3 { w3 with H := upd w3.H a (.dK (putK vs k v)), st := w3.st.set l (.dct (putD kvs k vd)) } rfl rfl A
              refine ⟨a, _, rfl, DPut.k hH (by rw [rk.len]; exact hz), ?_⟩
              rw [← e3]
              exact this
          · exact q3.elim
        · exact q3.elim
    | _ => exact q2.elim
end
end DL
namespace DL
open PySem L2 PyProof.Rows
section
variable {K : PySem.W.Frag} {mg : MG} {w : Ws}
theorem Aft.killUpd (s : Sts K mg w) {l : Nat} {a : Addr} {c : Cell} {o : HO} (h0 : w.st[l]? = some c) (hd : c ≠ .dead) (h1 : w.ι[l]? = some a) :
    Aft K mg w { w with G := upd w.G a o, H := upd w.H a o, st := w.st.set l .dead } := by
  have own : Liv w l a := ⟨c, h0, hd, h1⟩
  have ga : w.G a = none := s.mtG own.mt
  have sg := same_upd (o := o) ga
  have sub' : Same (upd w.G a o) (upd w.H a o) := fun b u e => by
    by_cases h : b = a
    · subst h; rw [upd_same] at e ⊢; exact e
    · rw [upd_ne h] at e ⊢; exact s.sub _ _ e
  have lv : ∀ k b, Liv { w with G := upd w.G a o, H := upd w.H a o, st := w.st.set l .dead } k b → Liv w k b ∧ k ≠ l := fun k b h => by
    obtain ⟨c', q1, q2, q3⟩ := h
    rcases getElem?_set_ite q1 with ⟨_, e, _⟩ | ⟨ne, e⟩
    · exact absurd e q2
    · exact ⟨⟨c', e, q2, q3⟩, ne⟩
  have nea : ∀ b, b ≠ a → (w.G b = none → upd w.G a o b = none) ∧ ∀ u, w.H b = some u → upd w.H a o b = some u := fun b hb => ⟨fun e => by rw [upd_ne hb]; exact e, fun u e => by rw [upd_ne hb]; exact e⟩
  refine ⟨⟨s.lowG.trans sg, s.lowI, sub', s.ln, by simpa using s.len, fun k c' b q1 q2 => ?_, fun k k' b q1 q2 => s.inj k k' b (lv k b q1).1 (lv k' b q2).1, fun i x h => ?_, fun i k b q1 q2 => s.sep i k b q1 (lv k b q2).1, s.dis⟩, sg, LeI.refl _, fun b u h n => ?_, fun b h => ?_, fun b h => ?_, fun b h => ?_⟩
  · rcases getElem?_set_ite q1 with ⟨_, e2, _⟩ | ⟨ne, e⟩
    · subst e2; trivial
    · refine (s.cel k c' b e q2).keep (w' := { w with G := upd w.G a o, H := upd w.H a o, st := w.st.set l .dead }) sg (LeI.refl _) (fun n => ?_) sub'
      have hb : b ≠ a := fun q : b = a => ne (s.inj k l b ⟨c', e, n, q2⟩ (q ▸ own))
      exact ⟨(nea b hb).1 (s.mtG (.inl ⟨k, c', e, n, q2⟩)), (nea b hb).2⟩
  · refine (s.slo i x h).keep (w' := { w with G := upd w.G a o, H := upd w.H a o, st := w.st.set l .dead }) sg (LeI.refl _) fun b ⟨es, e3⟩ h2 => ?_
    have o2 : OwnS w i b := ⟨es, by rw [h, e3], h2⟩
    have hb : b ≠ a := fun q : b = a => s.sep i l b o2 (q ▸ own)
    exact ⟨(nea b hb).1 (s.mtG o2.mt), (nea b hb).2⟩
  · show upd w.H a o b = some u
    rw [upd_ne (fun q : b = a => n (q ▸ own.mt))]
    exact h
  · rcases h with ⟨k, h⟩ | h
    · exact .inl (.inl ⟨k, (lv k b h).1⟩)
    · exact .inl (.inr h)
  · by_cases e : b = a
    · subst e; exact .inr (.inl own.mt)
    · refine .inl ?_
      have h' : upd w.G a o b ≠ none := h
      rwa [upd_ne e] at h'
  · have h' : upd w.H a o b = none := h
    by_cases e : b = a
    · rw [e, upd_same] at h'; cases h'
    · rwa [upd_ne e] at h'
end
def frzKs : List (Key × D) → Store → Option (List (Key × D) × Store)
  | [], st => some ([], st)
  | (k, d) :: ds, st => match frz d st with
    | some (d', st') => (match frzKs ds st' with
      | some (ds', st'') => some ((k, d') :: ds', st'')
      | none => none)
    | none => none
theorem frzKs_ok {K : PySem.W.Frag} {mg : MG} : ∀ (ds : List (Key × D)) {w : Ws} {vs : List (Key × V)} {ds' : List (Key × D)} {st' : Store}, Sts K mg w → RepK K mg w.G w.ι vs ds → frzKs ds w.st = some (ds', st') → ∃ w', FrzOk K mg w w' st' ∧ RepK K mg w'.G w'.ι vs ds'
  | [], w, vs, ds', st', s, r, h => by
    cases r
    simp [frzKs] at h; obtain ⟨rfl, rfl⟩ := h; exact ⟨w, .refl s, .nil⟩
  | (k, d) :: ds, w, vs, ds', st', s, r, h => by
    cases r with
    | cons r1 r2 =>
      rw [frzKs] at h
      split at h
      · rename_i d1 st1 e1
        split at h
        · rename_i ds2 st2 e2
          cases h
          obtain ⟨w1, F1, q1⟩ := frz_ok d s r1 e1
          have A1 := F1.2.2.2.2
          rw [← F1.2.2.2.1] at e2
          obtain ⟨w2, F2, q2⟩ := frzKs_ok ds A1.s (r2.mono A1.g A1.i) e2
          have A2 := F2.2.2.2.2
          exact ⟨w2, F1.trans F2, .cons (q1.mono A2.g A2.i) q2⟩
        · cases h
      · cases h
@[simp] def fzdE (f : DEx) (ρ : En) (st : Store) : R := (f ρ st).bind fun d ρ st => match d with
  | .ref l => (match st[l]? with
    | some (.dct kvs) => (match frzKs kvs st with
      | some (kvs', st') => (match st'[l]? with
        | some (.dct _) => .ok (.dlk kvs') ρ (st'.set l .dead)
        | _ => .bad)
      | none => .bad)
    | _ => .bad)
  | _ => .bad
theorem RefE.fzd {K : PySem.W.Frag} {mg : MG} {W : WB} {t : TE} {f : DEx} (h : RefE K mg W t f) : RefE K mg W (fun σ H Q => t σ H (LockQ Q)) (fzdE f) := fun w Q s q => by
  refine h.bindR s q fun w1 v d s1 e1 a1 r1 q1 => ?_
  cases d with
  | ref l =>
    simp only at q1
    split at q1
    · rename_i kvs hst
      split at q1
      · rename_i kvs' st' hf
        split at q1
        · rename_i kvs2 hst'
          cases r1 with
          | ref hi =>
            rename_i a
            obtain ⟨g0, vs, hH, rk⟩ := s1.cel l _ a hst hi
            obtain ⟨w2, ⟨b1, b2, b3, b4, b5⟩, rk2⟩ := frzKs_ok kvs s1 rk hf
            refine .inr ⟨a, .dK vs, rfl, hH, trivial, fun od => ?_⟩
            have hi2 := b5.i _ _ hi
            have A := Aft.killUpd b5.s (l := l) (a := a) (c := .dct kvs2) (o := .frz od (.dK vs)) (by rw [b4]; exact hst') (by simp) hi2
            have := q1 { w2 with G := upd w2.G a (.frz od (.dK vs)), H := upd w2.H a (.frz od (.dK vs)), st := w2.st.set l .dead } (.ref a) b1 (by rw [← b4]) b2 (b5.trans A) (.dlk upd_same (rk2.mono A.g A.i))
            rw [← b3]
            exact this
        · exact q1.elim
      · exact q1.elim
    · exact q1.elim
  | _ => exact q1.elim
section
variable {X : Cx} {W : WB} {e : Expr} {f : DEx} {pos apos cpos tpos : Pos}
theorem DE.fzd (h : DE X W e f) : DE X W e (fzdE f) := let ⟨_, p, r⟩ := h; ⟨_, pe_lk p, r.fzd⟩
theorem RepK.at {K : PySem.W.Frag} {mg : MG} {G : Hp} {ι : List Addr} : ∀ {vs : List (Key × V)} {ds : List (Key × D)} {i : Nat} {k : Key} {d : D}, RepK K mg G ι vs ds → ds[i]? = some (k, d) → ∃ v, vs[i]? = some (k, v) ∧ Rep K mg G ι v d
  | _, _, _, _, _, .nil, h => by simp at h
  | _, _, 0, _, _, .cons r _, h => by simp at h; obtain ⟨rfl, rfl⟩ := h; exact ⟨_, rfl, r⟩
  | _, _, i + 1, k, d, .cons _ t, h => by
    obtain ⟨v, h1, h2⟩ := RepK.at (i := i) (k := k) (d := d) t (by simpa using h)
    exact ⟨v, by simpa using h1, h2⟩
end
end DL
namespace DL
open PySem L2 PyProof.Rows
def CalD (P : Program) (w : World) (K : PySem.W.Frag) (mg : Str → Option Value) (base : Heap) (k : Nat) (x : Str) (n : Nat) (den : Den) (dds : List D) : Prop :=
  ∃ f fd ps ds dvs, FnOk P w K mg base (L2N.CX P w) k f fd ps (spD K mg n den) ∧ mg x = some (.ref f) ∧ PySem.W.keepIn K (.ref f) = true ∧ Binds K fd ps ds ∧ Vals dvs ds ∧ ∀ b G ι, Reps K ⟨mg, b⟩ G ι dvs dds
def CalK (P : Program) (w : World) (K : PySem.W.Frag) (mg : Str → Option Value) (base : Heap) (k : Nat) (x : Str) (n j : Nat) (ks : List Str) (den : Den) : Prop :=
  ∃ f fd ps, FnOk P w K mg base (L2N.CX P w) k f fd ps (spD K mg n den) ∧ mg x = some (.ref f) ∧ PySem.W.keepIn K (.ref f) = true ∧ KBn K fd ps j ks (fun a b => a ++ b) (fun a b => a ++ b)
def Dfd (K : PySem.W.Frag) (mg : Str → Option Value) (x : Str) (ps : List Str) (st : Stmt) (dds : List D) : Prop := ∃ f fd ds dvs, FunV K x x st f fd ∧ mg x = some (.ref f) ∧ PySem.W.keepIn K (.ref f) = true ∧ Binds K fd ps ds ∧ Vals dvs ds ∧ ∀ b G ι, Reps K ⟨mg, b⟩ G ι dvs dds
def Dfk (K : PySem.W.Frag) (mg : Str → Option Value) (x : Str) (ps : List Str) (st : Stmt) (j : Nat) (ks : List Str) : Prop := ∃ f fd, FunV K x x st f fd ∧ mg x = some (.ref f) ∧ PySem.W.keepIn K (.ref f) = true ∧ KBn K fd ps j ks (fun a b => a ++ b) (fun a b => a ++ b)
@[simp] def aDef (f : DEx) (dds : List D) (ρ : En) (st : Store) : R := (f ρ st).bind fun d ρ st => match d with
  | .tup xs => .ok (.tup (xs ++ dds)) ρ st
  | _ => .bad
theorem CalD.call {X : Cx} {W : WB} {k k' n : Nat} {den : Den} {x : Str} {dds : List D} {p pos : Pos} {e : Expr} {es : List Expr} {fa : DEx} (C : CalD X.prog X.w X.K X.mg X.base k x n den dds) (hr : Room k' X.A) (hk : k ≤ k') (hg : Gl X x) (tk : L2N.Takes X W)
    (ha : DAn X W (e :: es) fa) (hn : (e :: es).length + dds.length = n := by rfl) (hdb : (x == ("__debug__" : Str)) = false := by decide) (he : starEach (e :: es) X.env = (false, eval e X.env) :: starEach es X.env := by rfl) (hpl : (backTo pos (starEach es X.env)).any (·.1) = false := by rfl) :
    DE X W (.Call (.Name x p) (e :: es) [] pos) (callD den (aDef fa dds)) := by
  obtain ⟨f, fd, ps, ds, dvs, F, hm, kp, hb, hv, hD⟩ := C
  obtain ⟨⟨t, pt, rt⟩, hl⟩ := ha
  refine ⟨_, pe_callSD F (hr.mono hk) hg hm kp hb hv (fun σ => L2N.passAt tk σ) pt hdb he hpl, fun w Q s q => ?_⟩
  refine rt.bind (P := OkR X.K (MGx X W.b) W w Q) (r := fun d ρ st => match d with | .tup xs => callD den (fun ρ st => .ok (.tup (xs ++ dds)) ρ st) ρ st | _ => .bad) s ?_ (fun d ρ st n => by cases d <;> first | rfl | exact absurd rfl (n _)) (fun _ _ _ z => z) (fun z => z) fun w1 vs d1 e1 a1 r1 ee q1 => ?_
  · unfold callD aDef at q
    cases ef : fa w.ρ w.st with
    | ok d ρ st => rw [ef] at q; cases d <;> exact q
    | exc c ρ st => rw [ef] at q; exact q
    | bad => rw [ef] at q; exact q
  · have l : (vs ++ dvs).length = n := by
      obtain ⟨ds', e', l⟩ := hl _ _ _ _ _ ee
      cases e'
      rw [List.length_append, r1.len, l, (hD W.b w.G w.ι).len]; exact hn
    exact sp_at a1.s l (r1.append (hD _ _ _)) e1 (OkR.aft q1 a1 e1)
theorem CalK.call {X : Cx} {E : XK} {b : Low} {k k' n j : Nat} {ks : List Str} {den : Den} {x : Str} {p pos : Pos} {e : Expr} {es : List Expr} {kws : List Keyword} {fa fk : DEx} (C : CalK X.prog X.w X.K X.mg X.base k x n j ks den) (hr : Room k' X.A) (hk : k ≤ k') (hg : Gl X x) (tk : L2N.Takes X (WEb b E))
    (ha : DAn X (WEb b E) (e :: es) fa) (hw : DK X (WEb b E) kws fk) (hn : (e :: es).length = j := by rfl) (hkl : kws.length = ks.length := by rfl) (hj : j + ks.length = n := by rfl)
    (hall : (backToKw pos (keywordEach kws X.env)).all (·.1.isSome) = true := by rfl) (hks : (backToKw pos (keywordEach kws X.env)).filterMap (·.1) = ks := by rfl) (hdb : (x == ("__debug__" : Str)) = false := by decide)
    (he : starEach (e :: es) X.env = (false, eval e X.env) :: starEach es X.env := by rfl) (hpl : ((backTo pos (starEach (e :: es) X.env)).any (·.1) || (backToKw pos (keywordEach kws X.env)).any (·.1.isNone)) = false := by rfl) :
    DE X (WEb b E) (.Call (.Name x p) (e :: es) kws pos) (callD den (aApp fa fk)) := by
  obtain ⟨f, fd, ps, F, hm, kp, hB⟩ := C
  obtain ⟨⟨t, pt, rt⟩, hl⟩ := ha
  obtain ⟨⟨tw, pw, rw'⟩, hl2⟩ := hw
  subst hn
  have P := pe_callN (p := p) F (hr.mono hk) hg hm kp hB (passes_const tk) pt pw hall hks hdb he hpl
  have RA := refA_app (m := ks.length) rt rw' hl (fun ρ st d ρ' st' h => by rw [← hkl]; exact hl2 ρ st d ρ' st' h)
  refine ⟨_, P, fun w Q s q => ?_⟩
  have key : tApp (e :: es).length ks.length t tw w.σ w.H (fun vs H1 => spD X.K X.mg n den vs H1 Q E) := by
    refine RA.bind (P := OkR X.K (MGx X b) (WEb b E) w Q) s q (fun d ρ st n => by cases d <;> first | rfl | exact absurd rfl (n _)) (fun _ _ _ z => z) (fun z => z) fun w1 vs d1 e1 a1 r1 ee q1 => ?_
    have l : vs.length = n := by
      unfold aApp at ee
      cases e1' : fa w.ρ w.st with
      | ok d ρ st =>
        rw [e1'] at ee
        obtain ⟨xs, rfl, l1⟩ := hl _ _ _ _ _ e1'
        simp only [R.bind] at ee
        cases e2' : fk ρ st with
        | ok d ρ st =>
          rw [e2'] at ee
          obtain ⟨ys, rfl, l2⟩ := hl2 _ _ _ _ _ e2'
          simp only at ee
          cases ee
          rw [r1.len, List.length_append, l1, l2, hkl]; exact hj
        | exc c ρ st => rw [e2'] at ee; cases ee
        | bad => rw [e2'] at ee; cases ee
      | exc c ρ st => rw [e1'] at ee; cases ee
      | bad => rw [e1'] at ee; cases ee
    exact sp_at (W := WEb b E) (σ := w1.σ) a1.s l r1 rfl (OkR.aft q1 a1 e1)
  exact key
theorem CalD.of {P : Program} {wd : World} {K : PySem.W.Frag} {mg : Str → Option Value} {base : Heap} {x : Str} {st : Stmt} {N ps : List Str} {dds : List D} {k n m : Nat} {g : DSx} (Df : Dfd K mg x ps st dds) (S : FnScope N ps (defScope st)) (hn : n = N.length) (hm : m = ps.length)
    (hb : ∀ (f : Addr) (cdv : Value) (A : Around) (outer : List Env) (s : Shared) (H : Hp) (E : XK), Room k (A.deeper (PyProof.Rows.envOfC x (defScope st) s.heap.objs.size f cdv)) →
      DSs (cxOf (L2N.CX P wd) P wd K mg base N x (defScope st) f cdv A outer s H E) (WEx E) (defBody st) g) : CalD P wd K mg base (k + 1) x m (runD n g) dds := by
  obtain ⟨f, fd, ds, dvs, F, hmg, kp, hB, hV, hD⟩ := Df
  subst hm
  exact ⟨f, fd, ps, ds, dvs, fn_D F S hn (hb f), hmg, kp, hB, hV, hD⟩
theorem CalK.of {P : Program} {wd : World} {K : PySem.W.Frag} {mg : Str → Option Value} {base : Heap} {x : Str} {st : Stmt} {N ps ks : List Str} {k n m j : Nat} {g : DSx} (Df : Dfk K mg x ps st j ks) (S : FnScope N ps (defScope st)) (hn : n = N.length) (hm : m = ps.length)
    (hb : ∀ (f : Addr) (cdv : Value) (A : Around) (outer : List Env) (s : Shared) (H : Hp) (E : XK), Room k (A.deeper (PyProof.Rows.envOfC x (defScope st) s.heap.objs.size f cdv)) →
      DSs (cxOf (L2N.CX P wd) P wd K mg base N x (defScope st) f cdv A outer s H E) (WEx E) (defBody st) g) : CalK P wd K mg base (k + 1) x m j ks (runD n g) := by
  obtain ⟨f, fd, F, hmg, kp, hB⟩ := Df
  subst hm
  exact ⟨f, fd, ps, fn_D F S hn (hb f), hmg, kp, hB⟩
end DL
namespace DL
open PySem L2
def EOk (r : R) (P : D → En → Store → Prop) : Prop := match r with
  | .ok d ρ st => P d ρ st
  | _ => False
def SOk (r : Fl) (N : En → Store → Prop) (V : D → Store → Prop) : Prop := match r with
  | .nx ρ st => N ρ st
  | .rt d _ st => V d st
  | _ => False
def DOk (r : R) (P : D → Store → Prop) : Prop := ∃ d st, r = .ok d [] st ∧ P d st
theorem EOk.mono {r : R} {P P' : D → En → Store → Prop} (h : EOk r P) (k : ∀ d ρ st, P d ρ st → P' d ρ st) : EOk r P' := by
  cases r with
  | ok d ρ st => exact k _ _ _ h
  | _ => exact h
theorem SOk.mono {r : Fl} {N N' : En → Store → Prop} {V V' : D → Store → Prop} (h : SOk r N V) (k : ∀ ρ st, N ρ st → N' ρ st) (k' : ∀ d st, V d st → V' d st) : SOk r N' V' := by
  cases r with
  | nx ρ st => exact k _ _ h
  | rt d ρ st => exact k' _ _ h
  | _ => exact h
theorem DOk.mono {r : R} {P P' : D → Store → Prop} (h : DOk r P) (k : ∀ d st, P d st → P' d st) : DOk r P' := let ⟨d, st, e, p⟩ := h; ⟨d, st, e, k d st p⟩
section
variable {P : D → En → Store → Prop} {N : En → Store → Prop} {V : D → Store → Prop} {Q : D → Store → Prop} {ρ : En} {st : Store} {f g h fa fi c : DEx} {s t b : DSx} {den : Den} {d : D}
@[simp] theorem EOk_ok : EOk (.ok d ρ st) P ↔ P d ρ st := Iff.rfl
@[simp] theorem EOk_bad : EOk .bad P ↔ False := Iff.rfl
@[simp] theorem DOk_ok : DOk (.ok d [] st) Q ↔ Q d st := ⟨fun ⟨_, _, e, q⟩ => by cases e; exact q, fun q => ⟨_, _, rfl, q⟩⟩
@[simp] theorem SOk_nx : SOk (.nx ρ st) N V ↔ N ρ st := Iff.rfl
@[simp] theorem SOk_rt : SOk (.rt d ρ st) N V ↔ V d st := Iff.rfl
@[simp] theorem SOk_bad : SOk .bad N V ↔ False := Iff.rfl
theorem EOk_bind (r : R) (k : D → En → Store → R) : EOk (r.bind k) P ↔ EOk r fun d ρ st => EOk (k d ρ st) P := by cases r <;> exact Iff.rfl
theorem DOk_run {n : Nat} {ds : List D} (h : SOk (b (enter n ds) st) (fun _ st => Q .non st) Q) : DOk (runD n b ds st) Q := by
  unfold runD
  cases e : b (enter n ds) st with
  | nx ρ st' => rw [e] at h; exact ⟨_, _, rfl, h⟩
  | rt d ρ st' => rw [e] at h; exact ⟨_, _, rfl, h⟩
  | _ => rw [e] at h; exact h.elim
theorem SOk_thenF (r : D → En → Store → Fl) : SOk (thenF f r ρ st) N V ↔ EOk (f ρ st) fun d ρ st => SOk (r d ρ st) N V := by
  unfold thenF
  cases f ρ st <;> exact Iff.rfl
@[simp] def k_seq (t : DSx) (N : En → Store → Prop) (V : D → Store → Prop) (ρ : En) (st : Store) : Prop := SOk (t ρ st) N V
@[simp ↓] theorem SOk_seq : SOk (seqD s t ρ st) N V ↔ SOk (s ρ st) (k_seq t N V) V := by
  unfold seqD
  cases s ρ st <;> exact Iff.rfl
@[simp] def k_expr (N : En → Store → Prop) (_ : D) (ρ : En) (st : Store) : Prop := N ρ st
@[simp] def k_ret (V : D → Store → Prop) (d : D) (_ : En) (st : Store) : Prop := V d st
@[simp ↓] theorem SOk_expr : SOk (exprD f ρ st) N V ↔ EOk (f ρ st) (k_expr N) := SOk_thenF _
@[simp ↓] theorem SOk_ret : SOk (retD f ρ st) N V ↔ EOk (f ρ st) (k_ret V) := SOk_thenF _
def k_SOk_if (s : DSx) (t : DSx) (N : En → Store → Prop) (V : D → Store → Prop) (d : D) (ρ : En) (st : Store) : Prop := SOk (match d with | .bl true => s ρ st | .bl false => t ρ st | _ => .bad) N V
@[simp ↓] theorem k_SOk_if_bl (s t : DSx) (N : En → Store → Prop) (V : D → Store → Prop) (b : Bool) (ρ : En) (st : Store) : k_SOk_if s t N V (.bl b) ρ st ↔ if b = true then SOk (s ρ st) N V else SOk (t ρ st) N V := by cases b <;> exact Iff.rfl
@[simp ↓] theorem SOk_if : SOk (ifD f s t ρ st) N V ↔ EOk (f ρ st) (k_SOk_if  s t N V) := SOk_thenF _
@[simp] def k_SOk_set (k : DGx) (N : En → Store → Prop) (V : D → Store → Prop) (d : D) (ρ : En) (st : Store) : Prop := SOk (match k d ρ with | some ρ => .nx ρ st | none => .bad) N V
@[simp ↓] theorem SOk_set (k : DGx) : SOk (setD f k ρ st) N V ↔ EOk (f ρ st) (k_SOk_set k N V) := SOk_thenF _
@[simp] def k_SOk_setO (i : Nat) (N : En → Store → Prop) (V : D → Store → Prop) (d : D) (ρ : En) (st : Store) : Prop := SOk (match d with | .lst ds => .nx (ρ.set i (.ml ds)) st | _ => .bad) N V
@[simp ↓] theorem SOk_setO (i : Nat) : SOk (setOD f i ρ st) N V ↔ EOk (f ρ st) (k_SOk_setO i N V) := SOk_thenF _
@[simp] def k_SOk_retC  (N : En → Store → Prop) (V : D → Store → Prop) (d : D) (ρ : En) (st : Store) : Prop := SOk (match d with | .lst ds => .rt (.ref st.length) ρ (st ++ [.lst ds]) | _ => .bad) N V
@[simp ↓] theorem SOk_retC : SOk (retCD f ρ st) N V ↔ EOk (f ρ st) (k_SOk_retC  N V) := SOk_thenF _
@[simp] def k_SOk_for (k : DGx) (b : DSx) (N : En → Store → Prop) (V : D → Store → Prop) (d : D) (ρ : En) (st : Store) : Prop := SOk (match d.iter with | some (ds, gd) => forD k (chkS gd b) ds ρ st | none => .bad) N V
@[simp ↓] theorem SOk_for (k : DGx) : SOk (forE fi k b ρ st) N V ↔ EOk (fi ρ st) (k_SOk_for k b N V) := SOk_thenF _
@[simp] def k_EOk_lift1 (p : D → Option D) (P : D → En → Store → Prop) (d : D) (ρ : En) (st : Store) : Prop := EOk (match p d with | some z => .ok z ρ st | none => .bad) P
@[simp ↓] theorem EOk_lift1 (p : D → Option D) : EOk (lift1 p f ρ st) P ↔ EOk (f ρ st) (k_EOk_lift1 p P) := EOk_bind _ _
@[simp] def k_lift2b (p : D → D → Option D) (P : D → En → Store → Prop) (d e : D) (ρ : En) (st : Store) : Prop := EOk (match p d e with | some z => .ok z ρ st | none => .bad) P
@[simp] def k_lift2a (p : D → D → Option D) (g : DEx) (P : D → En → Store → Prop) (d : D) (ρ : En) (st : Store) : Prop := EOk (g ρ st) (k_lift2b p P d)
@[simp ↓] theorem EOk_lift2 (p : D → D → Option D) : EOk (lift2 p f g ρ st) P ↔ EOk (f ρ st) (k_lift2a p g P) :=
  (EOk_bind _ _).trans ⟨fun h => h.mono fun _ _ _ => (EOk_bind _ _).mp, fun h => h.mono fun _ _ _ => (EOk_bind _ _).mpr⟩
@[simp] def k_EOk_not (P : D → En → Store → Prop) (d : D) (ρ : En) (st : Store) : Prop := EOk (match d with | .bl b => .ok (.bl (!b)) ρ st | _ => .bad) P
@[simp ↓] theorem EOk_not : EOk (notD f ρ st) P ↔ EOk (f ρ st) (k_EOk_not P) := EOk_bind _ _
def k_EOk_and (g : DEx) (P : D → En → Store → Prop) (d : D) (ρ : En) (st : Store) : Prop := EOk (match d with | .bl true => g ρ st | .bl false => .ok (.bl false) ρ st | _ => .bad) P
@[simp ↓] theorem k_EOk_and_bl (g : DEx) (P : D → En → Store → Prop) (b : Bool) (ρ : En) (st : Store) : k_EOk_and g P (.bl b) ρ st ↔ if b = true then EOk (g ρ st) P else P (.bl false) ρ st := by cases b <;> exact Iff.rfl
@[simp ↓] theorem EOk_and : EOk (andD f g ρ st) P ↔ EOk (f ρ st) (k_EOk_and  g P) := EOk_bind _ _
def k_EOk_or (g : DEx) (P : D → En → Store → Prop) (d : D) (ρ : En) (st : Store) : Prop := EOk (match d with | .bl true => .ok (.bl true) ρ st | .bl false => g ρ st | _ => .bad) P
@[simp ↓] theorem k_EOk_or_bl (g : DEx) (P : D → En → Store → Prop) (b : Bool) (ρ : En) (st : Store) : k_EOk_or g P (.bl b) ρ st ↔ if b = true then P (.bl true) ρ st else EOk (g ρ st) P := by cases b <;> exact Iff.rfl
@[simp ↓] theorem EOk_or : EOk (orD f g ρ st) P ↔ EOk (f ρ st) (k_EOk_or  g P) := EOk_bind _ _
def k_EOk_ite (f : DEx) (g : DEx) (P : D → En → Store → Prop) (d : D) (ρ : En) (st : Store) : Prop := EOk (match d with | .bl true => f ρ st | .bl false => g ρ st | _ => .bad) P
@[simp ↓] theorem k_EOk_ite_bl (f g : DEx) (P : D → En → Store → Prop) (b : Bool) (ρ : En) (st : Store) : k_EOk_ite f g P (.bl b) ρ st ↔ if b = true then EOk (f ρ st) P else EOk (g ρ st) P := by cases b <;> exact Iff.rfl
@[simp] def k_consb (P : D → En → Store → Prop) (d e : D) (ρ : En) (st : Store) : Prop := EOk (match e with | .tup ds => .ok (.tup (d :: ds)) ρ st | _ => .bad) P
@[simp] def k_consa (g : DEx) (P : D → En → Store → Prop) (d : D) (ρ : En) (st : Store) : Prop := EOk (g ρ st) (k_consb P d)
@[simp ↓] theorem EOk_aCons : EOk (aCons f g ρ st) P ↔ EOk (f ρ st) (k_consa g P) :=
  (EOk_bind _ _).trans ⟨fun h => h.mono fun _ _ _ => (EOk_bind _ _).mp, fun h => h.mono fun _ _ _ => (EOk_bind _ _).mpr⟩
def COk (r : R) (ρ : En) (P : D → En → Store → Prop) : Prop := EOk (match r with | .ok r _ st' => .ok r ρ st' | .exc c _ st' => .exc c ρ st' | .bad => .bad) P
@[simp] def k_call (den : Den) (P : D → En → Store → Prop) (d : D) (ρ : En) (st : Store) : Prop := match d with | .tup ds => COk (den ds st) ρ P | _ => False
@[simp ↓] theorem EOk_call : EOk (callD den f ρ st) P ↔ EOk (f ρ st) (k_call den P) := by
  refine (EOk_bind _ _).trans ⟨fun h => h.mono fun d ρ st z => ?_, fun h => h.mono fun d ρ st z => ?_⟩ <;> cases d <;> exact z
theorem COk.of {r : R} (h : DOk r fun d st => P d ρ st) : COk r ρ P := by
  obtain ⟨d, st', e, q⟩ := h
  unfold COk
  rw [e]
  exact q
@[simp] def k_EOk_lst  (P : D → En → Store → Prop) (d : D) (ρ : En) (st : Store) : Prop := EOk (match d with | .tup ds => .ok (.lst ds) ρ st | _ => .bad) P
@[simp ↓] theorem EOk_lst : EOk (lstD f ρ st) P ↔ EOk (f ρ st) (k_EOk_lst  P) := EOk_bind _ _
@[simp] def k_EOk_list  (P : D → En → Store → Prop) (d : D) (ρ : En) (st : Store) : Prop := EOk (match kOf d with | some ds => .ok (.lst ds) ρ st | none => .bad) P
@[simp ↓] theorem EOk_list : EOk (listD f ρ st) P ↔ EOk (f ρ st) (k_EOk_list  P) := EOk_bind _ _
@[simp] def k_EOk_tuple  (P : D → En → Store → Prop) (d : D) (ρ : En) (st : Store) : Prop := EOk (match kOf d with | some ds => .ok (.tup ds) ρ st | none => .bad) P
@[simp ↓] theorem EOk_tuple : EOk (tupleD f ρ st) P ↔ EOk (f ρ st) (k_EOk_tuple  P) := EOk_bind _ _
@[simp] def k_EOk_it  (P : D → En → Store → Prop) (d : D) (ρ : En) (st : Store) : Prop := EOk (match d.walk st with | some z => .ok z ρ st | none => .bad) P
@[simp ↓] theorem EOk_it : EOk (itD f ρ st) P ↔ EOk (f ρ st) (k_EOk_it  P) := EOk_bind _ _
open Classical in
@[simp] def k_EOk_rng1  (P : D → En → Store → Prop) (d : D) (ρ : En) (st : Store) : Prop := EOk (match d with | .tup [.int j] => if Rg j then .ok (.lst (rngItems 0 j.toNat)) ρ st else .bad | _ => .bad) P
@[simp ↓] theorem EOk_rng1 : EOk (rng1 f ρ st) P ↔ EOk (f ρ st) (k_EOk_rng1  P) := EOk_bind _ _
@[simp] def k_EOk_rev  (P : D → En → Store → Prop) (d : D) (ρ : En) (st : Store) : Prop := EOk (match d with | .tup [.lst ds] => .ok (.lst ds.reverse) ρ st | _ => .bad) P
@[simp ↓] theorem EOk_rev : EOk (revD f ρ st) P ↔ EOk (f ρ st) (k_EOk_rev  P) := EOk_bind _ _
@[simp] def k_EOk_bdS  (P : D → En → Store → Prop) (d : D) (ρ : En) (st : Store) : Prop := EOk (match d with | .int i => .ok (.int i) ρ st | _ => .bad) P
@[simp ↓] theorem EOk_bdS : EOk (bdS f ρ st) P ↔ EOk (f ρ st) (k_EOk_bdS  P) := EOk_bind _ _
open Classical in
@[simp] def k_EOk_sort  (P : D → En → Store → Prop) (d : D) (ρ : En) (st : Store) : Prop := EOk (match d with | .lst ds => if sortOk ds then .ok (.lst (ds.mergeSort leD)) ρ st else .bad | _ => .bad) P
@[simp ↓] theorem EOk_sort : EOk (sortD f ρ st) P ↔ EOk (f ρ st) (k_EOk_sort  P) := EOk_bind _ _
@[simp] def k_mut (i : Nat) (k : MutK) (P : D → En → Store → Prop) (d : D) (ρ : En) (st : Store) : Prop := EOk (match d with | .tup args => mutAt i k args ρ st | _ => .bad) P
@[simp ↓] theorem EOk_mut (i : Nat) (k : MutK) : EOk (mutD i k f ρ st) P ↔ (holdsL i ρ st = true ∧ EOk (f ρ st) (k_mut i k P)) := by
  unfold mutD
  cases holdsL i ρ st with
  | true => exact ⟨fun h => ⟨rfl, (EOk_bind _ _).mp h⟩, fun h => (EOk_bind _ _).mpr h.2⟩
  | false => exact ⟨fun h => h.elim, fun h => by cases h.1⟩
@[simp] def k_slc (k : D → Option Int → Option Int → Option D) (P : D → En → Store → Prop) (d : D) (lo : Option Int) (hi : D) (ρ : En) (st : Store) : Prop := EOk (match bd hi with | some hi => (match k (lkD st d) lo hi with | some z => .ok z ρ st | none => .bad) | none => .bad) P
@[simp] def k_slb (k : D → Option Int → Option Int → Option D) (h : DEx) (P : D → En → Store → Prop) (d lo : D) (ρ : En) (st : Store) : Prop := match bd lo with
  | some lo => EOk (h ρ st) (k_slc k P d lo)
  | none => False
@[simp] def k_sla (k : D → Option Int → Option Int → Option D) (g h : DEx) (P : D → En → Store → Prop) (d : D) (ρ : En) (st : Store) : Prop := EOk (g ρ st) (k_slb k h P d)
@[simp ↓] theorem EOk_sl (k : D → Option Int → Option Int → Option D) : EOk (slX k f g h ρ st) P ↔ EOk (f ρ st) (k_sla k g h P) := by
  refine (EOk_bind _ _).trans ⟨fun z => z.mono fun d ρ st z => ((EOk_bind _ _).mp z).mono fun lo ρ st z => ?_, fun z => z.mono fun d ρ st z => (EOk_bind _ _).mpr (z.mono fun lo ρ st z => ?_)⟩
  · unfold k_slb
    cases e : bd lo with
    | none => rw [e] at z; exact z
    | some l => rw [e] at z; exact (EOk_bind _ _).mp z
  · unfold k_slb at z
    cases e : bd lo with
    | none => rw [e] at z; exact z
    | some l => rw [e] at z; exact (EOk_bind _ _).mpr z
@[simp] def k_lc (g : DGx) (c f : DEx) (vs : List Nat) (P : D → En → Store → Prop) (d : D) (ρ : En) (st : Store) : Prop := EOk (match d.iter with | some (ds, gd) => if ds.length ≤ sizeLine then lcGo g (chkE gd c) (chkE gd f) vs ds [] (wipeR ρ vs) st else .bad | none => .bad) P
@[simp ↓] theorem EOk_lc (k : DGx) (vs : List Nat) : EOk (lcD fi k c f vs ρ st) P ↔ EOk (fi ρ st) (k_lc k c f vs P) := EOk_bind _ _
@[simp] def k_cellD (P : D → En → Store → Prop) (d : D) (ρ : En) (st : Store) : Prop := EOk (match d with
  | .dct ds => .ok (.ref st.length) ρ (st ++ [.dct ds])
  | _ => .bad) P
@[simp ↓] theorem EOk_cellD : EOk (cellDE f ρ st) P ↔ EOk (f ρ st) (k_cellD P) := EOk_bind _ _
@[simp] def k_disp (P : D → En → Store → Prop) (d : D) (ρ : En) (st : Store) : Prop := EOk (match d with
  | .tup ds => (match pairKs ds with
    | some kvs => if kvs.length ≤ 15 then .ok (.dct (mergeD [] kvs)) ρ st else .bad
    | none => .bad)
  | _ => .bad) P
@[simp ↓] theorem EOk_disp : EOk (dispD f ρ st) P ↔ EOk (f ρ st) (k_disp P) := EOk_bind _ _
@[simp] def k_subSet (i : Nat) (p : DPx) (N : En → Store → Prop) (V : D → Store → Prop) (d : D) (ρ : En) (st : Store) : Prop := SOk (match p ρ st with
  | some j => (match mutAt i (kSet j) [d] ρ st with
    | .ok _ ρ st => .nx ρ st
    | _ => .bad)
  | none => .bad) N V
@[simp ↓] theorem SOk_subSet (i : Nat) (p : DPx) : SOk (subSetD i p f ρ st) N V ↔ EOk (f ρ st) (k_subSet i p N V) := SOk_thenF _
@[simp] def k_dgetc (P : D → En → Store → Prop) (d kd e : D) (ρ : En) (st : Store) : Prop := EOk (match kd.key, dOf (lkD st d) with
    | some k, some kvs => .ok ((getK kvs k).getD e) ρ st
    | _, _ => .bad) P
@[simp] def k_dgetb (h : DEx) (P : D → En → Store → Prop) (d kd : D) (ρ : En) (st : Store) : Prop := EOk (h ρ st) (k_dgetc P d kd)
@[simp] def k_dgeta (g h : DEx) (P : D → En → Store → Prop) (d : D) (ρ : En) (st : Store) : Prop := match dOf (lkD st d) with
  | some _ => EOk (g ρ st) (k_dgetb h P d)
  | none => False
@[simp ↓] theorem EOk_dget : EOk (dgetD f g h ρ st) P ↔ EOk (f ρ st) (k_dgeta g h P) := by
  refine (EOk_bind _ _).trans ⟨fun z => z.mono fun d ρ st z => ?_, fun z => z.mono fun d ρ st z => ?_⟩
  · unfold k_dgeta
    cases e : dOf (lkD st d) with
    | none => rw [e] at z; exact z
    | some l => rw [e] at z; exact ((EOk_bind _ _).mp z).mono fun _ _ _ z => (EOk_bind _ _).mp z
  · unfold k_dgeta at z
    cases e : dOf (lkD st d) with
    | none => rw [e] at z; exact z
    | some l => rw [e] at z; exact (EOk_bind _ _).mpr (z.mono fun _ _ _ z => (EOk_bind _ _).mpr z)
@[simp] def k_dinb (neg : Bool) (P : D → En → Store → Prop) (kd d : D) (ρ : En) (st : Store) : Prop := EOk (match kd.key, dOf (lkD st d) with
  | some k, some kvs => .ok (.bl (xor neg (getK kvs k).isSome)) ρ st
  | _, _ => .bad) P
@[simp] def k_dina (neg : Bool) (f : DEx) (P : D → En → Store → Prop) (kd : D) (ρ : En) (st : Store) : Prop := EOk (f ρ st) (k_dinb neg P kd)
@[simp ↓] theorem EOk_din (neg : Bool) : EOk (dinD neg g f ρ st) P ↔ EOk (g ρ st) (k_dina neg f P) :=
  (EOk_bind _ _).trans ⟨fun h => h.mono fun _ _ _ => (EOk_bind _ _).mp, fun h => h.mono fun _ _ _ => (EOk_bind _ _).mpr⟩
@[simp] def k_dsubb (P : D → En → Store → Prop) (d kd : D) (ρ : En) (st : Store) : Prop := EOk (match kd.key, dOf (lkD st d) with
  | some k, some kvs => (match getK kvs k with
    | some e => .ok e ρ st
    | none => .bad)
  | _, _ => .bad) P
@[simp] def k_dsuba (g : DEx) (P : D → En → Store → Prop) (d : D) (ρ : En) (st : Store) : Prop := EOk (g ρ st) (k_dsubb P d)
@[simp ↓] theorem EOk_dsub : EOk (dsubD f g ρ st) P ↔ EOk (f ρ st) (k_dsuba g P) :=
  (EOk_bind _ _).trans ⟨fun h => h.mono fun _ _ _ => (EOk_bind _ _).mp, fun h => h.mono fun _ _ _ => (EOk_bind _ _).mpr⟩
@[simp] def k_dputc (N : En → Store → Prop) (vd : D) (l : Nat) (kd : D) (ρ : En) (st : Store) : Prop := match kd.key, st[l]? with
  | some k, some (.dct kvs) => kvs.length < sizeLine ∧ N ρ (st.set l (.dct (putD kvs k vd)))
  | _, _ => False
@[simp] def k_dputb (fk : DEx) (N : En → Store → Prop) (vd d : D) (ρ : En) (st : Store) : Prop := match d with | .ref l => EOk (fk ρ st) (k_dputc N vd l) | _ => False
@[simp] def k_dputa (fo fk : DEx) (N : En → Store → Prop) (vd : D) (ρ : En) (st : Store) : Prop := EOk (fo ρ st) (k_dputb fk N vd)
@[simp ↓] theorem SOk_dput : SOk (dputD f g h ρ st) N V ↔ EOk (h ρ st) (k_dputa f g N) := by
  refine (SOk_thenF _).trans ⟨fun z => z.mono fun d ρ st z => ?_, fun z => z.mono fun d ρ st z => ?_⟩
  all_goals
    unfold k_dputa at *
    revert z
    cases f ρ st with
    | ok d2 ρ2 st2 =>
      cases d2 with
      | ref l =>
        simp only [EOk_ok, k_dputb]
        cases g ρ2 st2 with
        | ok kd ρ3 st3 =>
          simp only [EOk_ok, k_dputc]
          cases kd.key with
          | none => simp
          | some k =>
            cases st3[l]? with
            | none => simp
            | some c =>
              cases c with
              | dct kvs =>
                by_cases hlt : kvs.length < sizeLine
                · simp [hlt]
                · simp [hlt]
              | _ => simp
        | _ => exact fun z => z
      | _ => exact fun z => z
    | _ => exact fun z => z
end
theorem SOk_forD {α : Type} {k : DGx} {b : DSx} {N : En → Store → Prop} {V : D → Store → Prop} (e : α → D) (I : List α → En → Store → Prop) : ∀ (xs pre : List α) (ρ : En) (st : Store), I pre ρ st →
    (∀ p x q ρ st, pre ++ xs = p ++ x :: q → I p ρ st → ∃ ρ1, k (e x) ρ = some ρ1 ∧ SOk (b ρ1 st) (I (p ++ [x])) V) → (∀ ρ st, I (pre ++ xs) ρ st → N ρ st) → SOk (forD k b (xs.map e) ρ st) N V
  | [], pre, ρ, st, h0, _, hd => by rw [List.append_nil] at hd; exact hd ρ st h0
  | x :: xs, pre, ρ, st, h0, hs, hd => by
    obtain ⟨ρ1, e1, h1⟩ := hs pre x xs ρ st rfl h0
    show SOk (forD k b (e x :: xs.map e) ρ st) N V
    unfold forD
    simp only [e1]
    cases eb : b ρ1 st with
    | nx ρ2 st2 =>
      rw [eb] at h1
      have ea : pre ++ x :: xs = (pre ++ [x]) ++ xs := by simp
      refine SOk_forD e I xs (pre ++ [x]) ρ2 st2 h1 (fun p y q ρ st z => hs p y q ρ st (by rw [ea]; exact z)) fun ρ st z => hd ρ st (by rw [ea]; exact z)
    | rt d ρ2 st2 => rw [eb] at h1; exact h1
    | _ => rw [eb] at h1; exact h1.elim
theorem SOk_rng {k : DGx} {b : DSx} {N : En → Store → Prop} {V : D → Store → Prop} {ρ : En} {st : Store} (n : Nat) (I : Nat → En → Store → Prop) (h0 : I 0 ρ st)
    (hs : ∀ q ρ st, q < n → I q ρ st → ∃ ρ1, k (.int q) ρ = some ρ1 ∧ SOk (b ρ1 st) (I (q + 1)) V) (hd : ∀ ρ st, I n ρ st → N ρ st) : SOk (forD k b (rngItems 0 n) ρ st) N V := by
  have := SOk_forD (k := k) (b := b) (N := N) (V := V) (fun q : Nat => D.int (q : Int)) (fun p => I p.length) (List.range n) [] ρ st h0 (fun p x q ρ st e hI => by
    have hx : x = p.length := by
      have h1 : (List.range n)[p.length]? = some x := by rw [show List.range n = p ++ x :: q from e]; simp
      rw [List.getElem?_range (by have := congrArg List.length e; simp at this; omega)] at h1
      simpa using h1.symm
    subst hx
    obtain ⟨ρ1, e1, h1⟩ := hs p.length ρ st (by have := congrArg List.length e; simp at this; omega) hI
    exact ⟨ρ1, e1, by simpa using h1⟩) (fun ρ st hI => hd ρ st (by simpa using hI))
  rwa [← show rngItems 0 n = (List.range n).map (fun q : Nat => D.int (q : Int)) by simp [rngItems]] at this
theorem SOk_at {k : DGx} {b : DSx} {N : En → Store → Prop} {V : D → Store → Prop} {ρ : En} {st : Store} (ds : List D) (I : Nat → En → Store → Prop) (h0 : I 0 ρ st)
    (hs : ∀ q d ρ st, ds[q]? = some d → I q ρ st → ∃ ρ1, k d ρ = some ρ1 ∧ SOk (b ρ1 st) (I (q + 1)) V) (hd : ∀ ρ st, I ds.length ρ st → N ρ st) : SOk (forD k b ds ρ st) N V := by
  have := SOk_forD (k := k) (b := b) (N := N) (V := V) (fun d : D => d) (fun p => I p.length) ds [] ρ st h0 (fun p x q ρ st e hI => by
    obtain ⟨ρ1, e1, h1⟩ := hs p.length x ρ st (by rw [show ds = p ++ x :: q from e]; simp) hI
    exact ⟨ρ1, e1, by simpa using h1⟩) (fun ρ st hI => hd ρ st (by simpa using hI))
  simpa using this
@[simp] def k_lcb (vs : List Nat) (ρ : En) (st : Store) (y : D) (y' : D) (ρ3 : En) (st3 : Store) : Prop := y' = y ∧ st3 = st ∧ wipeR ρ3 vs = ρ
@[simp] def k_lca (f : DEx) (vs : List Nat) (ρ : En) (st : Store) (b : Bool) (y : D) (d : D) (ρ2 : En) (st2 : Store) : Prop := d = .bl b ∧ st2 = st ∧ if b = true then EOk (f ρ2 st2) (k_lcb vs ρ st y) else wipeR ρ2 vs = ρ
theorem EOk_lcP {α : Type} {g : DGx} {c f : DEx} {vs : List Nat} {P : D → En → Store → Prop} {ρ : En} {st : Store} (e : α → D) (p : α → Bool) (r : α → D) : ∀ (xs : List α) (acc : List D),
    (∀ x ∈ xs, ∃ ρ1, g (e x) ρ = some ρ1 ∧ EOk (c ρ1 st) (k_lca f vs ρ st (p x) (r x))) → P (.lst (acc ++ (xs.filter p).map r)) ρ st → EOk (lcGo g c f vs (xs.map e) acc ρ st) P
  | [], acc, _, hd => by
    have : P (.lst acc) ρ st := by simpa using hd
    exact this
  | x :: xs, acc, hs, hd => by
    obtain ⟨ρ1, e1, h1⟩ := hs x (List.mem_cons_self ..)
    show EOk (lcGo g c f vs (e x :: xs.map e) acc ρ st) P
    unfold lcGo
    simp only [e1]
    cases ec : c ρ1 st with
    | ok d ρ2 st2 =>
      rw [ec] at h1
      obtain ⟨rfl, rfl, h2⟩ := h1
      cases hp : p x with
      | true =>
        rw [hp, if_pos rfl] at h2
        simp only
        cases ef : f ρ2 st2 with
        | ok y ρ3 st3 =>
          rw [ef] at h2
          obtain ⟨rfl, rfl, h5⟩ := h2
          simp only [h5]
          exact EOk_lcP e p r xs _ (fun y hy => hs y (List.mem_cons_of_mem _ hy)) (by simpa [hp] using hd)
        | _ => rw [ef] at h2; exact h2.elim
      | false =>
        rw [hp, if_neg (by simp)] at h2
        simp only [h2]
        exact EOk_lcP e p r xs _ (fun y hy => hs y (List.mem_cons_of_mem _ hy)) (by simpa [hp] using hd)
    | _ => rw [ec] at h1; exact h1.elim
theorem EOk_lcM {α : Type} {g : DGx} {f : DEx} {vs : List Nat} {P : D → En → Store → Prop} {ρ : En} {st : Store} (e : α → D) (r : α → D) (xs : List α)
    (h : ∀ x ∈ xs, ∃ ρ1, g (e x) ρ = some ρ1 ∧ EOk (f ρ1 st) (k_lcb vs ρ st (r x))) (hd : P (.lst (xs.map r)) ρ st) : EOk (lcGo g yesD f vs (xs.map e) [] ρ st) P :=
  EOk_lcP e (fun _ => true) r xs [] (fun x hx => by
    obtain ⟨ρ1, e1, h1⟩ := h x hx
    refine ⟨ρ1, e1, ?_⟩
    show k_lca f vs ρ st true (r x) (.bl true) ρ1 st
    simpa using h1) (by rw [List.filter_eq_self.mpr (fun _ _ => rfl)]; exact hd)
theorem SOk_while {c : DEx} {b : DSx} {N : En → Store → Prop} {V : D → Store → Prop} (I : Nat → En → Store → Prop) (hs : ∀ n ρ st, I n ρ st → EOk (c ρ st) fun d ρ st => match d with
      | .bl true => SOk (b ρ st) (fun ρ st => ∃ m, m < n ∧ I m ρ st) V
      | .bl false => N ρ st
      | _ => False) : ∀ (n : Nat) (ρ : En) (st : Store), I n ρ st → SOk (whileD c b ρ st) N V := by
  have key : ∀ (n : Nat) (ρ : En) (st : Store), I n ρ st → ∃ k, SOk (runW c b k ρ st) N V ∧ runW c b k ρ st ≠ .bad := by
    intro n
    induction n using Nat.strongRecOn with
    | ind n ih =>
      intro ρ st hI
      have h1 := hs n ρ st hI
      cases ec : c ρ st with
      | ok d ρ2 st2 =>
        rw [ec] at h1
        cases d with
        | bl t =>
          cases t with
          | false =>
            refine ⟨1, ?_, ?_⟩
            · unfold runW; rw [ec]; exact h1
            · unfold runW; rw [ec]; simp
          | true =>
            simp only [EOk_ok] at h1
            cases eb : b ρ2 st2 with
            | nx ρ3 st3 =>
              rw [eb] at h1
              obtain ⟨m, hm, hI3⟩ := h1
              obtain ⟨k, hk, nb⟩ := ih m hm ρ3 st3 hI3
              refine ⟨k + 1, ?_, ?_⟩
              · unfold runW; rw [ec]; simp only [eb]; exact hk
              · unfold runW; rw [ec]; simp only [eb]; exact nb
            | rt d3 ρ3 st3 =>
              rw [eb] at h1
              refine ⟨1, ?_, ?_⟩
              · unfold runW; rw [ec]; simp only [eb]; exact h1
              · unfold runW; rw [ec]; simp only [eb]; simp
            | _ => rw [eb] at h1; exact h1.elim
        | _ => exact h1.elim
      | _ => rw [ec] at h1; exact h1.elim
  intro n ρ st hI
  obtain ⟨k, hk, nb⟩ := key n ρ st hI
  rw [whileD_of (n := k) rfl nb]
  exact hk
end DL
namespace DL
open PySem PySem.Spec PyProof.Rows L2
structure FnG (P : Program) (w : World) (K : PySem.W.Frag) (mg : Str → Option Value) (base : Heap) (CX : CXT) (k : Nat) (f : Addr) (fd : FuncData) (ps : List Str) (sp : Sp) : Prop where
  len : ∀ vs H Q E, sp vs H Q E → vs.length = ps.length
  at_ : ∀ (A : Around), A.guards = some [] → Room k A → ∀ (out : List Env) (s : Shared) (H : Hp) (args : Args) (us : List Value) (vs : List V) (Q : VK) (E : XK), Env0 P w K mg base A out s H → BindsTo s fd args (ps.zip us) → Vals vs us → sp vs H Q E →
    codeAny (model P w) A (.call (.ref f) args) (CR CX out P w H s Q E) s
theorem FnG.of {P : Program} {w : World} {K : PySem.W.Frag} {mg : Str → Option Value} {base : Heap} {CX : CXT} {k : Nat} {f : Addr} {fd : FuncData} {ps : List Str} {sp : Sp} (F : FnOk P w K mg base CX k f fd ps sp) : FnG P w K mg base CX k f fd ps sp :=
  ⟨F.len, fun A _ hr out s H args us vs Q E => F.run A out s H args us vs Q E hr⟩
theorem FnG.imp {P : Program} {w : World} {K : PySem.W.Frag} {mg : Str → Option Value} {base : Heap} {CX : CXT} {k : Nat} {f : Addr} {fd : FuncData} {ps : List Str} {sp sq : Sp} (F : FnG P w K mg base CX k f fd ps sp) (h : ∀ vs H Q E, sq vs H Q E → sp vs H Q E) : FnG P w K mg base CX k f fd ps sq :=
  ⟨fun vs H Q E q => F.len vs H Q E (h _ _ _ _ q), fun A ag hr out s H args us vs Q E e b r q => F.at_ A ag hr out s H args us vs Q E e b r (h _ _ _ _ q)⟩
section
variable {P : Program} {wd : World} {K : PySem.W.Frag} {mg : Str → Option Value} {base : Heap}
theorem fnG_body {x qual : Str} {st : Stmt} {f : Addr} {fd : FuncData} {N ps : List Str} {k : Nat} {sp : Sp} (F : FunV K x qual st f fd) (S : FnScope N ps (defScope st)) (len : ∀ vs H Q E, sp vs H Q E → vs.length = ps.length)
    (hb : ∀ (cdv : Value) (A : Around) (out : List Env) (s : Shared) (H : Hp) (vs : List V) (Q : VK) (E : XK), A.guards = some [] → Room k (A.deeper (envOfC qual (defScope st) s.heap.objs.size f cdv)) → sp vs H Q E →
      ∃ t, PSs (cxOf (L2N.CX P wd) P wd K mg base N qual (defScope st) f cdv A out s H E) (defBody st) t ∧ t { nx := fun _ G => Q .non G, rt := Q } (start N vs) H) : FnG P wd K mg base (L2N.CX P wd) (k + 1) f fd ps sp := by
  obtain ⟨oc, od, dV, kV, doc, pm, an, cdv, ct, osl, rfl, lk, hcd⟩ := F.ex
  refine ⟨len, fun A ag hr out s H args us vs Q E en bd rv hs => ?_⟩
  obtain ⟨t, p, go⟩ := hb cdv A out s H vs Q E ag (hr.deeper _) hs
  have up := fun (b : Addr) (o : Obj) (e : base.get? b = some o) => (en.bs b o e).1
  have kin := en.mod.kin.keeps up
  refine codeAny_call_function hr.depth (kin _ _ lk) rfl S.co S.gen rfl (PySem.W.codeRec_of kin hcd) (bd _ _ _ _ ?_)
  refine wpAny_newFunctionEnv_cells S.kind ?_ ?_
  · rintro ⟨n, v⟩ hn
    exact (S.par n (List.of_mem_zip hn).1).imp id fun z => ⟨z, PySem.W.cellsFrom_some _ _ _ (.inl z)⟩
  · rintro _ rfl s1 new
    refine ⟨(en.mod.nolimit.keeps up).keeps new.toInCall.keep, codeAny_func ?_⟩
    refine wpAny_mono (p.run [] s1 _ H _ (inv_start S hr.hd en (len _ _ _ _ hs) rv new) go) ?_ (fun _ _ z => z)
    rintro (_ | _ | _ | u) s2 z
    · obtain ⟨_, H2, J, q⟩ := z
      exact ⟨.non, H2, J.os, J.bare, J.base, J.hok, rfl, q⟩
    · exact z.choose_spec.choose_spec.2.elim
    · exact z.choose_spec.choose_spec.2.elim
    · obtain ⟨v, _, H2, J, ru, q⟩ := z
      exact ⟨v, H2, J.os, J.bare, J.base, J.hok, ru, q⟩
theorem fn_DG {x qual : Str} {st : Stmt} {f : Addr} {fd : FuncData} {N ps : List Str} {k n : Nat} {g : DSx} (F : FunV K x qual st f fd) (S : FnScope N ps (defScope st)) (hn : n = N.length)
    (hb : ∀ (cdv : Value) (A : Around) (outer : List Env) (s : Shared) (H : Hp) (E : XK), A.guards = some [] → Room k (A.deeper (PyProof.Rows.envOfC qual (defScope st) s.heap.objs.size f cdv)) →
      DSs (cxOf (L2N.CX P wd) P wd K mg base N qual (defScope st) f cdv A outer s H E) (WEx E) (defBody st) g) : FnG P wd K mg base (L2N.CX P wd) (k + 1) f fd ps (spD K mg ps.length (runD n g)) := by
  refine fnG_body F S (fun vs H Q E h => h.1) fun cdv A outer s H vs Q E ag hr h => ?_
  obtain ⟨hl, w, ds, hρ, hσ, rfl, sts, rp, ok⟩ := h
  obtain ⟨t, pt, rt⟩ := hb cdv A outer s w.H E ag hr
  refine ⟨t, pt, ?_⟩
  have sts' := sts.enter hn rp (N := N)
  have e0 : w.strip = w := ws_strip hρ hσ
  have s0 : Sts K ⟨mg, Low.no⟩ w.strip := by rw [e0]; exact sts
  have out : ∀ w', Aft K ⟨mg, Low.no⟩ { w with ρ := DL.enter n ds, σ := start N vs } w' → Aft K ⟨mg, Low.no⟩ w w'.strip := fun w' A => by
    have := Aft.out (w := w) s0 (enter_ml n ds) A
    rwa [e0] at this
  refine rt { w with ρ := DL.enter n ds, σ := start N vs } { nx := fun _ H' => Q .non H', rt := Q } sts' ?_
  unfold runD at ok
  show OkF K ⟨mg, Low.no⟩ (WEx E) _ _ (g (DL.enter n ds) w.st)
  cases e : g (DL.enter n ds) w.st with
  | nx ρ st' =>
    rw [e] at ok
    intro w' h1 h2 A
    exact ok w'.strip .non rfl h2 hσ.symm (out w' A) .non
  | rt d ρ st' =>
    rw [e] at ok
    intro w' v h1 h2 A r
    exact ok w'.strip v rfl h2 hσ.symm (out w' A) r
  | bk ρ st' => rw [e] at ok; exact ok.elim
  | ct ρ st' => rw [e] at ok; exact ok.elim
  | exc c ρ st' =>
    rw [e] at ok
    intro w' cls dx h1 h2 A r
    exact ok w'.strip cls dx rfl h2 hσ.symm (out w' A) r
  | bad => rw [e] at ok; exact ok.elim
theorem LawG.of {x : Str} {st : Stmt} {N : List Str} {k n : Nat} {g : DSx} (S : FnScope N [x] (defScope st)) (hn : n = N.length)
    (hb : ∀ (f : Addr) (cdv : Value) (A : Around) (outer : List Env) (s : Shared) (H : Hp) (E : XK), A.guards = some [] → Room k (A.deeper (PyProof.Rows.envOfC "law" (defScope st) s.heap.objs.size f cdv)) →
      DSs (cxOf (L2N.CX P wd) P wd K mg base N "law" (defScope st) f cdv A outer s H E) (WEx E) (defBody st) g) :
    ∀ {f : Addr} {fd : FuncData}, Fun K "law" "law" st f fd → FnG P wd K mg base (L2N.CX P wd) (k + 1) f fd [x] (spD K mg 1 (runD n g)) := fun F => fn_DG (funV_of F) S hn (hb _)
structure Lies (K : PySem.W.Frag) (s : Shared) (a : Addr) (H : Hp) : Prop where
  only : ∀ b, H b = none ∨ (b = a ∧ ∃ o xs, H b = some (.frz o (.lst xs)))
  mine : H a ≠ none → K.lookup a = none
end
end DL
namespace DL
open PySem PySem.Spec PyProof.Rows L2 NdefX LamX
def TabD (K : PySem.W.Frag) (mg : Str → Option Value) (base : Heap) (q : Str) : Prop := ∃ (f c P : Addr) (fd : FuncData) (oc : Value) (od : Option Addr) (osl : Array (Option Value)), mg q = some (.ref f) ∧ K.lookup f = some ⟨oc, od, .func fd, osl⟩ ∧ fd.code = .ref c ∧ PySem.W.codeHdIn K c P = true ∧ TabB base mg c P
section
variable {P : Program} {wd : World} {K : PySem.W.Frag} {mg : Str → Option Value} {base : Heap}
theorem fn_DT {q x qual : Str} {st : Stmt} {f : Addr} {fd : FuncData} {N ps : List Str} {k n : Nat} {g : DSx} (TD : TabD K mg base q) (hm : mg q = some (.ref f)) (F : FunV K x qual st f fd) (S : FnScope N ps (defScope st)) (hn : n = N.length)
    (hb : ∀ (c P' : Addr) (A : Around) (outer : List Env) (s : Shared) (H : Hp) (E : XK), TabAt (cxOf (L2N.CX P wd) P wd K mg base N qual (defScope st) f (.ref c) A outer s H E) q c P' → Room k (A.deeper (envOfC qual (defScope st) s.heap.objs.size f (.ref c))) →
      DSs (cxOf (L2N.CX P wd) P wd K mg base N qual (defScope st) f (.ref c) A outer s H E) (WEx E) (defBody st) g) : FnOk P wd K mg base (L2N.CX P wd) (k + 1) f fd ps (spD K mg ps.length (runD n g)) := by
  obtain ⟨f', c, P', fd', oc', od', osl', h1, h2, h3, h4, h5⟩ := TD
  rw [hm] at h1
  cases h1
  obtain ⟨oc, od, dV, kV, doc, pm, an, cdv, ct, osl, rfl, lk, hcd⟩ := F.ex
  have e := lk.symm.trans h2
  cases e
  have ec : cdv = .ref c := h3
  subst ec
  refine fn_of lk hcd S (fun vs H Q E h => h.1) fun A outer s H vs Q E hr h => ?_
  obtain ⟨hl, w, ds, hρ, hσ, rfl, sts, rp, ok⟩ := h
  obtain ⟨t, pt, rt⟩ := hb c P' A outer s w.H E ⟨h5, rfl, h4, _, _, _, _, _, hm, lk, rfl⟩ hr
  exact ⟨t, pt, body_run rt hρ hσ sts (sts.enter hn rp (N := N)) (enter_ml n ds) ok⟩
theorem fn_DTG {q x qual : Str} {st : Stmt} {f : Addr} {fd : FuncData} {N ps : List Str} {k n : Nat} {g : DSx} (TD : TabD K mg base q) (hm : mg q = some (.ref f)) (F : FunV K x qual st f fd) (S : FnScope N ps (defScope st)) (hn : n = N.length)
    (hb : ∀ (c P' : Addr) (A : Around) (outer : List Env) (s : Shared) (H : Hp) (E : XK), TabAt (cxOf (L2N.CX P wd) P wd K mg base N qual (defScope st) f (.ref c) A outer s H E) q c P' → A.guards = some [] → Room k (A.deeper (envOfC qual (defScope st) s.heap.objs.size f (.ref c))) →
      DSs (cxOf (L2N.CX P wd) P wd K mg base N qual (defScope st) f (.ref c) A outer s H E) (WEx E) (defBody st) g) : FnG P wd K mg base (L2N.CX P wd) (k + 1) f fd ps (spD K mg ps.length (runD n g)) := by
  obtain ⟨f', c, P', fd', oc', od', osl', h1, h2, h3, h4, h5⟩ := TD
  rw [hm] at h1
  cases h1
  obtain ⟨oc, od, dV, kV, doc, pm, an, cdv, ct, osl, rfl, lk, hcd⟩ := F.ex
  have e := lk.symm.trans h2
  cases e
  have ec : cdv = .ref c := h3
  subst ec
  refine ⟨fun vs H Q E h => h.1, fun A ag hr out s H args us vs Q E en bd rv h => ?_⟩
  have lenv := h.1
  obtain ⟨hl, w, ds, hρ, hσ, rfl, sts, rp, ok⟩ := h
  obtain ⟨t, pt, rt⟩ := hb c P' A out s w.H E ⟨h5, rfl, h4, _, _, _, _, _, hm, lk, rfl⟩ ag (hr.deeper _)
  have go : t { nx := fun _ H' => Q .non H', rt := Q } (L2.start N vs) w.H := body_run rt hρ hσ sts (sts.enter hn rp (N := N)) (enter_ml n ds) ok
  have up := fun (b : Addr) (o : Obj) (e : base.get? b = some o) => (en.bs b o e).1
  have kin := en.mod.kin.keeps up
  refine codeAny_call_function hr.depth (kin _ _ lk) rfl S.co S.gen rfl (PySem.W.codeRec_of kin hcd) (bd _ _ _ _ ?_)
  refine wpAny_newFunctionEnv_cells S.kind ?_ ?_
  · rintro ⟨n, v⟩ hn
    exact (S.par n (List.of_mem_zip hn).1).imp id fun z => ⟨z, PySem.W.cellsFrom_some _ _ _ (.inl z)⟩
  · rintro _ rfl s1 new
    refine ⟨(en.mod.nolimit.keeps up).keeps new.toInCall.keep, codeAny_func ?_⟩
    refine wpAny_mono (pt.run [] s1 _ w.H _ (inv_start S hr.hd en lenv rv new) go) ?_ (fun _ _ z => z)
    rintro (_ | _ | _ | u) s2 z
    · obtain ⟨_, H2, J, q⟩ := z
      exact ⟨.non, H2, J.os, J.bare, J.base, J.hok, rfl, q⟩
    · exact z.choose_spec.choose_spec.2.elim
    · exact z.choose_spec.choose_spec.2.elim
    · obtain ⟨v, _, H2, J, ru, q⟩ := z
      exact ⟨v, H2, J.os, J.bare, J.base, J.hok, ru, q⟩
theorem Cal.ofT {x : Str} {st : Stmt} {N ps : List Str} {k n m : Nat} {g : DSx} (TD : TabD K mg base x) (Df : Dfn K mg x ps st) (S : FnScope N ps (defScope st)) (hn : n = N.length) (hm : m = ps.length)
    (hb : ∀ (f c P' : Addr) (A : Around) (outer : List Env) (s : Shared) (H : Hp) (E : XK), TabAt (cxOf (L2N.CX P wd) P wd K mg base N x (defScope st) f (.ref c) A outer s H E) x c P' → Room k (A.deeper (envOfC x (defScope st) s.heap.objs.size f (.ref c))) →
      DSs (cxOf (L2N.CX P wd) P wd K mg base N x (defScope st) f (.ref c) A outer s H E) (WEx E) (defBody st) g) : Cal P wd K mg base (k + 1) x m (runD n g) := by
  obtain ⟨f, fd, F, hmg, hB⟩ := Df
  subst hm
  exact ⟨f, fd, ps, fn_DT TD hmg (funV_of F) S hn (hb f), hmg, F.kp, hB⟩
theorem CalD.ofT {x : Str} {st : Stmt} {N ps : List Str} {dds : List D} {k n m : Nat} {g : DSx} (TD : TabD K mg base x) (Df : Dfd K mg x ps st dds) (S : FnScope N ps (defScope st)) (hn : n = N.length) (hm : m = ps.length)
    (hb : ∀ (f c P' : Addr) (A : Around) (outer : List Env) (s : Shared) (H : Hp) (E : XK), TabAt (cxOf (L2N.CX P wd) P wd K mg base N x (defScope st) f (.ref c) A outer s H E) x c P' → Room k (A.deeper (envOfC x (defScope st) s.heap.objs.size f (.ref c))) →
      DSs (cxOf (L2N.CX P wd) P wd K mg base N x (defScope st) f (.ref c) A outer s H E) (WEx E) (defBody st) g) : CalD P wd K mg base (k + 1) x m (runD n g) dds := by
  obtain ⟨f, fd, ds, dvs, F, hmg, kp, hB, hV, hD⟩ := Df
  subst hm
  exact ⟨f, fd, ps, ds, dvs, fn_DT TD hmg F S hn (hb f), hmg, kp, hB, hV, hD⟩
theorem CalK.ofT {x : Str} {st : Stmt} {N ps ks : List Str} {k n m j : Nat} {g : DSx} (TD : TabD K mg base x) (Df : Dfk K mg x ps st j ks) (S : FnScope N ps (defScope st)) (hn : n = N.length) (hm : m = ps.length)
    (hb : ∀ (f c P' : Addr) (A : Around) (outer : List Env) (s : Shared) (H : Hp) (E : XK), TabAt (cxOf (L2N.CX P wd) P wd K mg base N x (defScope st) f (.ref c) A outer s H E) x c P' → Room k (A.deeper (envOfC x (defScope st) s.heap.objs.size f (.ref c))) →
      DSs (cxOf (L2N.CX P wd) P wd K mg base N x (defScope st) f (.ref c) A outer s H E) (WEx E) (defBody st) g) : CalK P wd K mg base (k + 1) x m j ks (runD n g) := by
  obtain ⟨f, fd, F, hmg, kp, hB⟩ := Df
  subst hm
  exact ⟨f, fd, ps, fn_DT TD hmg F S hn (hb f), hmg, kp, hB⟩
def Recv (P : Program) (wd : World) (K : PySem.W.Frag) (mg : Str → Option Value) (base : Heap) (k kc m : Nat) (x : Str) (st : Stmt) (N ps : List Str) (gb : Den → DSx) : Prop := ∃ f fd, RecD P wd K mg base k kc m x st N ps gb f fd
theorem Recv.of {x : Str} {st : Stmt} {N ps : List Str} {k kc m : Nat} {gb : Den → DSx} (Df : Dfn K mg x ps st) (S : FnScope N ps (defScope st))
    (hb : ∀ (f : Addr) (b : Low) (dn : Den) (cdv : Value) (A : Around) (outer : List Env) (s : Shared) (H : Hp) (E : XK), b.ex = none → Room k (A.deeper (envOfC x (defScope st) s.heap.objs.size f cdv)) →
      (∀ pn xe, CloX ((cxOf (L2N.CX P wd) P wd K mg base N x (defScope st) f cdv A outer s H E).tr pn xe) kc m b dn) → DSs (cxOf (L2N.CX P wd) P wd K mg base N x (defScope st) f cdv A outer s H E) (WEb b E) (defBody st) (gb dn)) : Recv P wd K mg base k kc m x st N ps gb := by
  obtain ⟨f, fd, F, hmg, hB⟩ := Df
  exact ⟨f, fd, funV_of F, F.kp, hmg, hB, S, hb f⟩
def spLawT (K : PySem.W.Frag) (ts : List Addr) : Sp := fun vs H Q _ => ∃ (a : Addr) (ns : List Int), vs = [.ref a] ∧ SqL K H a (ns.map V.int) ∧ ns.length ≤ 63 ∧ (∀ p ∈ ts, H p = some (.tbl #[])) ∧ ∀ H', Q (.bl true) H'
open Classical in
theorem lawT_of {k : Nat} {f : Addr} {fd : FuncData} {x : Str} {den : Den} {ts : List (Addr × Str × Str)} (F : FnG P wd K mg base (L2N.CX P wd) k f fd [x] (spD K mg 1 den)) (nd : (ts.map (·.1)).Nodup) (ht : ∀ t ∈ ts, TabOf K mg t.2.1 t.1)
    (hd : ∀ ns : List Int, ns.length ≤ 63 → ∃ st, den [.lsk (ns.map .int)] (ts.map fun t => .tab t.2.1 t.2.2) = .ok (.bl true) [] st) : FnG P wd K mg base (L2N.CX P wd) k f fd [x] (spLawT K (ts.map (·.1))) := by
  refine F.imp fun vs H Q E h => ?_
  obtain ⟨a, ns, rfl, hS, hl, hT, q⟩ := h
  obtain ⟨st, e⟩ := hd ns hl
  let G : Hp := fun b => if b ∈ ts.map (·.1) then none else H b
  have gT : ∀ b ∈ ts.map (·.1), G b = none := fun b hb => if_pos hb
  have gO : ∀ b, b ∉ ts.map (·.1) → G b = H b := fun b hb => if_neg hb
  have sub : Same G H := fun b u z => by
    by_cases hb : b ∈ ts.map (·.1)
    · rw [gT b hb] at z; cases z
    · rwa [gO b hb] at z
  have at_ : ∀ (l : Nat) (c : Cell) (b : Addr), (ts.map fun t => Cell.tab t.2.1 t.2.2)[l]? = some c → (ts.map (·.1))[l]? = some b → ∃ t ∈ ts, c = .tab t.2.1 t.2.2 ∧ b = t.1 := fun l c b h1 h2 => by
    rw [List.getElem?_map] at h1 h2
    cases z : ts[l]? with
    | none => rw [z] at h1; cases h1
    | some t =>
      rw [z] at h1 h2
      cases h1; cases h2
      exact ⟨t, List.mem_of_getElem? z, rfl, rfl⟩
  have s : Sts K ⟨mg, Low.no⟩ ⟨[], [], G, ts.map (·.1), H, ts.map fun t => .tab t.2.1 t.2.2⟩ := {
    lowG := fun _ _ z => by cases z
    lowI := fun _ _ z => by cases z
    sub := sub
    ln := rfl
    len := by simp
    cel := fun l c b h1 h2 => by
      obtain ⟨t, m, rfl, rfl⟩ := at_ l c b h1 h2
      have mm : t.1 ∈ ts.map (·.1) := List.mem_map.mpr ⟨t, m, rfl⟩
      exact ⟨gT _ mm, ht t m, #[], hT _ mm, trivial, fun pos cv z => by cases z⟩
    inj := fun i j b ⟨c1, h1, _, h2⟩ ⟨c2, h3, _, h4⟩ => by
      have h2' : (ts.map (·.1))[i]? = some b := h2
      have h4' : (ts.map (·.1))[j]? = some b := h4
      have li : i < (ts.map (·.1)).length := (List.getElem?_eq_some_iff.mp h2').1
      exact (List.getElem?_inj li nd).mp (h2'.trans h4'.symm)
    slo := fun i x h => by cases h
    sep := fun i l a ⟨es, h, _⟩ => by cases h
    dis := fun i j a ⟨es, h, _⟩ => by cases h }
  have hsz : sizeLine = 16777216 := sizeLine_eq
  have hG : SqL K G a (ns.map V.int) := by
    rcases hS with hS | hS
    · have na : a ∉ ts.map (·.1) := fun z => by
        have := hT a z
        rcases hS with y | ⟨o, y⟩ <;> rw [this] at y <;> cases y
      refine .inl ?_
      unfold Rd
      rw [gO a na]
      exact hS
    · exact .inr hS
  refine ⟨rfl, ⟨[], [], G, ts.map (·.1), H, ts.map fun t => .tab t.2.1 t.2.2⟩, [.lsk (ns.map .int)], rfl, rfl, rfl, s, .cons (.lsk hG (by rw [List.length_map]; omega) (reps_ints ns)) .nil, ?_⟩
  show OkR K ⟨mg, Low.no⟩ (WEx E) _ Q (den [.lsk (ns.map .int)] (ts.map fun t => .tab t.2.1 t.2.2))
  rw [e]
  intro w' v h1 h2 h3 A r
  cases r
  exact q _
structure LiesT (K : PySem.W.Frag) (s : Shared) (a : Addr) (cs : List (Addr × Addr)) (H : Hp) : Prop where
  only : ∀ b, H b = none ∨ (b = a ∧ ∃ o xs, H b = some (.frz o (.lst xs))) ∨ (b ∈ cs.map (·.2) ∧ H b = some (.tbl #[]))
  mine : H a ≠ none → K.lookup a = none
  tabs : ∀ p ∈ cs, H p.2 = some (.tbl #[])
theorem lawT_head {mb : Str → Option Value} {k : Nat} {fa a : Addr} {fd : FuncData} {x : Str} {s : Shared} {us : List Value} {ns : List Int} {H : Hp} {cs : List (Addr × Addr)} (L : LiesT K s a cs H) (hok : HOk P wd H s.heap) (hS : SqL K H a (ns.map V.int)) (kin : K.In s.heap) (gl : s.heap.Ns mainGlobals mg) (bl : s.heap.Ns builtinsNs mb)
    (bb : ∀ y : Str, y ≠ "__name__" → mb y = bootBuiltins y) (li : s.heap.NoLimit) (g0 : s.gens = #[]) (scr : s.heap.get? a = some { cls := .type "list", data := .seq us.toArray }) (h63 : ns.length ≤ 63) (hr : Room k callerA)
    (tab : ∀ p ∈ cs, s.heap.get? p.2 = some { cls := .none, data := .fields #[] }) (tk : ∀ p ∈ cs, K.lookup p.2 = none) (co : ∀ p ∈ cs, PySem.W.CodeHd s.heap p.1 p.2)
    (bm : ∃ (m : Addr) (o : Obj), mg "__builtins__" = some (.ref m) ∧ m ≠ builtinsNs ∧ s.heap.get? m = some o ∧ o.cls = .type "module" ∧ o.dict = some builtinsNs ∧ o.data = .plain)
    (F : ∀ base : Heap, K.In base → base.Ns mainGlobals mg → (∀ p ∈ cs, TabB base mg p.1 p.2) → FnG P wd K mg base (L2N.CX P wd) k fa fd [x] (spLawT K (cs.map (·.2)))) (bd : ∀ (s : Shared) (u : Value), BindsTo s fd ⟨[u], []⟩ [(x, u)]) :
    codeAny (model P wd) callerA (.call (.ref fa) ⟨[.ref a], []⟩) (fun r s' => r = .ok (.ret (.bool true)) ∧ OldK s.heap s'.heap ∧ s'.os = s.os ∧ AllBare s'.gens) s := by
  have atT : ∀ b ∈ cs.map (·.2), s.heap.get? b = some { cls := .none, data := .fields #[] } := fun b hb => by
    obtain ⟨p, m, rfl⟩ := List.mem_map.mp hb
    exact tab p m
  -- what is neither a sequence nor an empty record is not tracked
  have off : ∀ {b : Addr} {o : Obj}, s.heap.get? b = some o → (∀ xs n, o.data ≠ .seq xs n) → o.data ≠ .fields #[] → H b = none := fun {b o} e n1 n2 => by
    rcases L.only b with z | ⟨rfl, _⟩ | ⟨z, _⟩
    · exact z
    · rw [scr] at e; cases e; exact absurd rfl (n1 _ _)
    · rw [atT b z] at e; cases e; exact absurd rfl n2
  have low : ∀ {b : Addr} {m : Str → Option Value}, s.heap.Ns b m → (hidT s.heap H).Ns b m := fun {b m} ⟨o, es, ep, e, d, r⟩ =>
    ⟨o, es, ep, hidT_get e (off e (fun xs n z => by rw [d] at z; cases z) (fun z => by rw [d] at z; cases z)), d, r⟩
  have kin' : K.In (hidT s.heap H) := fun b o e => hidT_get (kin b o e) (by
    rcases L.only b with z | ⟨rfl, ob, xs, z⟩ | ⟨z, _⟩
    · exact z
    · have := L.mine (by rw [z]; simp)
      rw [this] at e; cases e
    · obtain ⟨p, m, rfl⟩ := List.mem_map.mp z
      rw [tk p m] at e; cases e)
  have md : Mod K mg (hidT s.heap H) := ⟨kin', low gl, ⟨mb, low bl, bb⟩, li.elim fun mc z => ⟨mc, low z.1, z.2⟩⟩
  have en : Env0 P wd K mg (hidT s.heap H) callerA [] s H := by
    refine ⟨rfl, md, fun b o e => of_hidT e, ?_, trivial, ?_, hok, .of_eq g0⟩
    · rw [hidT_size]; exact Nat.le_refl _
    · intro b z; cases z
  have TBs : ∀ p ∈ cs, TabB (hidT s.heap H) mg p.1 p.2 := fun p m => by
    refine ⟨?_, ?_, fun z => ?_⟩
    · obtain ⟨o, vs, fl, t1, fg, t2, b0, tx, t3, e1, r1, r2, r3, rest⟩ := co p m
      exact ⟨o, vs, fl, t1, fg, t2, b0, tx, t3, hidT_get e1 (off e1 (fun xs n z => by rw [r2] at z; cases z) fun z => by rw [r2] at z; cases z; simp at r3), r1, r2, r3, rest⟩
    · obtain ⟨b, o, b1, b2, b3, b4, b5, b6⟩ := bm
      refine ⟨b, o, b1, b2, fun z => ?_, fun z => ?_, hidT_get b3 (off b3 (fun xs n z => by rw [b6] at z; cases z) fun z => by rw [b6] at z; cases z), b4, b5, b6⟩
      · obtain ⟨og, es, ep, e, d, _⟩ := gl
        rw [z, e] at b3; cases b3; rw [d] at b6; cases b6
      · rw [z, tab p m] at b3; cases b3; cases b6
    · obtain ⟨og, es, ep, e, d, _⟩ := gl
      rw [z, tab p m] at e; cases e; cases d
  have hT : ∀ b ∈ cs.map (·.2), H b = some (.tbl #[]) := fun b hb => by
    obtain ⟨p, m, rfl⟩ := List.mem_map.mp hb
    exact L.tabs p m
  have run := (F _ kin' (low gl) TBs).at_ callerA rfl hr [] s H ⟨[.ref a], []⟩ [.ref a] [.ref a] (fun v _ => v = .bl true) (fun _ _ _ => False) en (bd s (.ref a)) (.cons rfl .nil) ⟨a, ns, rfl, hS, h63, hT, fun _ => rfl⟩
  refine codeAny_mono run ?_
  rintro (e | fl) s' z
  · obtain ⟨_, _, _, _, _, _, _, _, _, _, _, _, _, _, _, _, z⟩ := z
  · rcases fl with _ | _ | _ | u
    · exact z.elim
    · exact z.elim
    · exact z.elim
    · obtain ⟨v, H', os, bare, un, hok', ru, rfl⟩ := z
      cases ru
      have keep : ∀ b o, b ∉ cs.map (·.2) → s.heap.get? b = some o → s'.heap.get? b = some o := fun b o nb e => by
        rcases L.only b with z | ⟨_, ob, xs, z⟩ | ⟨z, _⟩
        · exact un.keep b o e z (by intro q; cases q) (by intro q; cases q)
        · have h1 := (hok b _ z).1
          have h2 := (hok' b _ (un.frzs b ob _ z)).1
          rw [e] at h1
          cases h1
          exact h2
        · exact absurd z nb
      have grow : ∀ p ∈ cs, ∃ r : Array Value, s'.heap.get? p.2 = some { cls := .none, data := .fields r } := fun p m => by
        obtain ⟨r, z⟩ := un.tbls p.2 #[] (L.tabs p m)
        exact ⟨_, hok' p.2 _ z⟩
      refine ⟨rfl, ⟨fun b o e => ?_, fun b o e => ?_⟩, os, bare⟩
      · by_cases hb : b ∈ cs.map (·.2)
        · obtain ⟨p, m, rfl⟩ := List.mem_map.mp hb
          obtain ⟨r, z⟩ := grow p m
          rw [tab p m] at e
          cases e
          exact .inr (.inl ⟨((co p m).tab (tab p m)).isCodeTable, rfl, #[], r, rfl, by rw [Array.empty_append]; exact z⟩)
        · exact .inl (keep b o hb e)
      · by_cases hb : b ∈ cs.map (·.2)
        · obtain ⟨p, m, rfl⟩ := List.mem_map.mp hb
          obtain ⟨r, z⟩ := grow p m
          exact ⟨_, z⟩
        · exact ⟨o, keep b o hb e⟩
end
def LawT (l : PySem.W.OpenLaw) (w : World) (K : PySem.W.Frag) (k : Nat) (x : Str) (mg : Str → Option Value) (fa : Addr) (h : Heap) : Prop :=
  ∃ (fd : FuncData) (cs : List (Addr × Addr)), (∀ p ∈ cs, h.get? p.2 = some { cls := .none, data := .fields #[] }) ∧ (∀ p ∈ cs, K.lookup p.2 = none) ∧ (∀ p ∈ cs, PySem.W.CodeHd h p.1 p.2) ∧ (∀ (s : Shared) (u : Value), BindsTo s fd ⟨[u], []⟩ [(x, u)]) ∧
    ∀ base : Heap, K.In base → base.Ns mainGlobals mg → (∀ p ∈ cs, TabB base mg p.1 p.2) → FnG l.prog w K mg base (L2N.CX l.prog w) k fa fd [x] (spLawT K (cs.map (·.2)))
open Classical in
theorem law_walkT {l : PySem.W.OpenLaw} {k : Nat} {x : Str} {q : Program} {loose : List Str} {XP : (Str → Option Value) → Heap → Prop} {YP : World → Heap → Prop} {d : DefRec} {K : Params → PySem.W.Frag} (hn : l.most = some 63) (hdf : d.params.defaults = []) (hr : Room k callerA)
    (hY : ∀ (w : World) (h : Heap), YP w h → (K w.params).In h)
    (F : ∀ (w : World) (mg : Str → Option Value) (fa : Addr) (h : Heap), YP w h → (K w.params).In h → h.Ns mainGlobals mg → mg d.name = some (.ref fa) → LawT l w (K w.params) k x mg fa h) :
    PySem.W.WalkO q loose XP YP l.row.toRowW d [] (fun f vs => PySem.call f vs) := by
  refine Att.attach_call hn hdf fun w s0 s mg mb fa o pm cd doc a us ns G Y ho hd hcd hmg scr hi h63 g0 => ?_
  have kin := hY w _ Y
  obtain ⟨fd, cs, tab, tk, co, bd, hF⟩ := F w mg fa _ Y kin G.T.g hmg
  have rv := vals_ints hi
  have hsz : ns.length ≤ sizeLine := Nat.le_trans h63 (by decide)
  have atT : ∀ b ∈ cs.map (·.2), s.heap.get? b = some { cls := .none, data := .fields #[] } := fun b hb => by
    obtain ⟨p, m, rfl⟩ := List.mem_map.mp hb
    exact tab p m
  have na : a ∉ cs.map (·.2) := fun z => by
    have e := (atT a z).symm.trans scr
    cases e
  have mem : ∀ p ∈ cs, p.2 ∈ cs.map (·.2) := fun p m => List.mem_map.mpr ⟨p, m, rfl⟩
  cases lk : (K w.params).lookup a with
  | some oa =>
    have e := kin a oa lk
    rw [scr] at e
    cases e
    obtain ⟨H, eH⟩ : ∃ H : Hp, H = fun b => if b ∈ cs.map (·.2) then some (.tbl #[]) else none := ⟨_, rfl⟩
    have hA : ∀ b ∈ cs.map (·.2), H b = some (.tbl #[]) := fun b hb => by rw [eH]; exact if_pos hb
    have hB : ∀ b, b ∉ cs.map (·.2) → H b = none := fun b hb => by rw [eH]; exact if_neg hb
    have hS : SqL (K w.params) H a (ns.map V.int) := .inr ⟨_, us.toArray, _, lk, rfl, rfl, rfl, by rw [List.size_toArray, hi.length]; exact hsz, by simpa using rv⟩
    refine lawT_head (cs := cs) ⟨fun b => ?_, fun z => absurd (hB a na) z, fun p m => hA _ (mem p m)⟩ (fun b u z => ?_) hS kin G.T.g G.T.b G.T.builtins G.T.nolimit g0 scr h63 hr tab tk co G.T.bmain hF bd
    · by_cases hb : b ∈ cs.map (·.2)
      · exact .inr (.inr ⟨hb, hA b hb⟩)
      · exact .inl (hB b hb)
    · by_cases hb : b ∈ cs.map (·.2)
      · rw [hA b hb] at z
        cases z
        exact atT b hb
      · rw [hB b hb] at z
        cases z
  | none =>
    obtain ⟨H, eH⟩ : ∃ H : Hp, H = fun b => if b = a then some (.frz { cls := .type "list", data := .seq us.toArray } (.lst (ns.map V.int))) else if b ∈ cs.map (·.2) then some (.tbl #[]) else none := ⟨_, rfl⟩
    have hA : H a = some (.frz { cls := .type "list", data := .seq us.toArray } (.lst (ns.map V.int))) := by rw [eH]; exact if_pos rfl
    have hT : ∀ b ∈ cs.map (·.2), H b = some (.tbl #[]) := fun b hb => by
      have ne : b ≠ a := fun z => na (z ▸ hb)
      rw [eH]
      exact (if_neg ne).trans (if_pos hb)
    have hB : ∀ b, b ≠ a → b ∉ cs.map (·.2) → H b = none := fun b h1 h2 => by
      rw [eH]
      exact (if_neg h1).trans (if_neg h2)
    refine lawT_head (cs := cs) ⟨fun b => ?_, fun _ => lk, fun p m => hT _ (mem p m)⟩ (fun b u z => ?_) (.inl (.inr ⟨_, hA⟩)) kin G.T.g G.T.b G.T.builtins G.T.nolimit g0 scr h63 hr tab tk co G.T.bmain hF bd
    · by_cases h1 : b = a
      · exact .inr (.inl ⟨h1, _, _, by rw [h1]; exact hA⟩)
      · by_cases h2 : b ∈ cs.map (·.2)
        · exact .inr (.inr ⟨h2, hT b h2⟩)
        · exact .inl (hB b h1 h2)
    · by_cases h1 : b = a
      · subst h1
        rw [hA] at z
        cases z
        exact ⟨scr, by rw [List.length_map]; exact hsz, us, _, rv, scr⟩
      · by_cases h2 : b ∈ cs.map (·.2)
        · rw [hT b h2] at z
          cases z
          exact atT b h2
        · rw [hB b h1 h2] at z
          cases z
end DL
namespace DL
open PySem PySem.Spec PyProof.Rows L2 NdefX LamX
structure ScN (N : List Str) : Prop where
  nd : N.Nodup
theorem tabOf_mk {K : PySem.W.Frag} {mg : Str → Option Value} {q : Str} {f c P : Addr} {fd : FuncData} {oc : Value} {od : Option Addr} {osl : Array (Option Value)} (hm : mg q = some (.ref f)) (lk : K.lookup f = some ⟨oc, od, .func fd, osl⟩) (hc : fd.code = .ref c) (hq : PySem.W.codeHdIn K c P = true) : TabOf K mg q P := fun f' c' fd' oc' od' osl' h1 h2 h3 => by
  rw [hm] at h1
  cases h1
  rw [lk] at h2
  cases h2
  rw [hc] at h3
  cases h3
  exact hq
def CalG (P : Program) (w : World) (K : PySem.W.Frag) (mg : Str → Option Value) (base : Heap) (k : Nat) (x : Str) (n : Nat) (den : Den) : Prop :=
  ∃ f fd ps, FnG P w K mg base (L2N.CX P w) k f fd ps (spD K mg n den) ∧ mg x = some (.ref f) ∧ PySem.W.keepIn K (.ref f) = true ∧ Binds K fd ps []
theorem CalG.call {X : Cx} {W : WB} {k k' n : Nat} {den : Den} {x : Str} {p pos : Pos} {e : Expr} {es : List Expr} {fa : DEx} (C : CalG X.prog X.w X.K X.mg X.base k x n den) (ag : X.A.guards = some []) (hr : Room k' X.A) (hk : k ≤ k') (hg : Gl X x) (tk : L2N.Takes X W)
    (ha : DAn X W (e :: es) fa) (hn : (e :: es).length = n := by rfl) (hdb : (x == ("__debug__" : Str)) = false := by decide) (he : starEach (e :: es) X.env = (false, eval e X.env) :: starEach es X.env := by rfl) (hpl : (backTo pos (starEach es X.env)).any (·.1) = false := by rfl) :
    DE X W (.Call (.Name x p) (e :: es) [] pos) (callD den fa) := by
  obtain ⟨f, fd, ps, F, hm, kp, hb⟩ := C
  obtain ⟨⟨t, pt, rt⟩, hl⟩ := ha
  refine ⟨_, pe_sem (W := W) hg hm kp tk pt hdb he hpl, fun w Q s q => ?_⟩
  refine rt.bind (P := OkR X.K (MGx X W.b) W w Q) s q (fun d ρ st n => by cases d <;> first | rfl | exact absurd rfl (n _)) (fun _ _ _ z => z) (fun z => z) fun w1 vs ds e1 a1 r1 ee q1 => ?_
  have l : vs.length = n := by
    obtain ⟨ds', e', l⟩ := hl _ _ _ _ _ ee
    cases e'
    rw [r1.len, l]; exact hn
  have sp := sp_at a1.s l r1 e1 (OkR.aft q1 a1 e1)
  intro pins s0 us I rv
  have hl2 := F.len _ _ _ _ sp
  refine F.at_ X.A ag (hr.mono hk) X.stack s0 w1.H ⟨us, []⟩ us vs Q _ I.env0 ?_ rv sp
  have := hb s0 us I.kIn (by rw [List.append_nil, ← rv.length]; exact hl2)
  rwa [List.append_nil] at this
theorem CalG.of {P : Program} {wd : World} {K : PySem.W.Frag} {mg : Str → Option Value} {base : Heap} {x : Str} {st : Stmt} {N ps : List Str} {k n m : Nat} {g : DSx} (Df : Dfn K mg x ps st) (S : FnScope N ps (defScope st)) (hn : n = N.length) (hm : m = ps.length)
    (hb : ∀ (f : Addr) (cdv : Value) (A : Around) (outer : List Env) (s : Shared) (H : Hp) (E : XK), A.guards = some [] → Room k (A.deeper (envOfC x (defScope st) s.heap.objs.size f cdv)) →
      DSs (cxOf (L2N.CX P wd) P wd K mg base N x (defScope st) f cdv A outer s H E) (WEx E) (defBody st) g) : CalG P wd K mg base (k + 1) x m (runD n g) := by
  obtain ⟨f, fd, F, hmg, hB⟩ := Df
  subst hm
  exact ⟨f, fd, ps, fn_DG (funV_of F) S hn (hb f), hmg, F.kp, hB⟩
theorem CalG.ofT {P : Program} {wd : World} {K : PySem.W.Frag} {mg : Str → Option Value} {base : Heap} {x : Str} {st : Stmt} {N ps : List Str} {k n m : Nat} {g : DSx} (TD : TabD K mg base x) (Df : Dfn K mg x ps st) (S : FnScope N ps (defScope st)) (hn : n = N.length) (hm : m = ps.length)
    (hb : ∀ (f c P' : Addr) (A : Around) (outer : List Env) (s : Shared) (H : Hp) (E : XK), TabAt (cxOf (L2N.CX P wd) P wd K mg base N x (defScope st) f (.ref c) A outer s H E) x c P' → A.guards = some [] → Room k (A.deeper (envOfC x (defScope st) s.heap.objs.size f (.ref c))) →
      DSs (cxOf (L2N.CX P wd) P wd K mg base N x (defScope st) f (.ref c) A outer s H E) (WEx E) (defBody st) g) : CalG P wd K mg base (k + 1) x m (runD n g) := by
  obtain ⟨f, fd, F, hmg, hB⟩ := Df
  subst hm
  exact ⟨f, fd, ps, fn_DTG TD hmg (funV_of F) S hn (hb f), hmg, F.kp, hB⟩
end DL
namespace DL
open PySem PySem.Spec PyProof.Rows L2
structure CMeth (K : PySem.W.Frag) (C f : Addr) (m : Str) : Prop where
  ga : PySem.W.specialIn K (.ref C) "__getattribute__" = some (some (.builtin "type.__getattribute__"))
  rd : PySem.W.readsIn K C (.type "type") = true
  fc : PySem.W.findCls K (.ref C) (.type "type") m = some (.val (.ref f))
  kp : PySem.W.keepIn K (.ref f) = true
def CCal (P : Program) (w : World) (K : PySem.W.Frag) (mg : Str → Option Value) (base : Heap) (k : Nat) (c m : Str) (n : Nat) (den : Den) : Prop :=
  ∃ C f fd ps, mg c = some (.ref C) ∧ CMeth K C f m ∧ FnOk P w K mg base (L2N.CX P w) k f fd ps (spD K mg n den) ∧ Binds K fd ps []
def Cfn (K : PySem.W.Frag) (mg : Str → Option Value) (c m qual : Str) (ps : List Str) (st : Stmt) : Prop := ∃ C f fd, mg c = some (.ref C) ∧ CMeth K C f m ∧ FunV K m qual st f fd ∧ Binds K fd ps []
theorem CCal.of {P : Program} {wd : World} {K : PySem.W.Frag} {mg : Str → Option Value} {base : Heap} {c m qual : Str} {st : Stmt} {N ps : List Str} {k n j : Nat} {g : DSx} (M : Cfn K mg c m qual ps st) (S : FnScope N ps (defScope st)) (hn : n = N.length) (hj : j = ps.length)
    (hb : ∀ (f : Addr) (cdv : Value) (A : Around) (outer : List Env) (s : Shared) (H : Hp) (E : XK), Room k (A.deeper (PyProof.Rows.envOfC qual (defScope st) s.heap.objs.size f cdv)) →
      DSs (cxOf (L2N.CX P wd) P wd K mg base N qual (defScope st) f cdv A outer s H E) (WEx E) (defBody st) g) : CCal P wd K mg base (k + 1) c m j (runD n g) := by
  obtain ⟨C, f, fd, h1, h2, h3, h4⟩ := M
  subst hj
  exact ⟨C, f, fd, ps, h1, h2, fn_D h3 S hn (hb f), h4⟩
theorem pe_csem {X : Cx} {W : WX} {C g : Addr} {c m : Str} {t : TA} {e : Expr} {es : List Expr} {p apos pos : Pos} {pl : Sem Bool} (hg : Gl X c) (hm : X.mg c = some (.ref C)) (M : CMeth X.K C g m) (tk : L2N.Takes X W) (ha : PA X (e :: es) t)
    (ht : eval (.Call (.Attribute (.Name c p) m apos) (e :: es) [] pos) X.env = (do let ov ← eval (.Name c p) X.env; standAt apos.atName; let (f, first) ← holding [ov] (getMethod ov m pl); callWith pos f first (backTo pos (starEach (e :: es) X.env)) (backToKw pos (keywordEach [] X.env))) := by rfl)
    (hdb : (c == ("__debug__" : Str)) = false := by decide) (he : starEach (e :: es) X.env = (false, eval e X.env) :: starEach es X.env := by rfl) (hpl : (backTo pos (starEach es X.env)).any (·.1) = false := by rfl) : PE X (.Call (.Attribute (.Name c p) m apos) (e :: es) [] pos) (tSem X W g t) := by
  refine ⟨fun pins s σ H Q I z => ?_⟩
  refine PySem.W.methodCall_KW (pl := pl) (ld_glob I hg hm ?_ hdb) ht
  refine PySem.W.method_cls I.kIn M.ga (PySem.W.cls_value I.kIn M.rd M.fc (by rfl) ?_)
  have A := ha.run pos pins { s with toks := s.toks + 1 } σ H _ (I.tok _) z
  exact PySem.W.callWith_K (h₀ := X.base) I.ok.mod.kin M.kp (thn A fun us s1 ⟨vs, H1, I1, r, q⟩ => ⟨I1.kIn, clo_ends tk I1 (q pins s1 us I1 r)⟩) he hpl
theorem CCal.call {X : Cx} {W : WB} {k k' n : Nat} {den : Den} {c m : Str} {p apos pos : Pos} {e : Expr} {es : List Expr} {fa : DEx} {pl : Sem Bool} (M : CCal X.prog X.w X.K X.mg X.base k c m n den) (hr : Room k' X.A) (hk : k ≤ k') (hg : Gl X c) (tk : L2N.Takes X W)
    (ha : DAn X W (e :: es) fa) (hn : (e :: es).length = n := by rfl)
    (ht : eval (.Call (.Attribute (.Name c p) m apos) (e :: es) [] pos) X.env = (do let ov ← eval (.Name c p) X.env; standAt apos.atName; let (f, first) ← holding [ov] (getMethod ov m pl); callWith pos f first (backTo pos (starEach (e :: es) X.env)) (backToKw pos (keywordEach [] X.env))) := by rfl)
    (hdb : (c == ("__debug__" : Str)) = false := by decide) (he : starEach (e :: es) X.env = (false, eval e X.env) :: starEach es X.env := by rfl) (hpl : (backTo pos (starEach es X.env)).any (·.1) = false := by rfl) :
    DE X W (.Call (.Attribute (.Name c p) m apos) (e :: es) [] pos) (callD den fa) := by
  obtain ⟨C, f, fd, ps, hm, M, F, hb⟩ := M
  obtain ⟨⟨t, pt, rt⟩, hl⟩ := ha
  refine ⟨_, pe_csem (W := W) (pl := pl) hg hm M tk pt ht hdb he hpl, fun w Q s q => ?_⟩
  refine rt.bind (P := OkR X.K (MGx X W.b) W w Q) s q (fun d ρ st n => by cases d <;> first | rfl | exact absurd rfl (n _)) (fun _ _ _ z => z) (fun z => z) fun w1 vs ds e1 a1 r1 ee q1 => ?_
  have l : vs.length = n := by
    obtain ⟨ds', e', l⟩ := hl _ _ _ _ _ ee
    cases e'
    rw [r1.len, l]; exact hn
  have sp := sp_at a1.s l r1 e1 (OkR.aft q1 a1 e1)
  intro pins s0 us I rv
  have hl2 := F.len _ _ _ _ sp
  refine F.run X.A X.stack s0 w1.H ⟨us, []⟩ us vs Q _ (hr.mono hk) I.env0 ?_ rv sp
  have := hb s0 us I.kIn (by rw [List.append_nil, ← rv.length]; exact hl2)
  rwa [List.append_nil] at this
end DL
namespace DL
open PySem PySem.Spec PyProof.Rows L2
section
variable {X : Cx} {W : WB} {a b e o x : Expr} {f g h : DEx} {pos apos cpos p : Pos}
def dropKD (kvs : List (Key × D)) (k : Key) : List (Key × D) := kvs.filter fun kv => decide (kv.1 ≠ k)
theorem RepK.drop {K : PySem.W.Frag} {mg : MG} {G : Hp} {ι : List Addr} {k : Key} : ∀ {vs : List (Key × V)} {ds : List (Key × D)}, RepK K mg G ι vs ds → RepK K mg G ι (dropK vs k) (dropKD ds k)
  | _, _, .nil => .nil
  | _, _, .cons (k := k') r1 r2 => by
    unfold dropK dropKD
    by_cases h : k' = k
    · rw [List.filter_cons_of_neg (by simp [h]), List.filter_cons_of_neg (by simp [h])]
      exact RepK.drop r2
    · rw [List.filter_cons_of_pos (by simp [h]), List.filter_cons_of_pos (by simp [h])]
      exact .cons r1 (RepK.drop r2)
theorem RefE.bindOd {K : PySem.W.Frag} {mg : MG} {t : TE} (hr : RefE K mg W t f) {w : Ws} {Q : VK} {Q1 : VK} {r : D → En → Store → R} (s : Sts K mg w) (q : OkOd K mg W w Q ((f w.ρ w.st).bind r))
    (k : ∀ w1 v d, Sts K mg w1 → w1.σ = w.σ → Aft K mg w w1 → Rep K mg w1.G w1.ι v d → OkOd K mg W w Q (r d w1.ρ w1.st) → Q1 v w1.H) : t w.σ w.H Q1 := by
  refine hr w _ s ?_
  cases e : f w.ρ w.st with
  | ok d ρ st =>
    rw [e] at q
    intro w1 v h1 h2 h3 A rv
    subst h1; subst h2
    exact k w1 v d A.s h3 A rv q
  | exc c ρ st => rw [e] at q; exact q
  | bad => rw [e] at q; exact q
theorem OkOd.mk {K : PySem.W.Frag} {mg : MG} {w w1 : Ws} {Q : VK} {ds : List (Key × D)} {vs : List (Key × V)} {p : Addr} (A : Aft K mg w w1) (e1 : w1.σ = w.σ) (hp : w1.H p = none) (r : RepK K mg w1.G w1.ι vs ds)
    (q : OkOd K mg W w Q (.ok (.dct ds) w1.ρ w1.st)) : Q (.ref p) (upd w1.H p (.dK vs)) :=
  q { w1 with H := upd w1.H p (.dK vs) } p vs rfl rfl e1 (A.trans (Aft.loose A.s hp)) (A.al p hp) (A.s.looseAt hp) upd_same r
theorem Aft.grow {K : PySem.W.Frag} {mg : MG} {w : Ws} (s : Sts K mg w) {H1 : Hp} {S : Addr → Prop} [DecidablePred S] (hx : ∀ b o, w.H b = some o → H1 b = some o) (hS : ∀ a, S a → w.H a = none) : Aft K mg w { w with H := H1, G := fun b => if S b then H1 b else w.G b } where
  s := s.heap (G' := fun b => if S b then H1 b else w.G b) (H' := H1) (fun b u e => by
      have n : ¬ S b := fun z => by have := s.sub _ _ e; rw [hS b z] at this; cases this
      show (if S b then H1 b else w.G b) = some u
      rw [if_neg n]; exact e) (fun b u e => by
      have e' : (if S b then H1 b else w.G b) = some u := e
      by_cases z : S b
      · rwa [if_pos z] at e'
      · rw [if_neg z] at e'; exact hx _ _ (s.sub _ _ e')) fun b m => ⟨by
      have n : ¬ S b := fun z => by obtain ⟨o, ho⟩ := s.mtH m; rw [hS b z] at ho; cases ho
      show (if S b then H1 b else w.G b) = none
      rw [if_neg n]; exact s.mtG m, fun u e => hx _ _ e⟩
  g := fun b u e => by
    have n : ¬ S b := fun z => by have := s.sub _ _ e; rw [hS b z] at this; cases this
    show (if S b then H1 b else w.G b) = some u
    rw [if_neg n]; exact e
  i := LeI.refl _
  kp := fun a u h _ => hx _ _ h
  nw := fun a h => .inl h
  gn := fun b h => by
    have h' : (if S b then H1 b else w.G b) ≠ none := h
    by_cases z : S b
    · exact .inr (.inr (hS b z))
    · rw [if_neg z] at h'; exact .inl h'
  al := fun a h => by
    cases e : w.H a with
    | none => rfl
    | some u => have := hx _ _ e; rw [show H1 a = none from h] at this; cases this
end
section
variable {P : Program} {wd : World} {K : PySem.W.Frag} {mg : Str → Option Value} {base : Heap} {k n j : Nat} {x y : Str} {den : Den} {dds : List D} {ks : List Str} {v : Value}
end
end DL
namespace DL
open PySem PySem.Spec PyProof.Rows L2
end DL
namespace DL
open PySem PySem.Spec PyProof.Rows L2
section
variable {P : Program} {wd : World} {κ : Type} [DecidableEq κ] {knd : KeyKind P wd κ} {A : Around} {E : Value → Shared → Prop} {J : Shared → Prop}
inductive HitsJ (P : Program) (wd : World) {κ : Type} [DecidableEq κ] (A : Around) (E : Value → Shared → Prop) (J : Shared → Prop) (kb : List (κ × Value)) : List (κ × Value) → Bool → Prop
  | nil : HitsJ P wd A E J kb [] true
  | miss {k : κ} {v : Value} {r : List (κ × Value)} : valueAt kb k = none → HitsJ P wd A E J kb ((k, v) :: r) false
  | hit {k : κ} {v y : Value} {r : List (κ × Value)} {e b : Bool} : valueAt kb k = some y → (∀ t, J t → wpAny (model P wd) A (eqBool v y) (fun z t' => z = e ∧ J t') E t) → HitsJ P wd A E J kb r b → HitsJ P wd A E J kb ((k, v) :: r) (e && b)
end
section
variable {X : Cx} {CX : CXT} {k : Nat} {f C : Addr} {fd : FuncData} {ps : List Str} {sp : Sp} {E : XK}
end
section
variable {X : Cx} {pins : List (Addr × Obj)} {σ : L2.St} {H G : Hp} {s : Shared} {mg : MG} {ι : List Addr}
end
section
variable {K : PySem.W.Frag} {mg : MG} {G : Hp} {ι : List Addr}
end
section
variable {X : Cx} {E : XK} {b : Low} {k k' : Nat} {den : Den} {c : Str} {e e2 : Expr} {g h : DEx} {pos : Pos}
end
end DL
namespace DL
open PySem PySem.Spec PyProof.Rows L2
section
variable {K : PySem.W.Frag} {mg : MG} {G G' : Hp} {ι ι' : List Addr}
end
end DL
namespace DL
open PySem PySem.W PySem.Calls PyProof.Rows
section
variable {prog : Program} {w : World} {A : Around} {E : Value → Shared → Prop} {s : Shared}
end
end DL
namespace DL
open PySem L2
section
variable {X : Cx} {W : WB} {e : Expr} {f : DEx} {p pos : Pos}
end
end DL
namespace DL
open PySem PySem.Spec PyProof.Rows L2 PySem.W
end DL
namespace DL
open PySem PySem.Spec PyProof.Rows L2 PySem.Froz
def SetT (P : Program) (w : World) (h : Heap) (a : Addr) (l : List Str) : Prop :=
  ∃ D : SD, h.get? a = some (sObj "set" D) ∧ TxOk P w D l ∧ l.Nodup ∧ Ris D.2.2.place.toList ∧ (w.params.followText "set-order" = true ∨ D.2.2.led = true)
theorem SetT.at {P : Program} {w : World} {h h' : Heap} {a : Addr} {l : List Str} (R : SetT P w h a l) (k : ∀ o, h.get? a = some o → h'.get? a = some o) : SetT P w h' a l := let ⟨D, e, r⟩ := R; ⟨D, k _ e, r⟩
theorem setT_new {P : Program} {w : World} {h : Heap} {a : Addr} (ho : h.get? a = some { cls := .type "set", dict := none, data := .set #[] 0 (.fresh 0 0 (!w.params.followText "set-order")) }) : SetT P w h a [] :=
  ⟨(#[], 0, .fresh 0 0 (!w.params.followText "set-order")), ho, TxOk.nil (by rfl), List.nodup_nil, List.Pairwise.nil, by
    show _ ∨ (!w.params.followText "set-order") = true
    cases w.params.followText "set-order"
    · exact .inr rfl
    · exact .inl rfl⟩
theorem tail_ris {ep : Nat} {es1 : Array (Int × Value)} {t2 : SetTable} {wd : Bool} (r : Ris t2.place.toList) : Ris (tailTx ep es1 t2 wd).2.2.place.toList := by
  unfold tailTx
  by_cases c : (!wd && t2.tooFull) = true
  · rw [if_pos c]; exact relayAll_ris _ _ _
  · rw [if_neg c]; exact r
theorem tail_led {ep : Nat} {es1 : Array (Int × Value)} {t2 : SetTable} {wd : Bool} : (tailTx ep es1 t2 wd).2.2.led = t2.led := by
  unfold tailTx
  by_cases c : (!wd && t2.tooFull) = true
  · rw [if_pos c]; exact relayAll_led _ _ _
  · rw [if_neg c]
theorem add_ris {h : Int} {v : Value} {D : SD} (r : Ris D.2.2.place.toList) : Ris (addTx h v D).2.2.place.toList := by
  have h1 := layNew_ris D.2.2 D.1 h v r
  refine tail_ris ?_
  by_cases c : (layNew D.2.2 D.1 h v).2.1.plain = true
  · rw [if_pos c]; exact h1
  · rw [if_neg c]; exact h1
theorem add_led {h : Int} {v : Value} {D : SD} : (addTx h v D).2.2.led = D.2.2.led := by
  have h1 := layNew_led D.2.2 D.1 h v
  refine tail_led.trans ?_
  by_cases c : (layNew D.2.2 D.1 h v).2.1.plain = true
  · rw [if_pos c]; exact h1
  · rw [if_neg c]; exact h1
section
variable {P : Program} {w : World} {A : Around} {E : Value → Shared → Prop} {s : Shared} {a : Addr}
theorem setT_add {l : List Str} {k : Str} {u : Tok} {Q : Bool → Shared → Prop} (R : SetT P w s.heap a l) (room : l.length + 1 < scanBound)
    (hQ : ∀ h' b l', Heap.SameBut a s.heap h' → SetT P w h' a l' → (∀ x, x ∈ l' ↔ x ∈ l ∨ x = k) → l'.length ≤ l.length + 1 → Q b { s with heap := h' }) : wpAny (model P w) A (setAddHashed a (.str k u) (hashStr w k)) Q E s := by
  obtain ⟨D, ho, F, nd, hr, hl⟩ := R
  by_cases hk : k ∈ l
  · obtain ⟨es, ep, t⟩ := D
    have hd : (sObj "set" (es, ep, t)).data = .set es ep t := rfl
    have hsz : es.size = l.length := F.sz
    have hb0 : es.size < scanBound := by omega
    have hkey : (strKind P w).is k (.str k u) = true := is_str k u
    unfold setAddHashed setAddHashedIn
    refine wpAny_holding (wpAny_bind (wpAny_setState_of ho hd F.fit ?_))
    dsimp only
    rw [byScan_of rfl hb0 F.el]
    simp only [↓reduceIte]
    unfold setAddByScan
    refine wpAny_bind ?_
    refine wpAny_bind (wpAny_rule ?_)
    refine wpAny_bind (wpAny_setScan_of (knd := strKind P w) (k := k) hkey ho hd F.fit F.el ?_)
    cases hfi : List.findIdx? (fun e => (strKind P w).is k e.2) es.toList with
    | some j =>
      dsimp only
      refine wpAny_pure (wpAny_pure ?_)
      exact hQ s.heap _ l (Heap.SameBut.refl a s.heap) ⟨(es, ep, t), ho, F, nd, hr, hl⟩ (fun x => ⟨.inl, fun h => h.elim id fun e => e ▸ hk⟩) (Nat.le_succ _)
    | none =>
      obtain ⟨e, he, q⟩ := (F.mem k).mp hk
      have c := List.findIdx?_eq_none_iff.mp hfi e he
      rw [q] at c
      cases c
  · refine add_x ho F hk room ?_
    refine hQ _ _ (k :: l) (Heap.SameBut.update s.heap a _) ⟨_, get_upd _ ho rfl, add_ok u F, List.nodup_cons.mpr ⟨hk, nd⟩, add_ris hr, hl.imp id fun z => by rw [add_led]; exact z⟩ (fun x => by rw [List.mem_cons]; exact Or.comm) (by simp)
theorem set_update_texts {I : Addr} {fp wr : List Addr} {G : Array GenState → Array GenState → Prop} {n : Nat} {Pv : Nat → Value → Prop} {St : Nat → Shared → Prop} {R : Result → Shared → Prop}
    (W : WalksS P w A.in1 I fp wr G n Pv St) (S : Addr) (hSf : S ∉ fp) (xs : List Str) (hn : n = xs.length) (hb : xs.length + 1 < scanBound) (hval : ∀ i v, Pv i v → ∃ k t, xs[i]? = some k ∧ v = .str k t) :
    ∀ (k i : Nat) (s : Shared), n - i = k → i ≤ n → St i s → (∃ l, SetT P w s.heap S l ∧ l.length ≤ i ∧ ∀ x, x ∈ l ↔ x ∈ xs.take i) →
      (∀ s' l, Moved (S :: wr) G s s' → SetT P w s'.heap S l → l.length ≤ n → (∀ x, x ∈ l ↔ x ∈ xs) → R (.ok (.ret .none)) s') →
      codeAny (model P w) A (.builtin "set.update.loop" ⟨[.ref S, .ref I], []⟩) R s := by
  have hSw : S ∉ wr := fun h => hSf (W.sub _ h)
  have hsub : ∀ b ∈ wr, b ∈ S :: wr := fun b hb => List.mem_cons_of_mem _ hb
  intro k
  induction k with
  | zero =>
    intro i s hk' hi hst ⟨l, hS, hll, hm0⟩ hR
    have hin : i = n := by omega
    subst hin
    refine codeAny_builtin F.entry_set_update_loop ?_
    rw [Around.under_plainId F.plain_set_update_loop _]
    show wpAny _ A.in1 (pyNext (.ref I) >>= _) _ _ s
    refine wpAny_bind (W.done s _ _ hst fun s' hm => ?_)
    show wpAny _ A.in1 (ret Value.none) _ _ s'
    have e : xs.take i = xs := List.take_of_length_le (by omega)
    rw [e] at hm0
    exact wpAny_pure (hR s' l (hm.mono hsub) (hS.at fun o e => hm.heap S o hSw e) hll hm0)
  | succ k ih =>
    intro i s hk' hi hst ⟨l, hS, hll, hm0⟩ hR
    have hlt : i < n := by omega
    refine codeAny_builtin F.entry_set_update_loop ?_
    rw [Around.under_plainId F.plain_set_update_loop _]
    show wpAny _ A.in1 (pyNext (.ref I) >>= _) _ _ s
    refine wpAny_bind (W.item i s _ _ hlt hst fun v s' hP hst' hm => ?_)
    obtain ⟨z, t, hz, rfl⟩ := hval i v hP
    have hS' : SetT P w s'.heap S l := hS.at fun o e => hm.heap S o hSw e
    show wpAny _ A.in1 (holding [Value.str z t] (setAdd S (.str z t)) >>= _) _ _ s'
    refine wpAny_bind (wpAny_holding ?_)
    unfold setAdd
    refine wpAny_holding ?_
    refine wpAny_bind ((strKind P w).pyHash (k := z) (is_str z t) ?_)
    refine setT_add (s := { s' with toks := s'.toks + 1 }) hS' (by omega) fun h' b l' hsb hS2 hm2 hl2 => ?_
    have hm3 : ∀ x, x ∈ l' ↔ x ∈ xs.take (i + 1) := fun x => by
      rw [List.take_add_one, hz, hm2 x, hm0 x]
      simp [List.mem_append]
    refine wpAny_pure ⟨plainId_quiet F.plain_set_update_loop _, ih (i + 1) _ (by omega) hlt (W.frame _ s' _ _ hst' (Nat.le_succ _) fun b hb o e => ?_) ⟨l', hS2, by omega, hm3⟩ fun s'' l2 hm'' hS'' hl'' hx'' => ?_⟩
    · rw [hsb.2 b (fun h : b = S => hSf (by rw [← h]; exact hb))]; exact e
    · refine hR s'' l2 (Moved.trans W.gtrans ((hm.mono hsub).then_heap (Nat.le_succ _) fun b o hb e => ?_) hm'') hS'' hl'' hx''
      rw [hsb.2 b (fun h : b = S => hb (by rw [h]; exact List.mem_cons_self))]; exact e
end
end DL
namespace DL
open PySem PySem.Spec PyProof.Rows L2 PySem.Froz
abbrev nS (w : World) : Obj := { cls := .type "set", dict := none, data := .set #[] 0 (.fresh 0 0 (!w.params.followText "set-order")) }
section
variable {P : Program} {w : World} {A : Around} {E : Value → Shared → Prop} {s : Shared}
set_option maxHeartbeats 3200000 in
theorem call_setT_list {l : Addr} {items : Array Value} (xs : List Str) {Q : Value → Shared → Prop} (hh : A.handled = none) (hl : s.heap.IsList l items) (hit : StrsAre items.toList xs) (hb : xs.length + 1 < scanBound)
    (h : ∀ (h' : Heap) (tk : Nat) (ys : List Str), SetT P w h' s.heap.objs.size ys → ys.length ≤ xs.length → (∀ x, x ∈ ys ↔ x ∈ xs) → (∀ b o, s.heap.get? b = some o → h'.get? b = some o) → Q (.ref s.heap.objs.size) { s with heap := h', toks := tk }) :
    wpAny (model P w) A (call (.type "set") [.ref l]) Q E s := by
  have hisz : xs.length = items.size := by rw [← StrsAre.len_eq hit, Array.length_toList]
  obtain ⟨c, tl, hmro⟩ := PySem.F.called_set.mro
  have hmade := PySem.F.called_set.made
  have hsub := PySem.F.called_set.sub
  refine wpAny_call (codeAny_of_tree ?_)
  show wpAny _ _ (callAny (.type "set") _) _ _ _
  refine wpAny_pure ⟨Code.quiet_builtin _ (by decide +kernel), codeAny_builtin PySem.F.entry_type_call ?_⟩
  rw [Around.under_plain (weight_type_call_type "set" [.ref l] []) rfl]
  have h1 := PySem.F.called_set.notType
  have h2 := PySem.F.called_set.canCreate
  have hct := PySem.F.typeCall_set_1 (.ref l)
  repeat (any_goals (first | assumption | wp_step))
  refine codeAny_mono (code_set_led1 (.ref l) (E := E) (Q₁ := fun obj s₁ => obj = .ref s.heap.objs.size ∧ s₁ = { s with heap := s.heap.push (nS w) }) ⟨rfl, rfl⟩) fun r s₁ hr => ?_
  cases r with
  | error e => exact hr
  | ok fl =>
    cases fl with
    | ret obj =>
      obtain ⟨rfl, rfl⟩ := hr
      have hS : (s.heap.push (nS w)).get? s.heap.objs.size = some (nS w) := Heap.get?_push_size _ rfl
      have hT : Shared.TypeIs { s with heap := s.heap.push (nS w) } (.ref s.heap.objs.size) "set" := ⟨_, hS, rfl⟩
      have hli := PySem.F.called_set.init.lookup
      have hbi := PySem.F.called_set.init.bind (.ref s.heap.objs.size)
      repeat (any_goals (first | assumption | wp_step))
      refine codeAny_mono (codeAny_call_builtin (R := wants (fun r s₂ => r = .none ∧ ∃ h' tk ys, s₂ = { s with heap := h', toks := tk } ∧ SetT P w h' s.heap.objs.size ys ∧ ys.length ≤ xs.length ∧ (∀ x, x ∈ ys ↔ x ∈ xs) ∧
          (∀ b o, s.heap.get? b = some o → h'.get? b = some o)) E) PySem.F.called_set.init.plain PySem.F.entry_set_init (check_set_init_1 hT ?_)) fun r₂ s₂ hr₂ => ?_
      · obtain ⟨ol, hol, hcl, nl, hdl⟩ := hl
        obtain ⟨ocls, odict, odata, oslots⟩ := ol
        simp only at hcl hdl
        subst hcl; subst hdl
        have hol' : (s.heap.push (nS w)).get? l = some { cls := .type "list", dict := odict, data := .seq items nl, slots := oslots } := Heap.get?_push_of_some _ hol
        have hsls := PySem.F.sub_list_set
        have hslf := PySem.F.sub_list_frozenset
        have hne : (Value.type "list" == Value.type "dict") = false := by decide
        have hl1 : (s.heap.push (nS w)).IsList l items := ⟨_, hol', rfl, nl, rfl⟩
        unfold Builtin.«set.__init__» noKeywords Builtin.Frozenset.updateFrom
        generalize hPI : pyIter = PI
        wp_walk
        subst hPI
        refine wpAny_pyIter_list hl1 ?_
        refine wpAny_bind (wpAny_runValue ?_)
        have hlS : l < s.heap.objs.size := Heap.lt_size hol
        have hh3 : A.in1.in1.in1.handled = none := by simp [hh]
        have hneI : l ≠ (s.heap.push (nS w)).objs.size := by
          rw [Heap.size_push]; exact Nat.ne_of_lt (Nat.lt_succ_of_lt hlS)
        have hSf : s.heap.objs.size ∉ [(s.heap.push (nS w)).objs.size, l] := by
          rw [Heap.size_push]; simp only [List.mem_cons, List.mem_singleton, List.not_mem_nil, or_false, not_or]
          exact ⟨Nat.ne_of_lt (Nat.lt_succ_self _), Nat.ne_of_gt hlS⟩
        have hval : ∀ (i : Nat) (v : Value), items[i]? = some v → ∃ k t, xs[i]? = some k ∧ v = .str k t := fun i v hv => by
          have hi : i < xs.length := by rw [hisz]; exact (Array.getElem?_eq_some_iff.mp hv).1
          obtain ⟨t, e⟩ := SS.strs_at hit i v (by rw [Array.getElem?_toList]; exact hv)
          refine ⟨xs[i], t, List.getElem?_eq_getElem hi, ?_⟩
          rw [e, List.getD_eq_getElem?_getD, List.getElem?_eq_getElem hi] <;> rfl
        refine set_update_texts ((Walks.list hh3 _ l hneI items).toS) s.heap.objs.size
          hSf xs hisz.symm hb hval (items.size - 0) 0 _ (by omega) (Nat.zero_le _)
          ⟨⟨_, Heap.get?_push_size _ rfl, rfl, rfl⟩, (hl1.push _)⟩ ?hS0 ?hR
        case hS0 => exact ⟨[], setT_new (Heap.get?_push_of_some _ hS), Nat.le_refl 0, fun x => by simp⟩
        case hR =>
          intro s' ys hm hS' hl' hx'
          obtain ⟨h', g2, d', tk', os'⟩ := s'
          have eg : g2 = s.gens := hm.gens
          have ed : d' = s.drawn := hm.drawn
          have eo : os' = s.os := hm.os
          subst eg; subst ed; subst eo
          show wpAny _ _ _ _ _ _
          refine wpAny_pure ?_
          show wpAny _ _ (ret Value.none) _ _ _
          refine wpAny_pure ⟨rfl, h', tk', ys, rfl, hS', by omega, hx', fun b o e => ?_⟩
          have hb0 : b < s.heap.objs.size := Heap.lt_size e
          have hb1 : b ≠ s.heap.objs.size := Nat.ne_of_lt hb0
          have hb2 : b ≠ (s.heap.push (nS w)).objs.size := by
            rw [Heap.size_push]; exact Nat.ne_of_lt (Nat.lt_succ_of_lt hb0)
          exact hm.heap b o (by simp only [List.mem_cons, List.mem_singleton, List.not_mem_nil, or_false, not_or]; exact ⟨hb1, hb2⟩) (Heap.get?_push_of_some _ (Heap.get?_push_of_some _ e))
      · cases r₂ with
        | error e => exact hr₂
        | ok fl₂ =>
          cases fl₂ with
          | ret r =>
            obtain ⟨rfl, h', tk, ys, rfl, hS', hl', hx', hk'⟩ := hr₂
            repeat (any_goals (first | assumption | wp_step))
            exact h _ _ _ hS' hl' hx' hk'
          | _ => exact hr₂.elim
    | _ => exact hr.elim
set_option maxHeartbeats 3200000 in
theorem call_setT_tuple {l : Addr} {items : Array Value} (xs : List Str) {Q : Value → Shared → Prop} (hh : A.handled = none) (hl : s.heap.IsTuple l items) (hit : StrsAre items.toList xs) (hb : xs.length + 1 < scanBound)
    (h : ∀ (h' : Heap) (tk : Nat) (ys : List Str), SetT P w h' s.heap.objs.size ys → ys.length ≤ xs.length → (∀ x, x ∈ ys ↔ x ∈ xs) → (∀ b o, s.heap.get? b = some o → h'.get? b = some o) → Q (.ref s.heap.objs.size) { s with heap := h', toks := tk }) :
    wpAny (model P w) A (call (.type "set") [.ref l]) Q E s := by
  have hisz : xs.length = items.size := by rw [← StrsAre.len_eq hit, Array.length_toList]
  obtain ⟨c, tl, hmro⟩ := PySem.F.called_set.mro
  have hmade := PySem.F.called_set.made
  have hsub := PySem.F.called_set.sub
  refine wpAny_call (codeAny_of_tree ?_)
  show wpAny _ _ (callAny (.type "set") _) _ _ _
  refine wpAny_pure ⟨Code.quiet_builtin _ (by decide +kernel), codeAny_builtin PySem.F.entry_type_call ?_⟩
  rw [Around.under_plain (weight_type_call_type "set" [.ref l] []) rfl]
  have h1 := PySem.F.called_set.notType
  have h2 := PySem.F.called_set.canCreate
  have hct := PySem.F.typeCall_set_1 (.ref l)
  repeat (any_goals (first | assumption | wp_step))
  refine codeAny_mono (code_set_led1 (.ref l) (E := E) (Q₁ := fun obj s₁ => obj = .ref s.heap.objs.size ∧ s₁ = { s with heap := s.heap.push (nS w) }) ⟨rfl, rfl⟩) fun r s₁ hr => ?_
  cases r with
  | error e => exact hr
  | ok fl =>
    cases fl with
    | ret obj =>
      obtain ⟨rfl, rfl⟩ := hr
      have hS : (s.heap.push (nS w)).get? s.heap.objs.size = some (nS w) := Heap.get?_push_size _ rfl
      have hT : Shared.TypeIs { s with heap := s.heap.push (nS w) } (.ref s.heap.objs.size) "set" := ⟨_, hS, rfl⟩
      have hli := PySem.F.called_set.init.lookup
      have hbi := PySem.F.called_set.init.bind (.ref s.heap.objs.size)
      repeat (any_goals (first | assumption | wp_step))
      refine codeAny_mono (codeAny_call_builtin (R := wants (fun r s₂ => r = .none ∧ ∃ h' tk ys, s₂ = { s with heap := h', toks := tk } ∧ SetT P w h' s.heap.objs.size ys ∧ ys.length ≤ xs.length ∧ (∀ x, x ∈ ys ↔ x ∈ xs) ∧
          (∀ b o, s.heap.get? b = some o → h'.get? b = some o)) E) PySem.F.called_set.init.plain PySem.F.entry_set_init (check_set_init_1 hT ?_)) fun r₂ s₂ hr₂ => ?_
      · obtain ⟨ol, hol, hcl, nl, hdl⟩ := hl
        obtain ⟨ocls, odict, odata, oslots⟩ := ol
        simp only at hcl hdl
        subst hcl; subst hdl
        have hol' : (s.heap.push (nS w)).get? l = some { cls := .type "tuple", dict := odict, data := .seq items nl, slots := oslots } := Heap.get?_push_of_some _ hol
        have hsls := PySem.F.sub_tuple_set
        have hslf := PySem.F.sub_tuple_frozenset
        have hne : (Value.type "tuple" == Value.type "dict") = false := by decide
        have hl1 : (s.heap.push (nS w)).IsTuple l items := ⟨_, hol', rfl, nl, rfl⟩
        unfold Builtin.«set.__init__» noKeywords Builtin.Frozenset.updateFrom
        generalize hPI : pyIter = PI
        wp_walk
        subst hPI
        refine wpAny_pyIter_tuple hl1 ?_
        refine wpAny_bind (wpAny_runValue ?_)
        have hlS : l < s.heap.objs.size := Heap.lt_size hol
        have hh3 : A.in1.in1.in1.handled = none := by simp [hh]
        have hneI : l ≠ (s.heap.push (nS w)).objs.size := by
          rw [Heap.size_push]; exact Nat.ne_of_lt (Nat.lt_succ_of_lt hlS)
        have hSf : s.heap.objs.size ∉ [(s.heap.push (nS w)).objs.size, l] := by
          rw [Heap.size_push]; simp only [List.mem_cons, List.mem_singleton, List.not_mem_nil, or_false, not_or]
          exact ⟨Nat.ne_of_lt (Nat.lt_succ_self _), Nat.ne_of_gt hlS⟩
        have hval : ∀ (i : Nat) (v : Value), items[i]? = some v → ∃ k t, xs[i]? = some k ∧ v = .str k t := fun i v hv => by
          have hi : i < xs.length := by rw [hisz]; exact (Array.getElem?_eq_some_iff.mp hv).1
          obtain ⟨t, e⟩ := SS.strs_at hit i v (by rw [Array.getElem?_toList]; exact hv)
          refine ⟨xs[i], t, List.getElem?_eq_getElem hi, ?_⟩
          rw [e, List.getD_eq_getElem?_getD, List.getElem?_eq_getElem hi] <;> rfl
        refine set_update_texts ((Walks.tuple hh3 _ l hneI items).toS) s.heap.objs.size
          hSf xs hisz.symm hb hval (items.size - 0) 0 _ (by omega) (Nat.zero_le _)
          ⟨⟨_, Heap.get?_push_size _ rfl, rfl, rfl⟩, (hl1.push _)⟩ ?hS0 ?hR
        case hS0 => exact ⟨[], setT_new (Heap.get?_push_of_some _ hS), Nat.le_refl 0, fun x => by simp⟩
        case hR =>
          intro s' ys hm hS' hl' hx'
          obtain ⟨h', g2, d', tk', os'⟩ := s'
          have eg : g2 = s.gens := hm.gens
          have ed : d' = s.drawn := hm.drawn
          have eo : os' = s.os := hm.os
          subst eg; subst ed; subst eo
          show wpAny _ _ _ _ _ _
          refine wpAny_pure ?_
          show wpAny _ _ (ret Value.none) _ _ _
          refine wpAny_pure ⟨rfl, h', tk', ys, rfl, hS', by omega, hx', fun b o e => ?_⟩
          have hb0 : b < s.heap.objs.size := Heap.lt_size e
          have hb1 : b ≠ s.heap.objs.size := Nat.ne_of_lt hb0
          have hb2 : b ≠ (s.heap.push (nS w)).objs.size := by
            rw [Heap.size_push]; exact Nat.ne_of_lt (Nat.lt_succ_of_lt hb0)
          exact hm.heap b o (by simp only [List.mem_cons, List.mem_singleton, List.not_mem_nil, or_false, not_or]; exact ⟨hb1, hb2⟩) (Heap.get?_push_of_some _ (Heap.get?_push_of_some _ e))
      · cases r₂ with
        | error e => exact hr₂
        | ok fl₂ =>
          cases fl₂ with
          | ret r =>
            obtain ⟨rfl, h', tk, ys, rfl, hS', hl', hx', hk'⟩ := hr₂
            repeat (any_goals (first | assumption | wp_step))
            exact h _ _ _ hS' hl' hx' hk'
          | _ => exact hr₂.elim
    | _ => exact hr.elim
end
end DL
namespace DL
open PySem PySem.Spec PyProof.Rows L2 PySem.Froz
theorem sLe_cps (p x : Str) : sLe p x = !ltCps x.cps.toList p.cps.toList := by
  show (!PyProof.Rows.lexLt PyProof.Rows.itemOrd [.inr x.cps.toList] [.inr p.cps.toList]) = _
  congr 1
  show PyProof.Rows.lexLt PyProof.Rows.itemOrd [.inr x.cps.toList] [.inr p.cps.toList] = ltCps x.cps.toList p.cps.toList
  rw [ltCps_eq]
  have h1 : itemLt (.inr x.cps.toList) (.inr p.cps.toList) = decide (x.cps.toList < p.cps.toList) := rfl
  have h2 : PyProof.Rows.lexLt PyProof.Rows.itemOrd [] [] = false := rfl
  unfold PyProof.Rows.lexLt
  show (itemLt (.inr x.cps.toList) (.inr p.cps.toList) || (!itemLt (.inr p.cps.toList) (.inr x.cps.toList) && PyProof.Rows.lexLt PyProof.Rows.itemOrd [] [])) = _
  rw [h1, h2, Bool.and_false, Bool.or_false]
theorem rising_pw : ∀ (r : List Str) (p : Str), risingS p r = true → (p :: r).Pairwise (fun a b => sLe a b = true)
  | [], p, _ => List.pairwise_singleton ..
  | x :: r, p, h => by
    unfold risingS at h
    rw [Bool.and_eq_true] at h
    have ih := rising_pw r x h.2
    have h1 : sLe p x = true := by rw [sLe_cps]; exact h.1
    refine List.pairwise_cons.mpr ⟨fun y hy => ?_, ih⟩
    rcases List.mem_cons.mp hy with rfl | hy
    · exact h1
    · exact sLe_total.trans _ _ _ h1 ((List.pairwise_cons.mp ih).1 y hy)
theorem sortedS_pw {ys : List Str} (h : sortedS ys = true) : ys.Pairwise (fun a b => sLe a b = true) := by
  cases ys with
  | nil => exact .nil
  | cons x r => exact rising_pw r x h
theorem perm_of_nodup {α : Type} [DecidableEq α] : ∀ {l m : List α}, l.Nodup → (∀ x ∈ l, x ∈ m) → m.length ≤ l.length → m.Perm l
  | [], m, _, _, h => by
    have : m = [] := List.length_eq_zero_iff.mp (Nat.le_zero.mp h)
    rw [this]
  | a :: l, m, nd, hs, hl => by
    obtain ⟨n1, n2⟩ := List.nodup_cons.mp nd
    have ha := hs a (List.mem_cons_self ..)
    have p := List.perm_cons_erase ha
    have hle : (m.erase a).length ≤ l.length := by
      have := List.length_erase_of_mem ha
      simp at hl
      omega
    exact p.trans ((perm_of_nodup n2 (fun x hx => (List.mem_erase_of_ne (fun e : x = a => n1 (by rw [← e]; exact hx))).mpr (hs x (List.mem_cons_of_mem _ hx))) hle).cons a)
section
variable {P : Program} {w : World}
theorem strs_of_els {es : List (Int × Value)} (h : ElemsOf (strKind P w) es) : ∀ (vs : List Value), (∀ v ∈ vs, v ∈ es.map (·.2)) → ∃ xs, StrsAre vs xs ∧ ∀ x, x ∈ xs ↔ ∃ v ∈ vs, (strKind P w).is x v = true
  | [], _ => ⟨[], .nil, fun x => by simp⟩
  | v :: vs, hm => by
    obtain ⟨xs, hx, hi⟩ := strs_of_els h vs fun u hu => hm u (List.mem_cons_of_mem _ hu)
    obtain ⟨e, he, q⟩ := List.mem_map.mp (hm v (List.mem_cons_self ..))
    obtain ⟨⟨k, hk, _⟩, _⟩ := h e he
    rw [q] at hk
    obtain ⟨t, rfl⟩ := Value.isStrOf_shape (x := k) hk
    refine ⟨k :: xs, .cons k t hx, fun x => ?_⟩
    rw [List.mem_cons, hi x]
    constructor
    · rintro (rfl | ⟨v, hv, q⟩)
      · exact ⟨_, List.mem_cons_self .., hk⟩
      · exact ⟨v, List.mem_cons_of_mem _ hv, q⟩
    · rintro ⟨v, hv, q⟩
      rcases List.mem_cons.mp hv with rfl | hv
      · exact .inl ((strKind P w).inj _ _ _ q hk)
      · exact .inr ⟨v, hv, q⟩
end
section
variable {X : Cx} {pins : List (Addr × Obj)} {σ : L2.St} {H : Hp} {s : Shared}
theorem call_sortedT {a : Addr} {l : List Str} {Q : VK} (hc : X.calm = true) (I : Inv X pins σ H s) (R : SetT X.prog X.w s.heap a l) (h64 : l.length < 64)
    (q : ∀ (ys : List Str) p, ys.Perm l → ys.Pairwise (fun a b => sLe a b = true) → H p = none → Q (.ref p) (upd H p (.lst (ys.map V.str)))) : wpAny (model X.prog X.w) X.A (call (.builtin "sorted") [.ref a]) (EP X pins σ Q) X.xe s := by
  obtain ⟨⟨es, ep, t⟩, ho, F, nd, hr, hl⟩ := R
  have hsz : es.size = l.length := F.sz
  refine Calls.call_function_entry PyProof.Rows.kind_sorted PyProof.Rows.plain_sorted PyProof.Rows.entry_sorted (PyProof.Rows.args_sorted1 _) ?_
  unfold Builtin.«sorted»
  refine wpAny_bind (m := checkCount "sorted" 1 1 _) (wpAny_pure ?_)
  refine wpAny_bind (collect_set (A := X.A.in1) (I.ok.hd hc) ⟨_, ho, rfl, rfl⟩ F.fit (by rw [hsz]; unfold scanBound; omega) hr hl fun s1 vs k1 hz g1 o1 pm => ?_)
  have hvl : vs.length = l.length := by rw [pm.length_eq, List.length_map, Array.length_toList]; exact hsz
  obtain ⟨xs, hS, hx⟩ := strs_of_els F.el vs fun v hv => pm.mem_iff.mp hv
  have hxl : xs.length = vs.length := (StrsAre.len_eq hS).symm
  have px : xs.Perm l := perm_of_nodup nd (fun x hxl => by
    obtain ⟨e, he, q⟩ := (F.mem x).mp hxl
    exact (hx x).mpr ⟨e.2, pm.mem_iff.mpr (List.mem_map_of_mem (f := (·.2)) he), q⟩) (by omega)
  refine wpAny_bind (wpAny_newList ?_ (by rw [hvl, sizeLine_eq]; omega))
  have hoL : (s1.heap.push (seqObj "list" vs.toArray 0)).get? s1.heap.objs.size = some (seqObj "list" vs.toArray 0) := Heap.get?_push_size _ rfl
  show wpAny _ _ _ _ _ { s1 with heap := s1.heap.push (seqObj "list" vs.toArray 0) }
  refine wpAny_bind (wpAny_holding (wpAny_call_entry PyProof.Rows.slot_list_sort ⟨_, hoL, rfl⟩ PyProof.Rows.entry_list_sort
    (list_sort_treeK strKind_oneLt (s := { s1 with heap := s1.heap.push (seqObj "list" vs.toArray 0) }) hoL hS.keysOf (fun v₁ v₂ rest e => keyKind_strs (by rw [← e]; exact hS)) (by rw [hvl]; exact h64) fun st' hp hs => ⟨_, rfl, ?_⟩)
    (PyProof.Rows.args_list_sort _)))
  obtain ⟨ys, y1, y2, y3⟩ := sorted_out_str hS hp hs
  obtain ⟨e', he'⟩ := PyProof.Rows.sortedHeap_at (vs := vs) (out := (arrOf st').map (·.2)) hoL
  have hlen : (ys.map V.str).length ≤ sizeLine := by
    rw [List.length_map, y2.length_eq, hxl, hvl]
    exact Nat.le_trans (Nat.le_of_lt h64) (by decide)
  have hn : H s1.heap.objs.size = none := I.hok.fresh hz
  have kp : ∀ b u, s.heap.get? b = some u → (PyProof.Rows.sortedHeap (s1.heap.push (seqObj "list" vs.toArray 0)) s1.heap.objs.size vs ((arrOf st').map (·.2))).get? b = some u := fun b u e => by
    have e1 := k1 b u e
    have hb : b < s1.heap.objs.size := Heap.lt_size e1
    rw [PyProof.Rows.sortedHeap_old (Nat.ne_of_lt hb) (by rw [size_push']; exact Nat.lt_succ_of_lt hb)]
    exact Heap.get?_push_of_some _ e1
  have J : Inv X pins σ (upd H s1.heap.objs.size (.lst (ys.map V.str))) { s with heap := PyProof.Rows.sortedHeap (s1.heap.push (seqObj "list" vs.toArray 0)) s1.heap.objs.size vs ((arrOf st').map (·.2)), gens := s1.gens, drawn := s1.drawn, toks := s1.toks } :=
    I.call (ch := []) (Un.laid kp hz hn) (I.hok.laid kp hz ⟨hlen, ((arrOf st').map (·.2)).toList, e', vals_of_strs y1, by rw [Array.toArray_toList]; exact he'⟩) (by rw [g1]; exact I.bare) (fun _ z => nomatch z)
  have e : ({ s1 with heap := PyProof.Rows.sortedHeap (s1.heap.push (seqObj "list" vs.toArray 0)) s1.heap.objs.size vs ((arrOf st').map (·.2)) } : Shared) = { s with heap := PyProof.Rows.sortedHeap (s1.heap.push (seqObj "list" vs.toArray 0)) s1.heap.objs.size vs ((arrOf st').map (·.2)), gens := s1.gens, drawn := s1.drawn, toks := s1.toks } := by
    cases s1
    cases s
    cases o1
    rfl
  refine wpAny_pure ⟨_, rfl, ?_⟩
  show EP X pins σ Q (.ref s1.heap.objs.size) { s1 with heap := PyProof.Rows.sortedHeap (s1.heap.push (seqObj "list" vs.toArray 0)) s1.heap.objs.size vs ((arrOf st').map (·.2)) }
  rw [e]
  exact ⟨.ref s1.heap.objs.size, _, J, rfl, q ys _ (y2.trans px) (sortedS_pw y3) hn⟩
end
end DL
namespace DL
open PySem PySem.Spec PyProof.Rows L2 PySem.Froz
def ddp : List Str → List Str
  | [] => []
  | x :: r => if x ∈ ddp r then ddp r else x :: ddp r
theorem ddp_mem : ∀ {xs : List Str} {x : Str}, x ∈ ddp xs ↔ x ∈ xs
  | [], x => Iff.rfl
  | y :: r, x => by
    unfold ddp
    split
    · rename_i h
      rw [ddp_mem, List.mem_cons]
      exact ⟨.inr, fun z => z.elim (fun e => e ▸ ddp_mem.mp h) id⟩
    · rw [List.mem_cons, List.mem_cons, ddp_mem]
theorem ddp_nodup : ∀ xs : List Str, (ddp xs).Nodup
  | [] => List.nodup_nil
  | y :: r => by
    unfold ddp
    split
    · exact ddp_nodup r
    · rename_i h
      exact List.nodup_cons.mpr ⟨h, ddp_nodup r⟩
theorem ddp_len : ∀ xs : List Str, (ddp xs).length ≤ xs.length
  | [] => Nat.le_refl _
  | y :: r => by
    have := ddp_len r
    unfold ddp
    split
    · simp; omega
    · simp; omega
def sst (xs : List Str) : List Str := srt (ddp xs)
theorem sst_mem {xs : List Str} {x : Str} : x ∈ sst xs ↔ x ∈ xs := srt_mem.trans ddp_mem
theorem sst_nodup (xs : List Str) : (sst xs).Nodup := srt_nodup (ddp_nodup xs)
theorem sst_pw (xs : List Str) : (sst xs).Pairwise (fun a b => sLe a b = true) := srt_pw _
theorem sst_len (xs : List Str) : (sst xs).length ≤ xs.length := by
  unfold sst
  rw [(srt_perm _).length_eq]; exact ddp_len xs
theorem sst_id {xs : List Str} (nd : xs.Nodup) (so : xs.Pairwise (fun a b => sLe a b = true)) : sst xs = xs := sorted_ext sLe_anti (sst_pw xs) so (sst_nodup xs) nd fun _ => sst_mem
theorem sst_uniq {xs ys : List Str} (nd : ys.Nodup) (so : ys.Pairwise (fun a b => sLe a b = true)) (h : ∀ x, x ∈ ys ↔ x ∈ xs) : ys = sst xs := sorted_ext sLe_anti so (sst_pw xs) nd (sst_nodup xs) fun x => (h x).trans sst_mem.symm
def tSortSet (K : PySem.W.Frag) (ta : TE) : TE := fun σ H Q => ta σ H fun x H1 => ∃ l, ∃ xs : List Str, x = .ref l ∧ (SqL K H1 l (xs.map V.str) ∨ SqT K H1 l (xs.map V.str)) ∧ xs.length < 64 ∧ ∀ p, H1 p = none → Q (.ref p) (upd H1 p (.lst ((sst xs).map V.str)))
theorem pe_sortSet {X : Cx} {a : Expr} {ta : TE} {p p2 q pos : Pos} (hc : X.calm = true) (hg : Gl X "sorted") (hm : X.mg "sorted" = none) (hg2 : Gl X "set") (hm2 : X.mg "set" = none) (ha : PE X a ta)
    (na : starEach [a] X.env = (false, eval a X.env) :: starEach [] X.env := by rfl) : PE X (.Call (.Name "sorted" p) [.Call (.Name "set" p2) [a] [] q] [] pos) (tSortSet X.K ta) := by
  refine ⟨fun pins s σ H Q I h => ?_⟩
  refine Call_ (ld_blt I hg hm boot_sorted ?_)
  refine PyProof.Rows.callWith_builtin1 (PyProof.Rows.args_cons ?_ rfl) rfl rfl
  refine Call_ (ld_blt I hg2 hm2 boot_set ?_)
  refine PyProof.Rows.callWith_type1 (PyProof.Rows.args_cons (thn (ha.run pins s σ H _ I h) fun v s1 ⟨x, H1, I1, r1, q1⟩ => PyProof.Rows.args_nil ?_) na) na rfl
  obtain ⟨l, xs, rfl, hq, h64, q1⟩ := q1
  cases r1
  have fin : ∀ (h' : Heap) (tk : Nat) (ys : List Str), SetT X.prog X.w h' s1.heap.objs.size ys → ys.length ≤ xs.length → (∀ x, x ∈ ys ↔ x ∈ xs) → (∀ b o, s1.heap.get? b = some o → h'.get? b = some o) →
      wpAny (model X.prog X.w) X.A (spliced (backTo pos (starEach [] X.env))) (fun vs s₂ => wpAny (model X.prog X.w) X.A (call (.builtin "sorted") (Value.ref s1.heap.objs.size :: vs)) (EP X pins σ Q) X.xe s₂) X.xe { s1 with heap := h', toks := tk } := fun h' tk ys hS hl hx hk => by
    refine PyProof.Rows.args_nil ?_
    have I2 : Inv X pins σ H1 { s1 with heap := h', toks := tk } := I1.kept hk
    have nd : ys.Nodup := let ⟨_, _, _, nd, _⟩ := hS; nd
    refine call_sortedT (s := { s1 with heap := h', toks := tk }) hc I2 hS (by omega) fun zs p pz ps hp => ?_
    rw [sst_uniq (xs := xs) (pz.nodup_iff.mpr nd) ps (fun x => pz.mem_iff.trans (hx x))]
    exact q1 p hp
  have hb : xs.length + 1 < scanBound := by unfold scanBound; omega
  rcases hq with hq | hq
  · obtain ⟨its, r, pl, hz⟩ := I1.list hq
    exact call_setT_list xs (I1.ok.hd hc) pl.isList (by simpa using strsAre_of r) hb fin
  · obtain ⟨its, r, pl, hz⟩ := I1.tuple hq
    exact call_setT_tuple xs (I1.ok.hd hc) pl (by simpa using strsAre_of r) hb fin
@[simp] def sstD (f : DEx) (ρ : En) (st : Store) : R := (f ρ st).bind fun d ρ st => match kOf d with
  | some ds => (match strL ds with
    | some xs => if xs.length < 64 then .ok (.lst ((sst xs).map .str)) ρ st else .bad
    | none => .bad)
  | none => .bad
theorem sstD_isL {f : DEx} : IsL (sstD f) := fun ρ st d ρ' st' h => by
  unfold sstD at h
  cases e : f ρ st with
  | ok d1 ρ1 st1 =>
    rw [e] at h
    simp only [R.bind] at h
    split at h
    · split at h
      · split at h
        · cases h; exact ⟨_, rfl⟩
        · cases h
      · cases h
    · cases h
  | exc c ρ1 st1 => rw [e] at h; cases h
  | bad => rw [e] at h; cases h
theorem reps_of_strs {K : PySem.W.Frag} {mg : MG} {G : Hp} {ι : List Addr} : ∀ xs : List Str, Reps K mg G ι (xs.map V.str) (xs.map D.str)
  | [] => .nil
  | x :: r => .cons (.str x) (reps_of_strs r)
theorem do_sortSet {X : Cx} {W : WB} {e : Expr} {f : DEx} {p p2 q pos : Pos} (hc : X.calm = true) (hg : Gl X "sorted") (hm : X.mg "sorted" = none) (hg2 : Gl X "set") (hm2 : X.mg "set" = none) (ha : DV X W e f) (he : starEach [e] X.env = (false, eval e X.env) :: starEach [] X.env := by rfl) :
    DO X W (.Call (.Name "sorted" p) [.Call (.Name "set" p2) [e] [] q] [] pos) (sstD f) := by
  obtain ⟨te, pe, re⟩ := ha
  refine ⟨⟨_, pe_sortSet hc hg hm hg2 hm2 pe he, fun w Q s q => ?_⟩, sstD_isL⟩
  refine re.bindO s q fun w1 v d e1 a1 r1 q1 => ?_
  cases z : kOf d with
  | none => simp only [z] at q1; exact q1.elim
  | some ds =>
    simp only [z] at q1
    obtain ⟨a, vs, rfl, h1, h2, h3⟩ := r1.seq a1.s z
    cases y : strL ds with
    | none => simp only [y] at q1; exact q1.elim
    | some xs =>
      simp only [y] at q1
      split at q1
      · rename_i h64
        have ev := strL_reps h3 y
        subst ev
        refine ⟨a, xs, rfl, ?_, h64, fun l hl => OkO.mk a1 e1 hl (by rw [List.length_map]; exact Nat.le_trans (sst_len xs) (by rw [sizeLine_eq]; omega)) (reps_of_strs _) q1⟩
        rcases h1 with h1 | h1
        · exact .inl h1
        · exact .inr (SqT.mono a1.s.sub h1)
      · exact q1.elim
@[simp] def k_sst (P : D → En → Store → Prop) (d : D) (ρ : En) (st : Store) : Prop := EOk (match kOf d with
  | some ds => (match strL ds with
    | some xs => if xs.length < 64 then .ok (.lst ((sst xs).map .str)) ρ st else .bad
    | none => .bad)
  | none => .bad) P
@[simp ↓] theorem EOk_sst {f : DEx} {ρ : En} {st : Store} {P : D → En → Store → Prop} : EOk (sstD f ρ st) P ↔ EOk (f ρ st) (k_sst P) := EOk_bind _ _
end DL
namespace DL
open PySem PySem.Spec PyProof.Rows L2
end DL
namespace DL
open PySem PySem.Spec PyProof.Rows L2
theorem de_sliceT {X : Cx} {W : WB} {e : Expr} {lo hi : Option Expr} {f l h : DEx} {p2 pos : Pos} (he : DE X W e f) (hl : DB X W lo l) (hh : DB X W hi h) : DE X W (.Subscript e (.Slice lo hi none p2) pos) (slX kSlT f l h) := by
  obtain ⟨te, pe, re⟩ := he
  obtain ⟨tl, pl, rl⟩ := hl
  obtain ⟨th, ph, rh⟩ := hh
  refine ⟨_, pe_slice sl_tupA pe pl ph, fun w Q s q => ?_⟩
  refine ref_sl (P := OkR X.K (MGx X W.b) W w Q) (k := kSlT) s re rl rh q (fun _ _ _ z => z) (fun z => z) fun w3 v d z lo hi e3 a3 r3 hz q3 => ?_
  cases d with
  | tup ds =>
    have hz' : (if HT.sIx ds.length 0 lo = 0 ∧ HT.sIx ds.length ds.length hi = ds.length then some (D.tup ds) else some (D.tup (cutD ds lo hi))) = some z := hz
    have rG : Rep X.K (MGx X W.b) w3.G w3.ι v (.tup ds) := by
      rcases r3 with h | ⟨_, _, _, _, e, _⟩ | ⟨_, _, _, _, e, _⟩
      · exact h
      · cases e
      · cases e
    obtain ⟨a, vs, rfl, hs, hl, rs⟩ := r3.tup_inv a3.s
    refine ⟨_, _, rfl, hs, fun hw => ?_, fun hw p hp => ?_⟩
    · rw [rs.len] at hw
      rw [if_pos hw] at hz'
      cases hz'
      exact q3 w3 _ rfl rfl e3 a3 rG
    · rw [rs.len] at hw
      rw [if_neg hw] at hz'
      cases hz'
      obtain ⟨w', k1, k2, k3, k4, A, r⟩ := fz_tup a3.s hp (Nat.le_trans (cutV_length _ lo hi) hl) (rs.cut lo hi)
      rw [← k4]; exact q3 w' _ k1 k2 (k3.trans e3) (a3.trans A) r
  | _ => cases hz
end DL
namespace DL
open PySem PySem.Spec PyProof.Rows L2
structure XMeth (K : PySem.W.Frag) (B : Addr) : Prop where
  ga : PySem.W.specialIn K (.ref B) "__getattribute__" = some (some (.builtin "type.__getattribute__"))
  rd : PySem.W.readsIn K B (.type "type") = true
  fc : PySem.W.findCls K (.ref B) (.type "type") "__init__" = some (.val (.builtin "ValueError.__init__"))
def spX (K : PySem.W.Frag) (C : Addr) (fld : Str) : Sp := fun vs H Q _ => ∃ (a : Addr) (y : V), vs = [.ref a, y] ∧ H a = some (exo a C none) ∧ OexC K C ∧ PySem.W.findIn K (.ref C) fld = some none ∧
  ∀ dx, H dx = none → dx ≠ a → Q .non (upd (upd H dx (exd dx [(fld, y)])) a (exo a C (some dx)))
def tXi (K : PySem.W.Frag) (fld msg : Str) : TS := tSeq (tDrop (tVeI K (tCons (tVar 0) (tCons (tC (.str msg)) tNil)))) (tOst K fld (tVar 0) (tVar 1))
def XCls (P : Program) (w : World) (K : PySem.W.Frag) (mg : Str → Option Value) (base : Heap) (c fld : Str) : Prop :=
  ∃ C fI fd ps, mg c = some (.ref C) ∧ OexC K C ∧ PySem.W.findIn K (.ref C) "__init__" = some (some (.ref fI)) ∧ PySem.W.typeIn K (.ref fI) = some (.type "function") ∧ PySem.W.findIn K (.ref C) fld = some none ∧
    FnOk P w K mg base (L2N.CX P w) 1 fI fd ps (spX K C fld) ∧ Binds K fd ps []
theorem XCls.of {P : Program} {wd : World} {K : PySem.W.Frag} {mg : Str → Option Value} {base : Heap} {c fld qual msg x0 x1 : Str} {C fI : Addr} {st : Stmt} {fd : FuncData} (hC : mg c = some (.ref C)) (T : OexC K C) (iC : PySem.W.findIn K (.ref C) "__init__" = some (some (.ref fI)))
    (tI : PySem.W.typeIn K (.ref fI) = some (.type "function")) (nf : PySem.W.findIn K (.ref C) fld = some none) (F : FunV K "__init__" qual st fI fd) (S : FnScope [x0, x1] [x0, x1] (defScope st)) (B : Binds K fd [x0, x1] [])
    (hb : ∀ (f : Addr) (cdv : Value) (A : Around) (outer : List Env) (s : Shared) (H : Hp) (E : XK), PSs (cxOf (L2N.CX P wd) P wd K mg base [x0, x1] qual (defScope st) f cdv A outer s H E) (defBody st) (tXi K fld msg)) : XCls P wd K mg base c fld := by
  refine ⟨C, fI, fd, [x0, x1], hC, T, iC, tI, nf, ?_, B⟩
  refine F.okD S (fun vs H Q E h => ?_) fun cdv A outer s H vs Q E hr h => ?_
  · obtain ⟨a, y, rfl, _⟩ := h
    rfl
  · obtain ⟨a, y, rfl, h1, h2, h3, h4⟩ := h
    refine ⟨_, hb _ cdv A outer s H E, ?_⟩
    refine ⟨V.ref a, rfl, a, C, [V.str msg], rfl, by simp, T, h1, ?_⟩
    refine ⟨y, rfl, V.ref a, rfl, a, C, rfl, T, h3, .inl ⟨h1, fun dx hd hn => h4 dx hd hn⟩⟩
end DL
set_option maxHeartbeats 2000000
namespace HotX
open PySem PySem.Spec PyProof.Rows
section
variable {prog : Program} {w : World} {A : Around} {E : Value → Shared → Prop} {s : Shared}
end
end HotX
namespace L2H
open PySem PySem.Spec PyProof.Rows L2 HotX
section
variable {X : Cx}
theorem vals_ints {F : Value → Value → Prop} (hF : ∀ v y, F v y → ∃ b t, v = .bool b ∧ y = .int (if b then 1 else 0) t) : ∀ {bs : List Bool} {vs ys : List Value}, Paired F vs ys → vs.length = bs.length → (∀ (j : Nat) v, vs[j]? = some v → ∃ b, bs[j]? = some b ∧ v = .bool b) → Vals (bs.map fun b => V.int (if b then 1 else 0)) ys := by
  intro bs vs ys hp
  induction hp generalizing bs with
  | nil =>
    intro hl _
    cases bs with
    | nil => exact .nil
    | cons _ _ => cases hl
  | cons h t ih =>
    intro hl hj
    cases bs with
    | nil => cases hl
    | cons b bs =>
      obtain ⟨b', e1, e2⟩ := hj 0 _ rfl
      cases e1
      obtain ⟨b2, tk, e3, e4⟩ := hF _ _ h
      rw [e2] at e3
      cases e3
      subst e4
      exact .cons ⟨_, rfl⟩ (ih (by simpa using hl) fun j v e => hj (j + 1) v e)
end
end L2H
set_option maxHeartbeats 2000000
namespace L2H
open PySem PySem.Spec PyProof.Rows L2 HotX
structure XcC (K : PySem.W.Frag) (C : Addr) : Prop where
  i : ExcC K C
  f : XfC K C
  cl : (PySem.W.clsIn K C).isSome = true
structure Xat (X : Cx) (a C : Addr) (d : Option Addr) : Prop where
  hd : X.A.handled = some (.ref a)
  pn : ∃ p ∈ X.pn, p.1 = a ∧ L2N.Zn (.ref C) d p.2 ∧ ∃ vs, p.2.data = .fields vs
theorem Xat.hot {X : Cx} {a C : Addr} {d : Option Addr} (x : Xat X a C d) : HotC X := by
  obtain ⟨p, hp, rfl, hz, vs, hv⟩ := x.pn
  exact ⟨p, ⟨x.hd, vs, hv, hz.2.2 vs hv⟩, hp⟩
section
variable {X : Cx} {a C : Addr} {d : Option Addr}
end
end L2H
namespace DL
open PySem PySem.Spec PyProof.Rows L2 L2H
section
variable {X : Cx} {W : WB} {a C : Addr} {c : Str} {od : Option Addr} {i : Nat} {x T : Str}
end
end DL
set_option maxHeartbeats 2000000
namespace L2H
open PySem PySem.Spec PyProof.Rows L2
end L2H
namespace DL
open PySem PySem.Spec PyProof.Rows L2 L2H
section
variable {K : PySem.W.Frag} {f : Str → Option Value} {b : Low} {w w' w3 : Ws} {i : Nat} {a : Addr} {c : Str} {od : Option Addr} {fs : List (Str × D)} {vs : List (Str × V)} {x : Option (Addr × Str × Option Addr)}
end
end DL
set_option maxHeartbeats 2000000
namespace L2H
open PySem PySem.Spec PyProof.Rows L2 HotX
structure FnX (P : Program) (w : World) (K : PySem.W.Frag) (mg : Str → Option Value) (base : Heap) (CX : CXT) (k : Nat) (f : Addr) (fd : FuncData) (ps : List Str) (p : Addr × Obj) (sp : Sp) : Prop where
  len : ∀ vs H Q E, sp vs H Q E → vs.length = ps.length
  run : ∀ (A : Around) (outer : List Env) (s : Shared) (H : Hp) (args : Args) (us : List Value) (vs : List V) (Q : VK) (E : XK), RoomH k A → Hot1 A p → PinOk outer H s p → Env0 P w K mg base A outer s H → BindsTo s fd args (ps.zip us) → Vals vs us → sp vs H Q E →
    codeAny (model P w) A (.call (.ref f) args) (CR CX outer P w H s Q E) s
theorem fnX_of {CX : CXT} {P : Program} {w : World} {K : PySem.W.Frag} {mg : Str → Option Value} {base : Heap} {k : Nat} {x qual : Str} {st : Stmt} {f : Addr} {fd : FuncData} {N ps : List Str} {sp : Sp} {p : Addr × Obj} (F : DL.FunV K x qual st f fd) (S : FnScope N ps (defScope st))
    (len : ∀ vs H Q E, sp vs H Q E → vs.length = ps.length)
    (hbody : ∀ (cdv : Value) (A : Around) (outer : List Env) (s : Shared) (H : Hp) (vs : List V) (Q : VK) (E : XK), Hot1 A p → RoomH k (A.deeper (envOfC qual (defScope st) s.heap.objs.size f cdv)) → sp vs H Q E →
      ∃ t, PSs (cxH CX P w K mg base N qual (defScope st) f cdv A outer s H E p) (defBody st) t ∧ t { nx := fun _ H' => Q .non H', rt := Q } (L2.start N vs) H) : FnX P w K mg base CX (k + 1) f fd ps p sp := by
  obtain ⟨oc, od, dV, kV, doc, pm, an, cdv, ct, osl, rfl, lk, hcd⟩ := F.ex
  refine ⟨len, fun A outer s H args us vs Q E hr hot hpin e0 hb r hsp => ?_⟩
  have hl := len _ _ _ _ hsp
  have kp : ∀ b o, base.get? b = some o → s.heap.get? b = some o := fun b o e => (e0.bs b o e).1
  have KX := e0.mod.kin.keeps kp
  have hkind : ∀ y ∈ ps.zip us, (defScope st).names.lookup y.1 = some .local ∨ ((defScope st).names.lookup y.1 = some .cell ∧ ((cellsFrom (s.heap.objs.size + 1) (defScope st).names []).lookup y.1).isSome = true) := fun ⟨n, v⟩ hy => by
    rcases S.par n (List.of_mem_zip hy).1 with q | q
    · exact .inl q
    · exact .inr ⟨q, PySem.W.cellsFrom_some _ _ _ (.inl q)⟩
  refine codeAny_call_function hr.depth (KX _ _ lk) rfl S.co S.gen rfl (PySem.W.codeRec_of KX hcd) (hb _ _ _ _ (wpAny_newFunctionEnv_cells S.kind hkind fun env he s1 x => ?_))
  subst he
  refine ⟨(e0.mod.nolimit.keeps kp).keeps x.toInCall.keep, codeAny_func ?_⟩
  obtain ⟨t, ht, hq⟩ := hbody cdv A outer s H vs Q E hot (hr.deeper _) hsp
  refine wpAny_mono (ht.run [] s1 (L2.start N vs) H _ (inv_startH S hpin e0 hl r x) hq) (fun fl s' hs => ?_) fun e s' hs => hs
  cases fl with
  | ret u =>
    obtain ⟨v, σ', H', J, rv, q⟩ := hs
    exact ⟨v, H', J.os, J.bare, J.base, J.hok, rv, q⟩
  | next =>
    obtain ⟨σ', H', J, q⟩ := hs
    exact ⟨.non, H', J.os, J.bare, J.base, J.hok, rfl, q⟩
  | brk => exact False.elim hs.choose_spec.choose_spec.2
  | cont => exact False.elim hs.choose_spec.choose_spec.2
end L2H
set_option maxHeartbeats 2000000
namespace DL
open PySem PySem.Spec PyProof.Rows L2 L2H
abbrev DenX := Str → List (Str × D) → Store → R
def lowX (a : Addr) (c : Str) (od : Option Addr) : Low := ⟨fun _ => none, [], none, some (a, c, od)⟩
@[simp] def enterX (n : Nat) (c : Str) (fs : List (Str × D)) : En := .exv c fs :: List.replicate (n - 1) .no
@[simp] def runX (n : Nat) (g : DSx) : DenX := fun c fs st => endR (g (enterX n c fs) st)
def spE (K : PySem.W.Frag) (mg : Str → Option Value) (a : Addr) (c : Str) (od : Option Addr) (dn : DenX) : Sp := fun vs H Q E => vs = [.ref a] ∧
  ∃ (w : Ws) (fs : List (Str × D)) (us : List (Str × V)), w.ρ = [] ∧ w.σ = [] ∧ w.H = H ∧ Sts K ⟨mg, lowX a c od⟩ w ∧ (∀ d, od = some d → w.G d = some (.xd us)) ∧ (od = none → us = []) ∧ RepF K ⟨mg, lowX a c od⟩ w.G w.ι us fs ∧ OkR K ⟨mg, lowX a c od⟩ (WEb (lowX a c od) E) w Q (dn c fs w.st)
theorem enterX_ml (n : Nat) (c : Str) (fs : List (Str × D)) (i : Nat) (es : List D) : (enterX n c fs)[i]? ≠ some (.ml es) := by
  intro h
  rcases List.mem_cons.mp (List.mem_of_getElem? h) with h | h
  · cases h
  · have := List.eq_of_mem_replicate h; cases this
theorem Sts.enterX {K : PySem.W.Frag} {mg : Str → Option Value} {w : Ws} {n : Nat} {N : List Str} {a : Addr} {c : Str} {od : Option Addr} {fs : List (Str × D)} {us : List (Str × V)} (s : Sts K ⟨mg, lowX a c od⟩ w) (hn : n = N.length) (h0 : 0 < n)
    (h1 : ∀ d, od = some d → w.G d = some (.xd us)) (h2 : od = none → us = []) (r : RepF K ⟨mg, lowX a c od⟩ w.G w.ι us fs) : Sts K ⟨mg, lowX a c od⟩ { w with ρ := DL.enterX n c fs, σ := L2.start N [.ref a] } where
  lowG := s.lowG
  lowI := s.lowI
  sub := s.sub
  ln := by unfold DL.enterX L2.start; simp [← hn]
  len := s.len
  cel := s.cel
  inj := s.inj
  slo := fun i x h => by
    show SlotAt K ⟨mg, lowX a c od⟩ { w with ρ := DL.enterX n c fs, σ := L2.start N [.ref a] } (L2.start N [.ref a])[i]? x
    have h' : (DL.enterX n c fs)[i]? = some x := h
    cases i with
    | zero =>
      have e : Sl.exv c fs = x := by simpa using h'
      subst e
      exact ⟨a, od, us, by unfold L2.start; simp, rfl, h1, h2, r⟩
    | succ j =>
      have h2 : (List.replicate (n - 1) Sl.no)[j]? = some x := by simpa using h'
      have := List.eq_of_mem_replicate (List.mem_of_getElem? h2)
      subst this; trivial
  sep := fun i l a ⟨es, h, _⟩ _ => absurd h (enterX_ml _ _ _ _ _)
  dis := fun i j a ⟨es, h, _⟩ _ => absurd h (enterX_ml _ _ _ _ _)
theorem fnX_D {P : Program} {wd : World} {K : PySem.W.Frag} {mg : Str → Option Value} {base : Heap} {x qual : Str} {st : Stmt} {f : Addr} {fd : FuncData} {N ps : List Str} {k n : Nat} {g : DSx} {a : Addr} {c : Str} {od : Option Addr} {p : Addr × Obj} (F : FunV K x qual st f fd) (S : FnScope N ps (defScope st)) (hn : n = N.length) (h1 : ps.length = 1) (h0 : 0 < n)
    (hb : ∀ (cdv : Value) (A : Around) (outer : List Env) (s : Shared) (H : Hp) (E : XK), Hot1 A p → RoomH k (A.deeper (PyProof.Rows.envOfC qual (defScope st) s.heap.objs.size f cdv)) →
      DSs (cxH (L2N.CX P wd) P wd K mg base N qual (defScope st) f cdv A outer s H E p) (WEb (lowX a c od) E) (defBody st) g) : FnX P wd K mg base (L2N.CX P wd) (k + 1) f fd ps p (spE K mg a c od (runX n g)) := by
  refine fnX_of F S (fun vs H Q E h => by rw [h.1, h1]; rfl) fun cdv A outer s H vs Q E hot hr h => ?_
  obtain ⟨rfl, w, fs, us, hρ, hσ, rfl, sts, g1, g2, r, ok⟩ := h
  obtain ⟨t, pt, rt⟩ := hb cdv A outer s w.H E hot hr
  refine ⟨t, pt, ?_⟩
  have sts' := sts.enterX hn h0 g1 g2 r (N := N)
  have e0 : w.strip = w := ws_strip hρ hσ
  have s0 : Sts K ⟨mg, lowX a c od⟩ w.strip := by rw [e0]; exact sts
  have out : ∀ w', Aft K ⟨mg, lowX a c od⟩ { w with ρ := DL.enterX n c fs, σ := start N [V.ref a] } w' → Aft K ⟨mg, lowX a c od⟩ w w'.strip := fun w' A => by
    have := Aft.out (w := w) s0 (enterX_ml n c fs) A
    rwa [e0] at this
  refine rt { w with ρ := DL.enterX n c fs, σ := start N [V.ref a] } { nx := fun _ H' => Q .non H', rt := Q } sts' ?_
  unfold runX at ok
  show OkF K ⟨mg, lowX a c od⟩ (WEb (lowX a c od) E) _ _ (g (DL.enterX n c fs) w.st)
  cases e : g (DL.enterX n c fs) w.st with
  | nx ρ st' =>
    rw [e] at ok
    intro w' k1 k2 A
    exact ok w'.strip .non rfl k2 hσ.symm (out w' A) .non
  | rt d ρ st' =>
    rw [e] at ok
    intro w' v k1 k2 A r
    exact ok w'.strip v rfl k2 hσ.symm (out w' A) r
  | bk ρ st' => rw [e] at ok; exact ok.elim
  | ct ρ st' => rw [e] at ok; exact ok.elim
  | exc c ρ st' =>
    rw [e] at ok
    intro w' cls dx k1 k2 A r
    exact ok w'.strip cls dx rfl k2 hσ.symm (out w' A) r
  | bad => rw [e] at ok; exact ok.elim
def XCal (P : Program) (w : World) (K : PySem.W.Frag) (mg : Str → Option Value) (base : Heap) (cs : Str → Bool) (k : Nat) (x : Str) (dn : DenX) : Prop :=
  ∃ f fd ps, mg x = some (.ref f) ∧ PySem.W.keepIn K (.ref f) = true ∧ Binds K fd ps [] ∧ ∀ (a : Addr) (c : Str) (C : Addr) (od : Option Addr) (p : Addr × Obj), p.1 = a → L2N.Zn (.ref C) od p.2 → (∃ vs, p.2.data = .fields vs) → mg c = some (.ref C) → cs c = true → FnX P w K mg base (L2N.CX P w) k f fd ps p (spE K mg a c od dn)
end DL
set_option maxHeartbeats 2000000
namespace L2
theorem Room.u80 {k : Nat} {A : PySem.Around} (r : Room k A) : A.units + 80 < PySem.cLine := by have := r.un; omega
theorem Room.u65 {k : Nat} {A : PySem.Around} (r : Room k A) : A.units + 65 < PySem.cLine := by have := r.un; omega
end L2
namespace L2H
open PySem PySem.Spec PyProof.Rows L2
theorem RoomH.units {k : Nat} {A : Around} (r : RoomH k A) : A.units + 64 < cLine := by have := r.un; omega
theorem RoomH.units0 {k : Nat} {A : Around} (r : RoomH k A) : A.units < cLine := by have := r.un; omega
theorem RoomH.u65 {k : Nat} {A : Around} (r : RoomH k A) : A.units + 65 < cLine := by have := r.un; omega
theorem RoomH.u80 {k : Nat} {A : Around} (r : RoomH k A) : A.units + 80 < cLine := by have := r.un; omega
end L2H
namespace DL
open PySem PySem.Spec PyProof.Rows L2 L2H
section
variable {X : Cx} {W : WB} {a C : Addr} {c : Str} {od : Option Addr} {i : Nat}
theorem XCal.of {P : Program} {wd : World} {K : PySem.W.Frag} {mg : Str → Option Value} {base : Heap} {cs : Str → Bool} {x : Str} {st : Stmt} {N ps : List Str} {k n : Nat} {g : DSx} (Df : Dfn K mg x ps st) (S : FnScope N ps (defScope st)) (hn : n = N.length) (h1 : ps.length = 1) (h0 : 0 < n)
    (hb : ∀ (f : Addr) (cdv : Value) (A : Around) (outer : List Env) (s : Shared) (H : Hp) (E : XK) (a : Addr) (c : Str) (C : Addr) (od : Option Addr) (p : Addr × Obj), mg c = some (.ref C) → cs c = true → Xat (cxH (L2N.CX P wd) P wd K mg base N x (defScope st) f cdv A outer s H E p) a C od → RoomH k (A.deeper (PyProof.Rows.envOfC x (defScope st) s.heap.objs.size f cdv)) →
      DSs (cxH (L2N.CX P wd) P wd K mg base N x (defScope st) f cdv A outer s H E p) (WEb (lowX a c od) E) (defBody st) g) : XCal P wd K mg base cs (k + 1) x (runX n g) := by
  obtain ⟨f, fd, F, hmg, hB⟩ := Df
  refine ⟨f, fd, ps, hmg, F.kp, hB, fun a c C od p hp hz hv hC hcs => ?_⟩
  refine fnX_D (funV_of F) S hn h1 h0 fun cdv A outer s H E hot hr => hb f cdv A outer s H E a c C od p hC hcs ⟨?_, p, ?_, hp, hz, hv⟩ hr
  · rw [← hp]; exact hot.1
  · show p ∈ [p]
    simp
end
end DL
namespace DL
open PySem PySem.Spec PyProof.Rows L2 L2H
section
variable {K : PySem.W.Frag} {mg : Str → Option Value} {x y : Str} {A B : Addr}
end
end DL
namespace DL
open PySem PySem.Spec PyProof.Rows L2
section
variable {X : Cx} {W : WB} {o e x : Expr} {f g h : DEx} {apos cpos : Pos}
end
end DL
namespace DL
open PySem PySem.Spec PyProof.Rows L2
section
variable {K : PySem.W.Frag} {mg : MG}
end
end DL
namespace DL
open PySem PySem.Spec PyProof.Rows L2
section
variable {K : PySem.W.Frag} {mg : MG} {G G' : Hp} {ι ι' : List Addr}
end
def Fst (w : Ws) (b : Addr) : Prop := ∃ (l : Nat) (ds : List D), w.st[l]? = some (Cell.lst ds) ∧ w.ι[l]? = some b
theorem Fst.at {K : PySem.W.Frag} {mg : MG} {w : Ws} {b : Addr} (s : Sts K mg w) (h : Fst w b) : w.G b = none ∧ ∃ vs, w.H b = some (HO.lst vs) := by
  obtain ⟨l, ds, h1, h2⟩ := h
  obtain ⟨g0, vs, e1, _, _⟩ := s.cel l _ b h1 h2
  exact ⟨g0, vs, e1⟩
end DL
namespace DL
open PySem PySem.Spec PyProof.Rows L2
def kP : Key → PyData
  | .inl i => .int i
  | .inr s => .str s
inductive DpK (K : PySem.W.Frag) (H : Hp) : List (Key × V) → List (PyData × PyData) → Prop
  | nil : DpK K H [] []
  | cons {k : Key} {v : V} {d : PyData} {vs : List (Key × V)} {ds : List (PyData × PyData)} : Dp K H v d → DpK K H vs ds → DpK K H ((k, v) :: vs) ((kP k, d) :: ds)
end DL
set_option maxHeartbeats 2000000
namespace DL
open PySem PySem.Spec PyProof.Rows L2 PySem.Froz
section
variable {X : Cx} {c d : Expr} {t u : TT}
end
section
variable {X : Cx} {pins : List (Addr × Obj)} {σ : L2.St} {H : Hp} {s : Shared}
end
section
variable {X : Cx}
end
section
variable {K : PySem.W.Frag} {mg : MG} {W : WB}
end
section
variable {X : Cx} {W : WB} {elt tg iter : Expr} {ifs : List Expr} {scope : Scope} {own : List (PySem.Str × Nat)} {p pos cpos : Pos} {is : List Nat} {fi : DEx} {g : DGx} {c f : DEx}
end
section
variable {X : Cx} {W : WB} {a b : Expr} {f g : DEx} {pos : Pos}
end
section
variable {X : Cx} {W : WB} {e : Expr} {es : List Expr} {f : DEx} {p pos tpos : Pos} {Ts : List String}
end
end DL
namespace PySem.SeqAt
open AutoSeq1 (wpAny_loadPart')
open MeetsSeq MeetsSeq2 MeetsSeq3 SeqRoads2
end PySem.SeqAt
namespace DL
open PySem PySem.Spec PyProof.Rows L2 PySem.W
end DL
namespace DL
open PySem PySem.Spec PyProof.Rows L2 PySem.W PySem.Calls
section
variable {X : Cx} {W : WB} {e tg : Expr} {es : List Expr} {f : DEx} {g : DGx} {h : List D → En → Option En} {pos p : Pos}
end
end DL
namespace DL
open PySem PySem.Spec PyProof.Rows L2
section
variable {X : Cx} {W : WB} {o e : Expr} {f g : DEx} {apos pos : Pos}
end
end DL
namespace DL
open PySem L2
section
variable {X : Cx} {W : WB}
theorem Cal.mono {P : Program} {w : World} {K : PySem.W.Frag} {mg : Str → Option Value} {base : Heap} {k k' n : Nat} {x : Str} {den : Den} (C : Cal P w K mg base k x n den) (h : k ≤ k') : Cal P w K mg base k' x n den := by
  obtain ⟨f, fd, ps, F, r⟩ := C
  exact ⟨f, fd, ps, F.mono h, r⟩
end
end DL
namespace DL
open PySem PySem.Spec PyProof.Rows L2
section
variable {X : Cx} {x : Str} {ents : List (Str × Option D)}
end
section
variable {X : Cx} {W : WB} {x : Str} {ents : List (Str × Option D)} {a e : Expr} {f g : DEx} {p pos : Pos}
end
end DL
namespace DL
open PySem PySem.Spec PyProof.Rows L2
section
variable {X : Cx} {W : WB}
end
end DL
namespace DL
open PySem PySem.Spec PyProof.Rows L2
section
variable {K : PySem.W.Frag} {mg : MG}
end
end DL
namespace DL
open PySem PySem.Spec PyProof.Rows L2 NdefX LamX LiI
section
variable {X : Cx} {e : Expr} {te : TE} {p apos cpos pos lpos kpos : Pos}
end
end DL
namespace DL
open PySem PySem.Spec PyProof.Rows PySem.SeqAt L2
section
variable {X : Cx} {W : WB} {a b : Expr} {f g : DEx} {pos : Pos}
inductive DJ (X : Cx) (W : WB) : List Expr → List DEx → Prop where
  | nil : DJ X W [] []
  | cons {e : Expr} {f : DEx} {es : List Expr} {fs : List DEx} (h : DE X W e f) (r : DJ X W es fs) : DJ X W (e :: es) (f :: fs)
end
section
variable {X : Cx} {CX : CXT} {k : Nat} {f C : Addr} {fd : FuncData} {ps : List Str} {sp : Sp} {E : XK}
end
section
variable {X : Cx} {E : XK} {b : Low} {k k' : Nat} {den : Den} {c : Str} {e : Expr} {g : DEx} {p pos : Pos}
end
end DL
set_option maxHeartbeats 400000
namespace DL
open PySem PySem.Spec PyProof.Rows L2
section
variable {X : Cx} {e ke : Expr} {te : TE} {p pos kpos : Pos}
end
section
variable {X : Cx} {W : WB} {e : Expr} {f : DEx} {p np pos kpos : Pos}
end
end DL
set_option maxHeartbeats 400000
namespace DL
open PySem PySem.Spec PyProof.Rows L2 NdefX LamX
section
variable {X : Cx} {e : Expr} {te : TE} {p pos lpos kpos : Pos}
end
end DL
namespace DL
open PySem PySem.Spec PyProof.Rows L2
def rCatT0 (K : PySem.W.Frag) : R2 := fun x y H Q => ∃ a b ys, x = .ref a ∧ y = .ref b ∧ SqT K H a [] ∧ SqT K H b ys ∧ Q (.ref b) H
theorem op_catT0 {X : Cx} : OpR X (binaryOp .Add) (rCatT0 X.K) := by
  intro pins s σ H x y v u Q I rx ry h
  obtain ⟨a, b, ys, rfl, rfl, h1, h2, q⟩ := h
  obtain rfl : v = Value.ref a := rx
  obtain rfl : u = Value.ref b := ry
  obtain ⟨i1, v1, t1, _⟩ := I.tuple h1
  obtain ⟨i2, v2, t2, z2⟩ := I.tuple h2
  cases v1
  have l2 : i2.length ≤ sizeLine := by rw [← Paired.length v2]; exact z2
  have e0 : ∀ (b : Addr) (o : Obj), ({ s.heap with objs := #[] } : Heap).get? b = some o → s.heap.get? b = some o := fun b o z => by
    simp [Heap.get?] at z
  refine PyProof.Rows.add_tuples (h₀ := { s.heap with objs := #[] }) (L := mainGlobals) (m := X.mg) (news := []) ⟨I.mod.glob.keeps I.bk, e0, Nat.zero_le _⟩ (fun p hp => by simp at hp) t1 t2 (fun _ => ⟨.ref b, H, I, rfl, q⟩) (fun n => absurd rfl n) (fun n => absurd rfl n) (by simpa using l2)
def addKT : D → D → Option D
  | .tup xs, .tup ys => if xs.length + ys.length ≤ sizeLine then some (.tup (xs ++ ys)) else none
  | _, _ => none
def pCatT0 : D → D → Option D
  | .tup xs, .tup ys => if xs = [] then some (.tup ys) else none
  | _, _ => none
section
variable {K : PySem.W.Frag} {mg : MG}
theorem ansF_catT0 : AnsF K mg (rCatT0 K) pCatT0 := fun w x y d e z Q s rx ry q k => by
  unfold pCatT0 at q
  split at q
  · split at q
    · rename_i hz
      subst hz
      cases q
      cases rx with
      | tup h1 l1 s1 =>
        cases ry with
        | tup h2 l2 s2 =>
          cases s1
          exact ⟨_, _, _, rfl, rfl, SqT.mono s.sub h1, SqT.mono s.sub h2, k w _ rfl rfl rfl (Aft.refl s) (.tup h2 l2 s2)⟩
    · cases q
  · cases q
end
theorem de_addT {X : Cx} {W : WB} {a b : Expr} {f g : DEx} {pos : Pos} (ha : DE X W a f) (hb : DE X W b g) : DE X W (.BinOp a .Add b pos) (lift2 addKT f g) := by
  refine de_opF (opR_or op_catT op_catT0) (AnsF.or fun d e z q => ?_) ha hb
  unfold addKT at q
  split at q
  · rename_i xs ys
    by_cases hx : xs = []
    · subst hx
      refine ⟨pCatT0, ?_, .inr ansF_catT0⟩
      split at q
      · exact q
      · cases q
    · refine ⟨pCatT, ?_, .inl ansF_catT⟩
      unfold pCatT
      split at q
      · rename_i hz
        show (if xs ≠ [] ∧ xs.length + ys.length ≤ sizeLine then some (D.tup (xs ++ ys)) else none) = _
        rw [if_pos (And.intro hx hz)]; exact q
      · cases q
  · cases q
@[simp] theorem addKT_tup {xs ys : List D} (h : xs.length + ys.length ≤ sizeLine) : addKT (.tup xs) (.tup ys) = some (.tup (xs ++ ys)) := if_pos h
end DL
namespace DL
open PySem PySem.Spec PyProof.Rows L2
end DL
namespace BK
section
variable {τ σ : Type} [DecidableEq τ] [DecidableEq σ] [BK σ]
def first (p : Run τ σ) : σ := p.2.headD emp
end
end BK
namespace BK
section
variable {τ σ : Type} [DecidableEq τ] [DecidableEq σ] [BK σ]
end
end BK
namespace DL
open PySem L2
end DL
namespace DL
open PySem L2
section
variable {X : Cx} {W : WB} {e1 e2 j k : Expr} {f : DEx} {p q : DPx} {x : Str} {np np2 pos tpos tpos2 pt pv2 : Pos} {i kt kv : Nat}
end
end DL
set_option maxHeartbeats 2000000
namespace DL
open PySem L2
section
variable {K : PySem.W.Frag} {mg : MG} {W : WB}
end
section
variable {X : Cx} {W : WB} {elt tg iter tg1 iter1 : Expr} {ifs ifs1 : List Expr} {scope : Scope} {own : List (Str × Nat)} {is is1 vs1 : List Nat} {pos : Pos} {fi : DEx} {g : DGx} {c fi1 : DEx} {g1 : DGx} {c1 f : DEx}
end
end DL
namespace DL
open PySem PySem.Spec PyProof.Rows L2
end DL
namespace DL
open PySem PySem.Spec PyProof.Rows L2
section
variable {X : Cx} {W : WB} {e : Expr} {f : DEx} {p pos : Pos}
end
end DL
namespace DL
open PySem PySem.Spec PySem.W PyProof.Rows L2
section
variable {X : Cx} {W : WB} {e : Expr} {f : DEx} {p pos : Pos} {best : PyData → List PyData → PyData}
end
end DL
namespace DL
open PySem PySem.Spec PyProof.Rows L2
end DL
set_option maxHeartbeats 2000000
namespace L2H
open PySem PySem.Spec PyProof.Rows L2
section
variable {X : Cx} {a C : Addr} {d : Option Addr}
end
end L2H
namespace DL
open PySem PySem.Spec PyProof.Rows L2 L2H
section
variable {X : Cx} {W : WB} {a C : Addr} {c : Str} {od : Option Addr} {i : Nat} {x : Str}
end
section
variable {K : PySem.W.Frag} {mg : Str → Option Value} {x : Str} {A : Addr}
end
end DL
namespace DL
open PySem PySem.Spec PyProof.Rows L2
end DL
namespace DL
open PySem PySem.Spec PyProof.Rows L2 PySem.W PySem.Calls
end DL
namespace DL
open PySem PySem.Spec PyProof.Rows L2
end DL
namespace DL
open PySem PySem.Spec PyProof.Rows L2 PySem.W PySem.Calls
end DL
namespace PySem.SeqAt
open AutoSeq1 (wpAny_loadPart')
open MeetsSeq MeetsSeq2 MeetsSeq3
def IsDct (h : Heap) (l : Addr) : Prop := ∃ es ep, h.get? l = some { cls := .type "dict", dict := none, data := .dict es ep, slots := #[] }
section
variable (l : Addr) (es : Array DictEntry) (ep : Nat)
abbrev dObj (es : Array DictEntry) (ep : Nat) : Obj := { cls := .type "dict", dict := none, data := .dict es ep, slots := #[] }
theorem dict_eq_declines_none : Meets (Builtin.«dict.__eq__» ⟨[.ref l, .none], []⟩) (fun _ R s => s.heap.get? l = some (dObj es ep) ∧ R (.ok (.ret .notImplemented)) s) :=
  .of_wp fun prog w A R s h => by obtain ⟨hp, g, d, tk, os⟩ := s; obtain ⟨hl, h⟩ := h; have f1 := F.sub_NoneType_dict; wp_walk using wpAny_loadPart' hl; exact ⟨_, rfl, h⟩
theorem dict_eq_declines_bool (b : Bool) : Meets (Builtin.«dict.__eq__» ⟨[.ref l, .bool b], []⟩) (fun _ R s => s.heap.get? l = some (dObj es ep) ∧ R (.ok (.ret .notImplemented)) s) :=
  .of_wp fun prog w A R s h => by obtain ⟨hp, g, d, tk, os⟩ := s; obtain ⟨hl, h⟩ := h; have f1 := F.sub_bool_dict; wp_walk using wpAny_loadPart' hl; exact ⟨_, rfl, h⟩
theorem dict_eq_declines_int (b : Int) (u : Tok) : Meets (Builtin.«dict.__eq__» ⟨[.ref l, .int b u], []⟩) (fun _ R s => s.heap.get? l = some (dObj es ep) ∧ R (.ok (.ret .notImplemented)) s) :=
  .of_wp fun prog w A R s h => by obtain ⟨hp, g, d, tk, os⟩ := s; obtain ⟨hl, h⟩ := h; have f1 := F.sub_int_dict; wp_walk using wpAny_loadPart' hl; exact ⟨_, rfl, h⟩
theorem dict_eq_declines_str (b : Str) (u : Tok) : Meets (Builtin.«dict.__eq__» ⟨[.ref l, .str b u], []⟩) (fun _ R s => s.heap.get? l = some (dObj es ep) ∧ R (.ok (.ret .notImplemented)) s) :=
  .of_wp fun prog w A R s h => by obtain ⟨hp, g, d, tk, os⟩ := s; obtain ⟨hl, h⟩ := h; have f1 := F.sub_str_dict; wp_walk using wpAny_loadPart' hl; exact ⟨_, rfl, h⟩
theorem bool_eq_declines_dict (b : Bool) : Meets (Builtin.«int.__eq__» ⟨[.bool b, .ref l], []⟩) (fun _ R s => s.heap.get? l = some (dObj es ep) ∧ R (.ok (.ret .notImplemented)) s) :=
  .of_wp fun prog w A R s h => by obtain ⟨hp, g, d, tk, os⟩ := s; obtain ⟨hl, h⟩ := h; wp_walk using wpAny_loadPart' hl, wpAny_load hl; exact ⟨_, rfl, h⟩
theorem int_eq_declines_dict (b : Int) (u : Tok) : Meets (Builtin.«int.__eq__» ⟨[.int b u, .ref l], []⟩) (fun _ R s => s.heap.get? l = some (dObj es ep) ∧ R (.ok (.ret .notImplemented)) s) :=
  .of_wp fun prog w A R s h => by obtain ⟨hp, g, d, tk, os⟩ := s; obtain ⟨hl, h⟩ := h; wp_walk using wpAny_loadPart' hl, wpAny_load hl; exact ⟨_, rfl, h⟩
theorem str_eq_declines_dict (b : Str) (u : Tok) : Meets (Builtin.«str.__eq__» ⟨[.str b u, .ref l], []⟩) (fun _ R s => s.heap.get? l = some (dObj es ep) ∧ R (.ok (.ret .notImplemented)) s) :=
  .of_wp fun prog w A R s h => by obtain ⟨hp, g, d, tk, os⟩ := s; obtain ⟨hl, h⟩ := h; wp_walk using wpAny_loadPart' hl, wpAny_load hl; exact ⟨_, rfl, h⟩
theorem dict_ne_declines_none : Meets (Builtin.«dict.__ne__» ⟨[.ref l, .none], []⟩) (fun _ R s => s.heap.get? l = some (dObj es ep) ∧ R (.ok (.ret .notImplemented)) s) :=
  .of_wp fun prog w A R s h => by obtain ⟨hp, g, d, tk, os⟩ := s; obtain ⟨hl, h⟩ := h; have f1 := F.sub_NoneType_dict; wp_walk using wpAny_loadPart' hl; exact ⟨_, rfl, h⟩
theorem dict_ne_declines_bool (b : Bool) : Meets (Builtin.«dict.__ne__» ⟨[.ref l, .bool b], []⟩) (fun _ R s => s.heap.get? l = some (dObj es ep) ∧ R (.ok (.ret .notImplemented)) s) :=
  .of_wp fun prog w A R s h => by obtain ⟨hp, g, d, tk, os⟩ := s; obtain ⟨hl, h⟩ := h; have f1 := F.sub_bool_dict; wp_walk using wpAny_loadPart' hl; exact ⟨_, rfl, h⟩
theorem dict_ne_declines_int (b : Int) (u : Tok) : Meets (Builtin.«dict.__ne__» ⟨[.ref l, .int b u], []⟩) (fun _ R s => s.heap.get? l = some (dObj es ep) ∧ R (.ok (.ret .notImplemented)) s) :=
  .of_wp fun prog w A R s h => by obtain ⟨hp, g, d, tk, os⟩ := s; obtain ⟨hl, h⟩ := h; have f1 := F.sub_int_dict; wp_walk using wpAny_loadPart' hl; exact ⟨_, rfl, h⟩
theorem dict_ne_declines_str (b : Str) (u : Tok) : Meets (Builtin.«dict.__ne__» ⟨[.ref l, .str b u], []⟩) (fun _ R s => s.heap.get? l = some (dObj es ep) ∧ R (.ok (.ret .notImplemented)) s) :=
  .of_wp fun prog w A R s h => by obtain ⟨hp, g, d, tk, os⟩ := s; obtain ⟨hl, h⟩ := h; have f1 := F.sub_str_dict; wp_walk using wpAny_loadPart' hl; exact ⟨_, rfl, h⟩
theorem bool_ne_declines_dict (b : Bool) : Meets (Builtin.«int.__ne__» ⟨[.bool b, .ref l], []⟩) (fun _ R s => s.heap.get? l = some (dObj es ep) ∧ R (.ok (.ret .notImplemented)) s) :=
  .of_wp fun prog w A R s h => by obtain ⟨hp, g, d, tk, os⟩ := s; obtain ⟨hl, h⟩ := h; wp_walk using wpAny_loadPart' hl, wpAny_load hl; exact ⟨_, rfl, h⟩
theorem int_ne_declines_dict (b : Int) (u : Tok) : Meets (Builtin.«int.__ne__» ⟨[.int b u, .ref l], []⟩) (fun _ R s => s.heap.get? l = some (dObj es ep) ∧ R (.ok (.ret .notImplemented)) s) :=
  .of_wp fun prog w A R s h => by obtain ⟨hp, g, d, tk, os⟩ := s; obtain ⟨hl, h⟩ := h; wp_walk using wpAny_loadPart' hl, wpAny_load hl; exact ⟨_, rfl, h⟩
theorem str_ne_declines_dict (b : Str) (u : Tok) : Meets (Builtin.«str.__ne__» ⟨[.str b u, .ref l], []⟩) (fun _ R s => s.heap.get? l = some (dObj es ep) ∧ R (.ok (.ret .notImplemented)) s) :=
  .of_wp fun prog w A R s h => by obtain ⟨hp, g, d, tk, os⟩ := s; obtain ⟨hl, h⟩ := h; wp_walk using wpAny_loadPart' hl, wpAny_load hl; exact ⟨_, rfl, h⟩
end
section
variable {A : Around} {s : Shared} {l : Addr}
theorem RcAt.dict_none (hl : IsDct s.heap l) (hu : A.units < cLine) : RcAt A s (.ref l) .none false := fun prog w E Q h => by
  obtain ⟨es, ep, ho⟩ := hl
  exact rc_eq_decline_or (k := false) ⟨_, ho, rfl⟩ rfl (by decide) F.sub_NoneType_dict F.slot_dict_eq F.slot_NoneType_eq_refl
    (fun _ hq => call_meets F.slot_dict_eq ⟨_, ho, rfl⟩ F.entry_dict_eq (F.args_dict_eq_2 _ _) (dict_eq_declines_none l es ep) ⟨ho, hq⟩)
    (fun _ hq => call_gives F.slot_NoneType_eq_refl rfl F.entry_NoneType_eq (F.args_NoneType_eq_2 _ _) (NoneType___eq___none_ref_0 l) hq)
    (fun _ hq => wpAny_of_eq (rfl : isSame (.ref l) .none = pure false) hq) (.inr hu) h
theorem RcAt.dict_bool (b : Bool) (hl : IsDct s.heap l) (hu : A.units < cLine) : RcAt A s (.ref l) (.bool b) false := fun prog w E Q h => by
  obtain ⟨es, ep, ho⟩ := hl
  exact rc_eq_decline_or (k := false) ⟨_, ho, rfl⟩ rfl (by decide) F.sub_bool_dict F.slot_dict_eq F.slot_bool_eq_refl
    (fun _ hq => call_meets F.slot_dict_eq ⟨_, ho, rfl⟩ F.entry_dict_eq (F.args_dict_eq_2 _ _) (dict_eq_declines_bool l es ep b) ⟨ho, hq⟩)
    (fun _ hq => call_meets F.slot_bool_eq_refl rfl F.entry_int_eq (F.args_int_eq_2 _ _) (bool_eq_declines_dict l es ep b) ⟨ho, hq⟩)
    (fun _ hq => wpAny_of_eq (rfl : isSame (.ref l) (.bool b) = pure false) hq) (.inr hu) h
theorem RcAt.dict_int (b : Int) (u : Tok) (hl : IsDct s.heap l) (hu : A.units < cLine) : RcAt A s (.ref l) (.int b u) false := fun prog w E Q h => by
  obtain ⟨es, ep, ho⟩ := hl
  exact rc_eq_decline_or (k := false) ⟨_, ho, rfl⟩ (typeIs_int s b u) (by decide) F.sub_int_dict F.slot_dict_eq F.slot_int_eq_refl
    (fun _ hq => call_meets F.slot_dict_eq ⟨_, ho, rfl⟩ F.entry_dict_eq (F.args_dict_eq_2 _ _) (dict_eq_declines_int l es ep b u) ⟨ho, hq⟩)
    (fun _ hq => call_meets F.slot_int_eq_refl (typeIs_int s b u) F.entry_int_eq (F.args_int_eq_2 _ _) (int_eq_declines_dict l es ep b u) ⟨ho, hq⟩)
    (fun _ hq => wpAny_of_eq (rfl : isSame (.ref l) (.int b u) = pure false) hq) (.inr hu) h
theorem RcAt.dict_str (b : Str) (u : Tok) (hl : IsDct s.heap l) (hu : A.units < cLine) : RcAt A s (.ref l) (.str b u) false := fun prog w E Q h => by
  obtain ⟨es, ep, ho⟩ := hl
  exact rc_eq_decline_or (k := false) ⟨_, ho, rfl⟩ (typeIs_str s b u) (by decide) F.sub_str_dict F.slot_dict_eq F.slot_str_eq_refl
    (fun _ hq => call_meets F.slot_dict_eq ⟨_, ho, rfl⟩ F.entry_dict_eq (F.args_dict_eq_2 _ _) (dict_eq_declines_str l es ep b u) ⟨ho, hq⟩)
    (fun _ hq => call_meets F.slot_str_eq_refl (typeIs_str s b u) F.entry_str_eq (F.args_str_eq_2 _ _) (str_eq_declines_dict l es ep b u) ⟨ho, hq⟩)
    (fun _ hq => wpAny_of_eq (rfl : isSame (.ref l) (.str b u) = pure false) hq) (.inr hu) h
theorem EqAt.dict_none (hl : IsDct s.heap l) (hu : A.units < cLine) : EqAt A s (.ref l) .none false := fun prog w E Q h => by
  unfold eqBool
  refine wpAny_holding ?_
  refine wpAny_ite_split (fun hab => absurd (eq_of_beq hab) nofun) (fun _ => ?_)
  exact wpAny_bind (RcAt.dict_none hl hu prog w E _ (wpAny_truthy_bool h))
theorem EqAt.dict_bool (b : Bool) (hl : IsDct s.heap l) (hu : A.units < cLine) : EqAt A s (.ref l) (.bool b) false := fun prog w E Q h => by
  unfold eqBool
  refine wpAny_holding ?_
  refine wpAny_ite_split (fun hab => absurd (eq_of_beq hab) nofun) (fun _ => ?_)
  exact wpAny_bind (RcAt.dict_bool b hl hu prog w E _ (wpAny_truthy_bool h))
theorem EqAt.dict_int (b : Int) (u : Tok) (hl : IsDct s.heap l) (hu : A.units < cLine) : EqAt A s (.ref l) (.int b u) false := fun prog w E Q h => by
  unfold eqBool
  refine wpAny_holding ?_
  refine wpAny_ite_split (fun hab => absurd (eq_of_beq hab) nofun) (fun _ => ?_)
  exact wpAny_bind (RcAt.dict_int b u hl hu prog w E _ (wpAny_truthy_bool h))
theorem EqAt.dict_str (b : Str) (u : Tok) (hl : IsDct s.heap l) (hu : A.units < cLine) : EqAt A s (.ref l) (.str b u) false := fun prog w E Q h => by
  unfold eqBool
  refine wpAny_holding ?_
  refine wpAny_ite_split (fun hab => absurd (eq_of_beq hab) nofun) (fun _ => ?_)
  exact wpAny_bind (RcAt.dict_str b u hl hu prog w E _ (wpAny_truthy_bool h))
theorem RcNeAt.dict_none (hl : IsDct s.heap l) (hu : A.units < cLine) : RcNeAt A s (.ref l) .none true := fun prog w E Q h => by
  obtain ⟨es, ep, ho⟩ := hl
  exact rc_ne_decline_or (k := false) ⟨_, ho, rfl⟩ rfl (by decide) F.sub_NoneType_dict F.slot_dict_ne F.slot_NoneType_ne_refl
    (fun _ hq => call_meets F.slot_dict_ne ⟨_, ho, rfl⟩ F.entry_dict_ne (F.args_dict_ne_2 _ _) (dict_ne_declines_none l es ep) ⟨ho, hq⟩)
    (fun _ hq => call_gives F.slot_NoneType_ne_refl rfl F.entry_NoneType_ne (F.args_NoneType_ne_2 _ _) (NoneType___ne___none_ref_0 l) hq)
    (fun _ hq => wpAny_of_eq (rfl : isSame (.ref l) .none = pure false) hq) (.inr hu) h
theorem RcNeAt.dict_bool (b : Bool) (hl : IsDct s.heap l) (hu : A.units < cLine) : RcNeAt A s (.ref l) (.bool b) true := fun prog w E Q h => by
  obtain ⟨es, ep, ho⟩ := hl
  exact rc_ne_decline_or (k := false) ⟨_, ho, rfl⟩ rfl (by decide) F.sub_bool_dict F.slot_dict_ne F.slot_bool_ne_refl
    (fun _ hq => call_meets F.slot_dict_ne ⟨_, ho, rfl⟩ F.entry_dict_ne (F.args_dict_ne_2 _ _) (dict_ne_declines_bool l es ep b) ⟨ho, hq⟩)
    (fun _ hq => call_meets F.slot_bool_ne_refl rfl F.entry_int_ne (F.args_int_ne_2 _ _) (bool_ne_declines_dict l es ep b) ⟨ho, hq⟩)
    (fun _ hq => wpAny_of_eq (rfl : isSame (.ref l) (.bool b) = pure false) hq) (.inr hu) h
theorem RcNeAt.dict_int (b : Int) (u : Tok) (hl : IsDct s.heap l) (hu : A.units < cLine) : RcNeAt A s (.ref l) (.int b u) true := fun prog w E Q h => by
  obtain ⟨es, ep, ho⟩ := hl
  exact rc_ne_decline_or (k := false) ⟨_, ho, rfl⟩ (typeIs_int s b u) (by decide) F.sub_int_dict F.slot_dict_ne F.slot_int_ne_refl
    (fun _ hq => call_meets F.slot_dict_ne ⟨_, ho, rfl⟩ F.entry_dict_ne (F.args_dict_ne_2 _ _) (dict_ne_declines_int l es ep b u) ⟨ho, hq⟩)
    (fun _ hq => call_meets F.slot_int_ne_refl (typeIs_int s b u) F.entry_int_ne (F.args_int_ne_2 _ _) (int_ne_declines_dict l es ep b u) ⟨ho, hq⟩)
    (fun _ hq => wpAny_of_eq (rfl : isSame (.ref l) (.int b u) = pure false) hq) (.inr hu) h
theorem RcNeAt.dict_str (b : Str) (u : Tok) (hl : IsDct s.heap l) (hu : A.units < cLine) : RcNeAt A s (.ref l) (.str b u) true := fun prog w E Q h => by
  obtain ⟨es, ep, ho⟩ := hl
  exact rc_ne_decline_or (k := false) ⟨_, ho, rfl⟩ (typeIs_str s b u) (by decide) F.sub_str_dict F.slot_dict_ne F.slot_str_ne_refl
    (fun _ hq => call_meets F.slot_dict_ne ⟨_, ho, rfl⟩ F.entry_dict_ne (F.args_dict_ne_2 _ _) (dict_ne_declines_str l es ep b u) ⟨ho, hq⟩)
    (fun _ hq => call_meets F.slot_str_ne_refl (typeIs_str s b u) F.entry_str_ne (F.args_str_ne_2 _ _) (str_ne_declines_dict l es ep b u) ⟨ho, hq⟩)
    (fun _ hq => wpAny_of_eq (rfl : isSame (.ref l) (.str b u) = pure false) hq) (.inr hu) h
theorem RcAt.str_dict (b : Str) (u : Tok) (hl : IsDct s.heap l) (hu : A.units < cLine) : RcAt A s (.str b u) (.ref l) false := fun prog w E Q h => by
  obtain ⟨es, ep, ho⟩ := hl
  exact rc_eq_decline_or (k := false) (typeIs_str s b u) ⟨_, ho, rfl⟩ (by decide) F.sub_dict_str F.slot_str_eq F.slot_dict_eq_refl
    (fun _ hq => call_meets F.slot_str_eq (typeIs_str s b u) F.entry_str_eq (F.args_str_eq_2 _ _) (str_eq_declines_dict l es ep b u) ⟨ho, hq⟩)
    (fun _ hq => call_meets F.slot_dict_eq_refl ⟨_, ho, rfl⟩ F.entry_dict_eq (F.args_dict_eq_2 _ _) (dict_eq_declines_str l es ep b u) ⟨ho, hq⟩)
    (fun _ hq => wpAny_of_eq (rfl : isSame (.str b u) (.ref l) = pure false) hq) (.inr hu) h
theorem EqAt.str_dict (b : Str) (u : Tok) (hl : IsDct s.heap l) (hu : A.units < cLine) : EqAt A s (.str b u) (.ref l) false := fun prog w E Q h => by
  unfold eqBool
  refine wpAny_holding ?_
  refine wpAny_ite_split (fun hab => absurd (eq_of_beq hab) nofun) (fun _ => ?_)
  exact wpAny_bind (RcAt.str_dict b u hl hu prog w E _ (wpAny_truthy_bool h))
end
end PySem.SeqAt
namespace DL
open PySem PySem.Spec PyProof.Rows L2
@[simp] def subSetE (i : Nat) (g f : DEx) (ρ0 : En) (st0 : Store) : Fl := thenF f (fun d ρ st => match holdsL i ρ st with
  | true => thenF g (fun j ρ st => match mutAt i (kSet j) [d] ρ st with
    | .ok _ ρ st => .nx ρ st
    | _ => .bad) ρ st
  | false => .bad) ρ0 st0
section
variable {X : Cx} {W : WB} {e j : Expr} {f g : DEx} {x : Str} {np pos tpos : Pos} {i : Nat}
theorem ds_subE (he : DE X W e f) (hj : DE X W j g)
    (hN : X.N[i]? = some x := by rfl) (hv : Vis X.env.scope x := by first | exact Or.inl rfl | exact Or.inr (Or.inl rfl) | exact Or.inr (Or.inr rfl)) (hd : (x == ("__debug__" : Str)) = false := by decide) (hcd : (x == ("__classdict__" : Str)) = false := by decide)
    (ha : ∀ v, assign (.Subscript (.Name x np) j tpos) X.env v = (do
      let ov ← holding [v] (eval (.Name x np) X.env)
      let iv ← holding [v, ov] (eval j X.env)
      standAt tpos
      holding [v, ov, iv] (setItem ov iv v)
      release [v, ov, iv] []) := by intro _; rfl)
    (hs : swapsWithSole [.Subscript (.Name x np) j tpos] e pos.line X.env = pure false := by rfl) (hw : swappedStores [.Subscript (.Name x np) j tpos] e X.env = pure none := by rfl)
    (h1 : (assignEach [.Subscript (.Name x np) j tpos] X.env).map (·.2) = [assign (.Subscript (.Name x np) j tpos) X.env] := by rfl) : DS X W (.Assign [.Subscript (.Name x np) j tpos] e pos) (subSetE i g f) := by
  obtain ⟨te, pe, re⟩ := he
  obtain ⟨tj, pj, rj⟩ := hj
  refine ⟨_, ps_asg pe (pg_sub (pv i hN hv hd hcd) pj set_list ha) hs hw h1, fun w E s q => ?_⟩
  refine re.bindF s q fun w1 v d s1 e1 a1 r1 q1 => ?_
  cases z : holdsL i w1.ρ w1.st with
  | false => simp only [z] at q1; exact q1.elim
  | true =>
    simp only [z] at q1
    obtain ⟨a, vs0, h1, _⟩ := holdsL_inv s1 z
    show gSub (tVar i) tj rSetL v w.σ w1.H E.nx
    refine ⟨.ref a, by rw [← e1]; exact h1, ?_⟩
    rw [← e1]
    refine rj.bindF s1 q1 fun w2 vj jd s2 e2 a2 rvj q3 => ?_
    have q2 : OkR X.K (MGx X W.b) W w2 (fun _ H => E.nx w2.σ H) (mutAt i (kSet jd) [d] w2.ρ w2.st) := by
      cases y : mutAt i (kSet jd) [d] w2.ρ w2.st with
      | ok d' ρ st =>
        rw [y] at q3
        intro w' v h1 h2 h3 A r
        have := q3 w' h1 h2 A
        rw [h3] at this; exact this
      | exc c ρ st => rw [y] at q3; exact q3.elim
      | bad => rw [y] at q3; exact q3.elim
    obtain ⟨a', vs, ds, ds', y, k1, h2, h3, h4, h5, h6⟩ := mutAt_inv s2 q2
    rw [e2, h1] at k1
    cases k1
    rw [← e2]
    have r2 := r1.mono a2.g a2.i
    unfold kSet at h5
    split at h5
    · split at h5
      · rename_i n hn
        cases h5
        rename_i heq _
        cases heq
        cases rvj
        refine ⟨a, vs, _, n, rfl, rfl, h2, by rw [h4.len]; exact hn, ?_⟩
        exact h6 (vs.set n v) .non (by simpa using h3) (h4.set r2 n) .non
      · cases h5
    · cases h5
end
end DL
namespace DL
open PySem PySem.Spec PyProof.Rows L2 SeqAt
def CtV (K : PySem.W.Frag) (H : Hp) (x : V) : Prop := ∃ a, x = .ref a ∧ ((∃ xs, SqL K H a xs) ∨ (∃ xs, SqT K H a xs) ∨ ∃ kvs, Rd H a (.dK kvs))
def CtA (h : Heap) (a : Addr) : Prop := (∃ vs, h.IsList a vs) ∨ (∃ vs, h.IsTuple a vs) ∨ IsDct h a
section
variable {X : Cx} {pins : List (Addr × Obj)} {σ : L2.St} {H : Hp} {s : Shared}
theorem CtV.at (I : Inv X pins σ H s) {x : V} {v : Value} (c : CtV X.K H x) (r : RelV x v) : ∃ a, v = .ref a ∧ CtA s.heap a := by
  obtain ⟨a, rfl, c⟩ := c
  cases (show v = Value.ref a from r)
  refine ⟨a, rfl, ?_⟩
  rcases c with ⟨xs, h⟩ | ⟨xs, h⟩ | ⟨kvs, h⟩
  · obtain ⟨its, _, hl, _⟩ := I.list h
    exact .inl ⟨_, hl.isList⟩
  · obtain ⟨its, _, hl, _⟩ := I.tuple h
    exact .inr (.inl ⟨_, hl⟩)
  · obtain ⟨_, _, vs, _, o, es, ep, ho, hex, hd, _⟩ := dk_rd I.hok h
    obtain ⟨h1, h2, h3⟩ := hex
    refine .inr (.inr ⟨es, ep, ?_⟩)
    rw [ho]
    cases o
    simp only at h1 h2 h3 hd
    subst h1 h2 h3 hd
    rfl
end
inductive ScV : V → PyData → Prop
  | non : ScV .non .none
  | bl (b : Bool) : ScV (.bl b) (.bool b)
  | int (i : Int) : ScV (.int i) (.int i)
  | str (x : Str) : ScV (.str x) (.str x)
theorem ScV.reads {x : V} {p : PyData} {v : Value} {h : Heap} (c : ScV x p) (r : RelV x v) : Reads h v p [] := by
  cases c with
  | non => cases (show v = Value.none from r); exact .none
  | bl b => cases (show v = Value.bool b from r); exact .bool b
  | int i => obtain ⟨t, rfl⟩ := (show ∃ t, v = Value.int i t from r); exact .int i t
  | str x => obtain ⟨t, rfl⟩ := (show ∃ t, v = Value.str x t from r); exact .str x t
theorem ScV.dep {x : V} {p : PyData} (c : ScV x p) : p.depth = 0 := by cases c <;> rfl
section
variable {A : Around} {s : Shared}
theorem CtA.eq_sc {a : Addr} {y : V} {p : PyData} {u : Value} (c : CtA s.heap a) (k : ScV y p) (r : RelV y u) (hu : A.units < cLine) : EqAt A s (.ref a) u false := by
  cases k with
  | non =>
    cases (show u = Value.none from r)
    rcases c with ⟨vs, h⟩ | ⟨vs, h⟩ | h
    · exact EqAt.list_none h hu
    · exact EqAt.tuple_none h hu
    · exact EqAt.dict_none h hu
  | bl b =>
    cases (show u = Value.bool b from r)
    rcases c with ⟨vs, h⟩ | ⟨vs, h⟩ | h
    · exact EqAt.list_bool b h hu
    · exact EqAt.tuple_bool b h hu
    · exact EqAt.dict_bool b h hu
  | int i =>
    obtain ⟨t, rfl⟩ := (show ∃ t, u = Value.int i t from r)
    rcases c with ⟨vs, h⟩ | ⟨vs, h⟩ | h
    · exact EqAt.list_int i t h hu
    · exact EqAt.tuple_int i t h hu
    · exact EqAt.dict_int i t h hu
  | str x =>
    obtain ⟨t, rfl⟩ := (show ∃ t, u = Value.str x t from r)
    rcases c with ⟨vs, h⟩ | ⟨vs, h⟩ | h
    · exact EqAt.list_str x t h hu
    · exact EqAt.tuple_str x t h hu
    · exact EqAt.dict_str x t h hu
theorem CtA.rc_sc {a : Addr} {y : V} {p : PyData} {u : Value} (c : CtA s.heap a) (k : ScV y p) (r : RelV y u) (hu : A.units < cLine) : RcAt A s (.ref a) u false ∧ RcNeAt A s (.ref a) u true := by
  cases k with
  | non =>
    cases (show u = Value.none from r)
    rcases c with ⟨vs, h⟩ | ⟨vs, h⟩ | h
    · exact ⟨RcAt.list_none h hu, RcNeAt.list_none h hu⟩
    · exact ⟨RcAt.tuple_none h hu, RcNeAt.tuple_none h hu⟩
    · exact ⟨RcAt.dict_none h hu, RcNeAt.dict_none h hu⟩
  | bl b =>
    cases (show u = Value.bool b from r)
    rcases c with ⟨vs, h⟩ | ⟨vs, h⟩ | h
    · exact ⟨RcAt.list_bool b h hu, RcNeAt.list_bool b h hu⟩
    · exact ⟨RcAt.tuple_bool b h hu, RcNeAt.tuple_bool b h hu⟩
    · exact ⟨RcAt.dict_bool b h hu, RcNeAt.dict_bool b h hu⟩
  | int i =>
    obtain ⟨t, rfl⟩ := (show ∃ t, u = Value.int i t from r)
    rcases c with ⟨vs, h⟩ | ⟨vs, h⟩ | h
    · exact ⟨RcAt.list_int i t h hu, RcNeAt.list_int i t h hu⟩
    · exact ⟨RcAt.tuple_int i t h hu, RcNeAt.tuple_int i t h hu⟩
    · exact ⟨RcAt.dict_int i t h hu, RcNeAt.dict_int i t h hu⟩
  | str x =>
    obtain ⟨t, rfl⟩ := (show ∃ t, u = Value.str x t from r)
    rcases c with ⟨vs, h⟩ | ⟨vs, h⟩ | h
    · exact ⟨RcAt.list_str x t h hu, RcNeAt.list_str x t h hu⟩
    · exact ⟨RcAt.tuple_str x t h hu, RcNeAt.tuple_str x t h hu⟩
    · exact ⟨RcAt.dict_str x t h hu, RcNeAt.dict_str x t h hu⟩
theorem CtA.str_eq {a : Addr} {x : Str} {t : Tok} (c : CtA s.heap a) (hu : A.units < cLine) : EqAt A s (.str x t) (.ref a) false := by
  rcases c with ⟨vs, h⟩ | ⟨vs, h⟩ | h
  · exact EqAt.str_list x t h hu
  · exact EqAt.str_tuple x t h hu
  · exact EqAt.str_dict x t h hu
end
def AnB (K : PySem.W.Frag) (H : Hp) (x y : V) (b : Bool) : Prop := ∃ q, ScV y q ∧ ((CtV K H x ∧ b = false) ∨ ∃ p, ScV x p ∧ p.canLay0 = true ∧ q.canLay0 = true ∧ b = PyData.eqv p q)
inductive AnL (K : PySem.W.Frag) (H : Hp) : List V → List V → List Bool → Prop
  | nil : AnL K H [] [] []
  | cons {x y : V} {b : Bool} {xs ys : List V} {bs : List Bool} : AnB K H x y b → AnL K H xs ys bs → AnL K H (x :: xs) (y :: ys) (b :: bs)
section
variable {X : Cx} {pins : List (Addr × Obj)} {σ : L2.St} {H : Hp} {s : Shared}
theorem AnB.eqAt (I : Inv X pins σ H s) {A : Around} {x y : V} {b : Bool} {v u : Value} (h : AnB X.K H x y b) (rx : RelV x v) (ry : RelV y u) (hu : A.units < cLine) : EqAt A s v u b := by
  obtain ⟨q, hq, h | h⟩ := h
  · obtain ⟨c, rfl⟩ := h
    obtain ⟨a, rfl, ca⟩ := c.at I rx
    exact ca.eq_sc hq ry hu
  · obtain ⟨p, hp, l1, l2, rfl⟩ := h
    have d1 := hp.dep
    have d2 := hq.dep
    exact eqAt_reads p q A s v u _ _ (hp.reads rx) (hq.reads ry) l1 l2 (by rw [d1, d2]; simpa using hu)
theorem AnL.eqAt (I : Inv X pins σ H s) {A : Around} (hu : A.units < cLine) : ∀ {xs ys : List V} {bs : List Bool} {us ws : List Value}, AnL X.K H xs ys bs → Vals xs us → Vals ys ws → us.length = bs.length ∧ ws.length = bs.length ∧ ∀ j (h1 : j < us.length) (h2 : j < ws.length), EqAt A s us[j] ws[j] (bs.getD j true)
  | _, _, _, _, _, .nil, .nil, .nil => ⟨rfl, rfl, fun j h1 _ => absurd h1 (Nat.not_lt_zero _)⟩
  | _, _, _, _, _, .cons h t, .cons r1 t1, .cons r2 t2 => by
    obtain ⟨e1, e2, ih⟩ := AnL.eqAt I hu t t1 t2
    refine ⟨by simp [e1], by simp [e2], fun j h1 h2 => ?_⟩
    cases j with
    | zero => exact h.eqAt I r1 r2 hu
    | succ j => simpa using ih j (by simpa using h1) (by simpa using h2)
end
theorem all_getD : ∀ bs : List Bool, ((List.range bs.length).all fun j => bs.getD j true) = bs.all id
  | [] => rfl
  | b :: bs => by
    rw [List.length_cons, List.range_succ_eq_map, List.all_cons, List.all_map, List.all_cons]
    have := all_getD bs
    simp only [List.getD_cons_zero, Function.comp_def, List.getD_cons_succ, id_eq] at *
    rw [this]
def EqVr (K : PySem.W.Frag) (H : Hp) (x y : V) (b : Bool) : Prop :=
  (CtV K H x ∧ (∃ q, ScV y q) ∧ b = false) ∨
  (∃ a c xs ys bs, x = .ref a ∧ y = .ref c ∧ SqL K H a xs ∧ SqL K H c ys ∧ AnL K H xs ys bs ∧ b = bs.all id) ∨
  (∃ a c xs ys, x = .ref a ∧ y = .ref c ∧ SqL K H a xs ∧ SqL K H c ys ∧ xs.length ≠ ys.length ∧ b = false) ∨
  ∃ a c xs, x = .ref a ∧ y = .ref c ∧ SqT K H a xs ∧ SqT K H c [] ∧ b = xs.isEmpty
theorem eqVr_run {X : Cx} {pins : List (Addr × Obj)} {σ : L2.St} {H : Hp} {s : Shared} (I : Inv X pins σ H s) {x y : V} {b : Bool} {v u : Value} (h : EqVr X.K H x y b) (rx : RelV x v) (ry : RelV y u) (hu : X.A.units + 64 < cLine) : RcAt X.A s v u b ∧ RcNeAt X.A s v u (!b) := by
  have hu0 : X.A.units < cLine := by omega
  have hu1 : X.A.in1.units < cLine := by show X.A.units + 1 < cLine; omega
  rcases h with ⟨c, ⟨q, hq⟩, rfl⟩ | ⟨a, c, xs, ys, bs, rfl, rfl, h1, h2, h3, rfl⟩ | ⟨a, c, xs, ys, rfl, rfl, h1, h2, h3, rfl⟩ | ⟨a, c, xs, rfl, rfl, h1, h2, rfl⟩
  · obtain ⟨a, rfl, ca⟩ := c.at I rx
    exact ca.rc_sc hq ry hu0
  · cases (show v = Value.ref a from rx)
    cases (show u = Value.ref c from ry)
    obtain ⟨us, r1, p1, _⟩ := I.list h1
    obtain ⟨ws, r2, p2, _⟩ := I.list h2
    obtain ⟨e1, e2, he⟩ := h3.eqAt I hu1 r1 r2
    have hsz : us.toArray.size = ws.toArray.size := by simp [e1, e2]
    have ea : ((List.range us.toArray.size).all fun j => bs.getD j true) = bs.all id := by rw [List.size_toArray, e1, all_getD]
    have he' : ∀ j (h1 : j < us.toArray.size) (h2 : j < ws.toArray.size), EqAt X.A.in1 s us.toArray[j] ws.toArray[j] (bs.getD j true) := fun j h1 h2 => by simpa using he j (by simpa using h1) (by simpa using h2)
    have f1 := RcAt.lists p1.isList p2.isList hsz hu0 he'
    have f2 := RcNeAt.lists p1.isList p2.isList hsz hu0 he'
    rw [ea] at f1 f2
    exact ⟨f1, f2⟩
  · cases (show v = Value.ref a from rx)
    cases (show u = Value.ref c from ry)
    obtain ⟨us, r1, p1, _⟩ := I.list h1
    obtain ⟨ws, r2, p2, _⟩ := I.list h2
    have hsz : (us.toArray.size != ws.toArray.size) = true := by
      have := r1.length
      have := r2.length
      simp
      omega
    exact ⟨RcAt.lists_lengths p1.isList p2.isList hsz hu0, RcNeAt.lists_lengths p1.isList p2.isList hsz hu0⟩
  · cases (show v = Value.ref a from rx)
    cases (show u = Value.ref c from ry)
    obtain ⟨us, r1, p1, _⟩ := I.tuple h1
    obtain ⟨ws, r2, p2, _⟩ := I.tuple h2
    cases r2
    have f1 := RcAt.tuples (e := fun _ => true) p1 p2 hu0 (fun j _ h2 => absurd h2 (Nat.not_lt_zero _))
    have f2 := RcNeAt.tuples (e := fun _ => true) p1 p2 hu0 (fun j _ h2 => absurd h2 (Nat.not_lt_zero _))
    have ee : ((List.range (min us.toArray.size (#[] : Array Value).size)).all (fun _ => true) && us.toArray.size == (#[] : Array Value).size) = xs.isEmpty := by
      have := r1.length
      cases xs <;> cases us <;> simp_all
    rw [ee] at f1 f2
    exact ⟨f1, f2⟩
def rEqO (K : PySem.W.Frag) : R2 := fun x y H Q => rEqD K x y H Q ∨ ∃ b, EqVr K H x y b ∧ Q (.bl b) H
def rNeO (K : PySem.W.Frag) : R2 := fun x y H Q => rNeD K x y H Q ∨ ∃ b, EqVr K H x y b ∧ Q (.bl (!b)) H
theorem op_eqO {X : Cx} (hu : X.A.units + 64 < cLine) : OpR X (compareOp .Eq) (rEqO X.K) := fun pins s σ H x y v u Q I rx ry h => by
  rcases h with h | ⟨b, h, q⟩
  · exact op_eqD hu pins s σ H x y v u Q I rx ry h
  · exact (eqVr_run I h rx ry hu).1 X.prog X.w X.xe _ ⟨.bl _, H, I, rfl, q⟩
theorem op_neO {X : Cx} (hu : X.A.units + 64 < cLine) : OpR X (compareOp .NotEq) (rNeO X.K) := fun pins s σ H x y v u Q I rx ry h => by
  rcases h with h | ⟨b, h, q⟩
  · exact op_neD hu pins s σ H x y v u Q I rx ry h
  · exact (eqVr_run I h rx ry hu).2 X.prog X.w X.xe _ ⟨.bl _, H, I, rfl, q⟩
theorem vals_strs : ∀ {zs : List Str} {its : List Value}, Vals (zs.map V.str) its → ∀ y ∈ its, ∃ z t, y = Value.str z t
  | [], _, .nil, y, h => by cases h
  | z :: zs, _, .cons r t, y, h => by
    rcases List.mem_cons.mp h with rfl | h
    · exact ⟨z, (show ∃ t, _ = Value.str z t from r)⟩
    · exact vals_strs t y h
def rInO (K : PySem.W.Frag) (n : Bool) : R2 := fun x y H Q => rInA K n x y H Q ∨ (CtV K H x ∧ ∃ (c : Addr) (zs : List Str), y = .ref c ∧ (SqL K H c (zs.map V.str) ∨ SqT K H c (zs.map V.str)) ∧ Q (.bl n) H)
theorem op_inO {X : Cx} (hu : X.A.units + 65 < cLine) : OpR X (compareOp .In) (rInO X.K false) := fun pins s σ H x y v u Q I rx ry h => by
  rcases h with h | ⟨c, l, zs, rfl, hl, q⟩
  · exact op_inA hu pins s σ H x y v u Q I rx ry h
  · obtain ⟨a, rfl, ca⟩ := c.at I rx
    cases (show u = Value.ref l from ry)
    have hu1 : X.A.in1.units < cLine := by show X.A.units + 1 < cLine; omega
    have key : ∀ its : List Value, Vals (zs.map V.str) its → ∀ y ∈ its.toArray, EqAt X.A.in1 s y (.ref a) ((fun _ => false) y) := fun its r y hy => by
      obtain ⟨z, t, rfl⟩ := vals_strs r y (by simpa using hy)
      exact ca.str_eq hu1
    rcases hl with hl | hl
    · obtain ⟨its, r, pl, _⟩ := I.list hl
      refine in_listAt (fun _ => false) pl.isList (key its r) ?_
      rw [show its.toArray.any (fun _ => false) = false by simp]
      exact ⟨.bl _, H, I, rfl, q⟩
    · obtain ⟨its, r, pl, _⟩ := I.tuple hl
      refine in_tupleAt (fun _ => false) pl (key its r) ?_
      rw [show its.toArray.any (fun _ => false) = false by simp]
      exact ⟨.bl _, H, I, rfl, q⟩
theorem op_notInO {X : Cx} (hu : X.A.units + 65 < cLine) : OpR X (compareOp .NotIn) (rInO X.K true) := fun pins s σ H x y v u Q I rx ry h => by
  rcases h with h | ⟨c, l, zs, rfl, hl, q⟩
  · exact op_notInA hu pins s σ H x y v u Q I rx ry h
  · obtain ⟨a, rfl, ca⟩ := c.at I rx
    cases (show u = Value.ref l from ry)
    have hu1 : X.A.in1.units < cLine := by show X.A.units + 1 < cLine; omega
    have key : ∀ its : List Value, Vals (zs.map V.str) its → ∀ y ∈ its.toArray, EqAt X.A.in1 s y (.ref a) ((fun _ => false) y) := fun its r y hy => by
      obtain ⟨z, t, rfl⟩ := vals_strs r y (by simpa using hy)
      exact ca.str_eq hu1
    rcases hl with hl | hl
    · obtain ⟨its, r, pl, _⟩ := I.list hl
      refine notIn_listAt (fun _ => false) pl.isList (key its r) ?_
      rw [show its.toArray.any (fun _ => false) = false by simp]
      exact ⟨.bl _, H, I, rfl, q⟩
    · obtain ⟨its, r, pl, _⟩ := I.tuple hl
      refine notIn_tupleAt (fun _ => false) pl (key its r) ?_
      rw [show its.toArray.any (fun _ => false) = false by simp]
      exact ⟨.bl _, H, I, rfl, q⟩
end DL
namespace DL
open PySem PySem.Spec PyProof.Rows L2 SeqAt
def isCt : D → Bool
  | .lst _ => true
  | .lsk _ => true
  | .tup _ => true
  | .dct _ => true
  | .dlk _ => true
  | _ => false
def isSc : D → Bool
  | .non => true
  | .bl _ => true
  | .int _ => true
  | .str _ => true
  | _ => false
def isStr : D → Bool
  | .str _ => true
  | _ => false
def eqAS (d e : D) : Option Bool := if isSc e then (if isCt d then some false else if isSc d then pEqB d e else none) else none
def eqLS : List D → List D → Option Bool
  | [], [] => some true
  | d :: ds, e :: es => match eqAS d e, eqLS ds es with
    | some a, some b => some (a && b)
    | _, _ => none
  | _, _ => none
def pEqOB (d e : D) : Option Bool := match d, e with
  | .lst ds, .lst es => if es.all isSc then (if ds.length = es.length then eqLS ds es else some false) else pEqB (.lst ds) (.lst es)
  | .tup ds, .tup [] => some ds.isEmpty
  | d, e => if isCt d ∧ isSc e then some false else pEqB d e
def pEqO (d e : D) : Option D := (pEqOB d e).map .bl
def pNeO (d e : D) : Option D := (pEqOB d e).map fun b => .bl (!b)
def pInO (n : Bool) (d e : D) : Option D := match e with
  | .lst es => if isCt d ∧ es.all isStr then some (.bl n) else pInX n d (.lst es)
  | .tup es => if isCt d ∧ es.all isStr then some (.bl n) else pInX n d (.tup es)
  | e => pInX n d e
section
variable {K : PySem.W.Frag} {mg : MG} {H : Hp} {ι : List Addr}
theorem rep_ct {x : V} {d : D} (r : Rep K mg H ι x d) (c : isCt d = true) : CtV K H x := by
  cases r with
  | lst h _ _ => exact ⟨_, rfl, .inl ⟨_, SqL.of h⟩⟩
  | lsk h _ _ => exact ⟨_, rfl, .inl ⟨_, h⟩⟩
  | tup h _ _ => exact ⟨_, rfl, .inr (.inl ⟨_, h⟩)⟩
  | dct h _ => exact ⟨_, rfl, .inr (.inr ⟨_, h⟩)⟩
  | dlk h _ => exact ⟨_, rfl, .inr (.inr ⟨_, .inr ⟨_, h⟩⟩)⟩
  | _ => cases c
theorem rep_sc {x : V} {d : D} (r : Rep K mg H ι x d) (c : isSc d = true) : ∃ p, ScV x p ∧ d.py = some p := by
  cases r with
  | non => exact ⟨_, .non, rfl⟩
  | bl b => exact ⟨_, .bl b, rfl⟩
  | int i => exact ⟨_, .int i, rfl⟩
  | str z => exact ⟨_, .str z, rfl⟩
  | _ => cases c
theorem rep_an {x y : V} {d e : D} {b : Bool} (rx : Rep K mg H ι x d) (ry : Rep K mg H ι y e) (h : eqAS d e = some b) : AnB K H x y b := by
  unfold eqAS at h
  split at h
  · rename_i he
    obtain ⟨q, hq, eq⟩ := rep_sc ry he
    refine ⟨q, hq, ?_⟩
    split at h
    · rename_i hd
      cases h
      exact .inl ⟨rep_ct rx hd, rfl⟩
    · split at h
      · rename_i hd
        obtain ⟨p, hp, ep⟩ := rep_sc rx hd
        obtain ⟨p', q', e1, e2, s1, s2, rfl⟩ := pEqB_inv h
        rw [ep] at e1; cases e1
        rw [eq] at e2; cases e2
        exact .inr ⟨p, hp, SeqAt.canLay_of_shaped s1, SeqAt.canLay_of_shaped s2, rfl⟩
      · cases h
  · cases h
theorem reps_an : ∀ {xs ys : List V} {ds es : List D} {b : Bool}, Reps K mg H ι xs ds → Reps K mg H ι ys es → eqLS ds es = some b → ∃ bs, AnL K H xs ys bs ∧ b = bs.all id
  | _, _, _, _, b, .nil, .nil, h => by cases h; exact ⟨[], .nil, rfl⟩
  | _, _, _, _, b, .nil, .cons _ _, h => by cases h
  | _, _, _, _, b, .cons _ _, .nil, h => by cases h
  | _, _, _, _, b, .cons r1 t1, .cons r2 t2, h => by
    rename_i x d xs ds y e ys es
    unfold eqLS at h
    cases e1 : eqAS d e with
    | none => rw [e1] at h; cases h
    | some a =>
      cases e2 : eqLS ds es with
      | none => rw [e1, e2] at h; cases h
      | some c =>
        rw [e1, e2] at h
        cases h
        obtain ⟨bs, hb, rfl⟩ := reps_an t1 t2 e2
        exact ⟨a :: bs, .cons (rep_an r1 r2 e1) hb, rfl⟩
end
section
variable {K : PySem.W.Frag} {mg : MG}
theorem eqO_inv {w : Ws} {x y : V} {d e : D} {b : Bool} (s : Sts K mg w) (rx : RepV K mg w x d) (ry : RepV K mg w y e) (h : pEqOB d e = some b) : (∃ p q, Dp K w.H x p ∧ Dp K w.H y q ∧ SeqAt.shaped p = true ∧ SeqAt.shaped q = true ∧ b = PyData.eqv p q) ∨ EqVr K w.H x y b := by
  have rx := rx.h s
  have ry := ry.h s
  have data : ∀ {d e : D} {b : Bool}, Rep K mg w.H w.ι x d → Rep K mg w.H w.ι y e → pEqB d e = some b → ∃ p q, Dp K w.H x p ∧ Dp K w.H y q ∧ SeqAt.shaped p = true ∧ SeqAt.shaped q = true ∧ b = PyData.eqv p q := fun rx ry h => by
    obtain ⟨p, p', e1, e2, s1, s2, rfl⟩ := pEqB_inv h
    exact ⟨p, p', rx.dp e1, ry.dp e2, s1, s2, rfl⟩
  unfold pEqOB at h
  split at h
  · split at h
    · rename_i ds es hsc
      cases rx with
      | lst h1 l1 r1 =>
        cases ry with
        | lst h2 l2 r2 =>
          split at h
          · obtain ⟨bs, hb, rfl⟩ := reps_an r1 r2 h
            exact .inr (.inr (.inl ⟨_, _, _, _, bs, rfl, rfl, SqL.of h1, SqL.of h2, hb, rfl⟩))
          · rename_i hne
            cases h
            exact .inr (.inr (.inr (.inl ⟨_, _, _, _, rfl, rfl, SqL.of h1, SqL.of h2, by rw [r1.len, r2.len]; exact hne, rfl⟩)))
    · exact .inl (data rx ry h)
  · cases h
    cases rx with
    | tup h1 l1 r1 =>
      cases ry with
      | tup h2 l2 r2 =>
        cases r2
        refine .inr (.inr (.inr (.inr ⟨_, _, _, rfl, rfl, h1, h2, ?_⟩)))
        cases r1 <;> rfl
  · split at h
    · rename_i hc
      cases h
      obtain ⟨q, hq, _⟩ := rep_sc ry hc.2
      exact .inr (.inl ⟨rep_ct rx hc.1, ⟨q, hq⟩, rfl⟩)
    · exact .inl (data rx ry h)
theorem ans_eqO : Ans2 K mg (rEqO K) pEqO := fun w x y d e z Q s rx ry q k => by
  obtain ⟨b, hb, rfl⟩ := Option.map_eq_some_iff.mp q
  rcases eqO_inv s rx ry hb with ⟨p, p', h1, h2, s1, s2, rfl⟩ | h
  · exact .inl ⟨p, p', h1, h2, s1, s2, k _ (fun _ _ => .bl _)⟩
  · exact .inr ⟨b, h, k _ (fun _ _ => .bl _)⟩
theorem ans_neO : Ans2 K mg (rNeO K) pNeO := fun w x y d e z Q s rx ry q k => by
  obtain ⟨b, hb, rfl⟩ := Option.map_eq_some_iff.mp q
  rcases eqO_inv s rx ry hb with ⟨p, p', h1, h2, s1, s2, rfl⟩ | h
  · exact .inl ⟨p, p', h1, h2, s1, s2, k _ (fun _ _ => .bl _)⟩
  · exact .inr ⟨b, h, k _ (fun _ _ => .bl _)⟩
theorem reps_strs {H : Hp} {ι : List Addr} : ∀ {vs : List V} {ds : List D}, Reps K mg H ι vs ds → ds.all isStr = true → ∃ zs : List Str, vs = zs.map V.str
  | _, _, .nil, _ => ⟨[], rfl⟩
  | _, d :: ds, .cons r t, h => by
    rw [List.all_cons, Bool.and_eq_true] at h
    obtain ⟨zs, e⟩ := reps_strs t h.2
    cases d with
    | str z => cases r; exact ⟨z :: zs, by rw [e]; rfl⟩
    | _ => cases h.1
theorem ans_inO (n : Bool) : Ans2 K mg (rInO K n) (pInO n) := fun w x y d e z Q s rx ry q k => by
  have old : pInX n d e = some z → rInO K n x y w.H Q := fun q => .inl (ans_in n w x y d e z Q s rx ry q k)
  unfold pInO at q
  split at q
  · split at q
    · rename_i es hc
      cases q
      have ry' := ry.h s
      cases ry' with
      | lst h2 l2 r2 =>
        obtain ⟨zs, e⟩ := reps_strs r2 hc.2
        subst e
        exact .inr ⟨rep_ct (rx.h s) hc.1, _, zs, rfl, .inl (SqL.of h2), k _ (fun _ _ => .bl _)⟩
    · exact old q
  · split at q
    · rename_i es hc
      cases q
      have ry' := ry.h s
      cases ry' with
      | tup h2 l2 r2 =>
        obtain ⟨zs, e⟩ := reps_strs r2 hc.2
        subst e
        exact .inr ⟨rep_ct (rx.h s) hc.1, _, zs, rfl, .inr h2, k _ (fun _ _ => .bl _)⟩
    · exact old q
  · exact old q
end
end DL
set_option maxHeartbeats 4000000
namespace LW
open PySem L2 L2H DL
def top (i : Nat) : Stmt := PySem.Challenge.pw_allheard_k64_futures_of_any_object.main.body.getD i (.Pass ⟨0, 0, 0, 0⟩)
structure Fx (K : PySem.W.Frag) (mg : Str → Option Value) : Prop where
  n_abs : mg "abs" = none
  n_all : mg "all" = none
  n_any : mg "any" = none
  n_bool : mg "bool" = none
  n_isinstance : mg "isinstance" = none
  n_len : mg "len" = none
  n_list : mg "list" = none
  n_max : mg "max" = none
  n_min : mg "min" = none
  n_range : mg "range" = none
  n_reversed : mg "reversed" = none
  n_set : mg "set" = none
  n_sorted : mg "sorted" = none
  n_str : mg "str" = none
  n_tuple : mg "tuple" = none
  c_LETTERS : ∃ t, mg "LETTERS" = some (.str "abcdefghijklmnopqrstuvwxyz" t)
  c_MOST_LETTERS : ∃ t, mg "MOST_LETTERS" = some (.int 8 t)
  c_MOST_SETS : ∃ t, mg "MOST_SETS" = some (.int 64 t)
abbrev s__law_bag : Stmt := top 16
abbrev N__law_bag : List Str := ["_law_script", "_law_at", "_law_cell", "_law_mix", "_law_k"]
theorem sc__law_bag : FnScope N__law_bag ["_law_script", "_law_at"] (defScope s__law_bag) := ⟨rfl, rfl, rfl, by decide +kernel, rfl, by decide +kernel, by decide +kernel⟩
noncomputable def f__law_bag_1 : DSx :=
  (setD (lift2 pMod (lift2 addK (lift2 addK (lift2 mulK (vr 3) (cst (.int 48271))) (lift2 pMod (pureE (plift2 pIx (pvw 0) (pvr 4))) (cst (.int 2147483647)))) (vr 4)) (cst (.int 2147483629))) (gN 3))
noncomputable def b__law_bag : DSx :=
  (seqD (setD (cst (.int 0)) (gN 2))
  (seqD (ifD (lift2 pLtX (vr 1) (lift1 pLen (pureE (pvw 0))))
    (setD (lift1 pAbs (pureE (plift2 pIx (pvw 0) (pvr 1)))) (gN 2))
    nxD)
  (seqD (setD (lift2 addK (lift2 mulK (cst (.int 7919)) (vr 1)) (cst (.int 17))) (gN 3))
  (seqD (forE (rng1 (aCons (lift2 pMin (lift1 pLen (pureE (pvw 0))) (cst (.int 60))) aNil)) (gN 4)
    f__law_bag_1)
  (seqD (ifD (lift2 pLtX (vr 2) (lift2 pPowW (cst (.int 10)) (cst (.int 18))))
    (setD (cst (.int 0)) (gN 2))
    nxD)
  (retCD (lstD (aCons (vr 2) (aCons (vr 3) aNil)))))))))
noncomputable def d__law_bag : Den := runD 5 b__law_bag
theorem bd__law_bag {P : Program} {wd : World} {K : PySem.W.Frag} {mg : Str → Option Value} {base : Heap} (T : Fx K mg)  {f : Addr} {A : Around} {outer : List Env} {s : Shared} {H : Hp} {E : XK} {cdv : Value} (hr : Room 0 (A.deeper (PyProof.Rows.envOfC "_law_bag" (defScope s__law_bag) s.heap.objs.size f cdv))) : DSs (cxOf (L2N.CX P wd) P wd K mg base N__law_bag "_law_bag" (defScope s__law_bag) f cdv A outer s H E) (WEx E) (defBody s__law_bag) b__law_bag :=
  have sc := sc__law_bag
  (dss_cons (ds_set (i := 2) sc.nd (by rfl) (Or.inl (by rfl)) de_int)
  (dss_cons (ds_if (dt_cmp (op_ltA hr.units) ans_ltX (nomark _) (de_vr 1) (DE.v (de_b1 call_len ansC_len (by rfl) T.n_len b_len (DPv.v (dp_vw 0)))))
    (dss_one (ds_set (i := 2) sc.nd (by rfl) (Or.inl (by rfl)) (de_b1 call_abs ansC_abs (by rfl) T.n_abs b_abs (DE.v (DP.e (dp_ix (dp_vw 0) (dp_vr 1) (fun _ _ => (by rfl))))))))
    dss_nil)
  (dss_cons (ds_set (i := 3) sc.nd (by rfl) (Or.inl (by rfl)) (de_addX (de_mulX de_int (de_vr 1)) de_int))
  (dss_cons (ds_for (passes_of (by rfl)) (by rfl) (di_range1 (by rfl) T.n_range (da_cons (de_b2 (call_min2 (by rfl)) ansC_min (by rfl) T.n_min b_min (de_b1 call_len ansC_len (by rfl) T.n_len b_len (DPv.v (dp_vw 0))) (DE.v de_int)) da_nil)) (dg_name (i := 4) sc.nd (by rfl) (Or.inl (by rfl)))
    (dss_one (ds_set (i := 3) sc.nd (by rfl) (Or.inl (by rfl)) (de_mod (de_addX (de_addX (de_mulX (de_vr 3) de_int) (de_mod (DP.e (dp_ix (dp_vw 0) (dp_vr 4) (fun _ _ => (by rfl)))) de_int)) (de_vr 4)) de_int))))
  (dss_cons (ds_if (dt_cmp (op_ltA hr.units) ans_ltX (nomark _) (de_vr 2) (DE.v (de_powW de_int de_int)))
    (dss_one (ds_set (i := 2) sc.nd (by rfl) (Or.inl (by rfl)) de_int))
    dss_nil)
  (dss_one (ds_retC (do_lst (da_cons (de_vr 2) (da_cons (de_vr 3) da_nil))))))))))
abbrev s__law_take : Stmt := top 17
abbrev N__law_take : List Str := ["_law_bag_here", "_law_many", "_law_digit"]
theorem sc__law_take : FnScope N__law_take ["_law_bag_here", "_law_many"] (defScope s__law_take) := ⟨rfl, rfl, rfl, by decide +kernel, rfl, by decide +kernel, by decide +kernel⟩
noncomputable def b__law_take : DSx :=
  (seqD (ifD (lift2 pGtX (pureE (plift2 pIx (pvw 0) (pcst (.int 0)))) (cst (.int 0)))
    (seqD (setD (lift2 pMod (pureE (plift2 pIx (pvw 0) (pcst (.int 0)))) (vr 1)) (gN 2))
  (seqD (subSetD 0 (pcst (.int 0)) (lift2 pDiv (pureE (plift2 pIx (pvw 0) (pcst (.int 0)))) (vr 1)))
  (retD (vr 2))))
    nxD)
  (seqD (subSetD 0 (pcst (.int 1)) (lift2 pMod (lift2 addK (lift2 mulK (pureE (plift2 pIx (pvw 0) (pcst (.int 1)))) (cst (.int 48271))) (cst (.int 7919))) (cst (.int 2147483647))))
  (retD (lift2 pMod (lift2 pMod (lift2 mulK (lift2 pDiv (pureE (plift2 pIx (pvw 0) (pcst (.int 1)))) (cst (.int 8))) (cst (.int 69621))) (cst (.int 2147483629))) (vr 1)))))
noncomputable def d__law_take : Den := runD 3 b__law_take
theorem bd__law_take {P : Program} {wd : World} {K : PySem.W.Frag} {mg : Str → Option Value} {base : Heap} (T : Fx K mg)  {f : Addr} {A : Around} {outer : List Env} {s : Shared} {H : Hp} {E : XK} {cdv : Value} (hr : Room 0 (A.deeper (PyProof.Rows.envOfC "_law_take" (defScope s__law_take) s.heap.objs.size f cdv))) : DSs (cxOf (L2N.CX P wd) P wd K mg base N__law_take "_law_take" (defScope s__law_take) f cdv A outer s H E) (WEx E) (defBody s__law_take) b__law_take :=
  have sc := sc__law_take
  (dss_cons (ds_if (dt_cmp (op_gtA hr.units) ans_gtX (nomark _) (DP.e (dp_ix (dp_vw 0) dp_int (fun _ _ => (by rfl)))) (DE.v de_int))
    (dss_cons (ds_set (i := 2) sc.nd (by rfl) (Or.inl (by rfl)) (de_mod (DP.e (dp_ix (dp_vw 0) dp_int (fun _ _ => (by rfl)))) (de_vr 1)))
  (dss_cons (ds_sub (i := 0) (de_div (DP.e (dp_ix (dp_vw 0) dp_int (fun _ _ => (by rfl)))) (de_vr 1)) dp_int)
  (dss_one (ds_ret (de_vr 2)))))
    dss_nil)
  (dss_cons (ds_sub (i := 0) (de_mod (de_addX (de_mulX (DP.e (dp_ix (dp_vw 0) dp_int (fun _ _ => (by rfl)))) de_int) de_int) de_int) dp_int)
  (dss_one (ds_ret (de_mod (de_mod (de_mulX (de_div (DP.e (dp_ix (dp_vw 0) dp_int (fun _ _ => (by rfl)))) de_int) de_int) de_int) (de_vr 1))))))
abbrev s__law_names : Stmt := top 18
abbrev N__law_names : List Str := ["_law_bag_here", "_law_many", "_law_letters", "_law_size", "_law_spot", "_law_first", "_law_base", "_law_k", "_law_long", "_law_names_here", "_law_sign"]
theorem sc__law_names : FnScope N__law_names ["_law_bag_here", "_law_many"] (defScope s__law_names) := ⟨rfl, rfl, rfl, by decide +kernel, rfl, by decide +kernel, by decide +kernel⟩
noncomputable def f__law_names_1 : DSx :=
  (seqD (setD (pureE (plift2 pIx (pvw 2) (plift2 pMod (plift2 (iop0 (· + ·)) (pvr 5) (pvr 7)) (pcst (.int 26))))) (gN 10))
  (ifD (vr 8)
    (exprD (mutD 9 kApp (aCons (lift2 mulK (vr 10) (lift2 addK (cst (.int 1)) (lift2 pMod (vr 7) (cst (.int 8))))) aNil)))
    (exprD (mutD 9 kApp (aCons (lift2 addK (lift2 addK (slX kSl (vr 6) bdN (bdS (vr 4))) (vr 10)) (slX kSl (vr 6) (bdS (lift2 addK (vr 4) (cst (.int 1)))) bdN)) aNil)))))
noncomputable def f__law_names_2 : DSx :=
  (setD (lift2 addK (vr 6) (lift2 pIx (vr 2) (callD d__law_take (aCons (vr 0) (aCons (cst (.int 26)) aNil))))) (gN 6))
noncomputable def b__law_names : DSx :=
  (seqD (setD (cst (.str "abcdefghijklmnopqrstuvwxyz")) (gN 2))
  (seqD (setD (lift2 addK (cst (.int 1)) (callD d__law_take (aCons (vr 0) (aCons (cst (.int 8)) aNil)))) (gN 3))
  (seqD (setD (callD d__law_take (aCons (vr 0) (aCons (vr 3) aNil))) (gN 4))
  (seqD (setD (callD d__law_take (aCons (vr 0) (aCons (cst (.int 26)) aNil))) (gN 5))
  (seqD (setD (cst (.str "")) (gN 6))
  (seqD (forE (rng1 (aCons (vr 3) aNil)) (gN 7)
    f__law_names_2)
  (seqD (setD (lift2 pEq (callD d__law_take (aCons (vr 0) (aCons (cst (.int 3)) aNil))) (cst (.int 0))) (gN 8))
  (seqD (setOD (lstD aNil) 9)
  (seqD (forE (rng1 (aCons (vr 1) aNil)) (gN 7)
    f__law_names_1)
  (retD (frzE 9)))))))))))
noncomputable def d__law_names : Den := runD 11 b__law_names
theorem bd__law_names {P : Program} {wd : World} {K : PySem.W.Frag} {mg : Str → Option Value} {base : Heap} (T : Fx K mg) (C__law_take : Cal P wd K mg base 1 "_law_take" 2 d__law_take) {f : Addr} {A : Around} {outer : List Env} {s : Shared} {H : Hp} {E : XK} {cdv : Value} (hr : Room 1 (A.deeper (PyProof.Rows.envOfC "_law_names" (defScope s__law_names) s.heap.objs.size f cdv))) : DSs (cxOf (L2N.CX P wd) P wd K mg base N__law_names "_law_names" (defScope s__law_names) f cdv A outer s H E) (WEx E) (defBody s__law_names) b__law_names :=
  have sc := sc__law_names
  (dss_cons (ds_set (i := 2) sc.nd (by rfl) (Or.inl (by rfl)) de_str)
  (dss_cons (ds_set (i := 3) sc.nd (by rfl) (Or.inl (by rfl)) (de_addX de_int (Cal.call C__law_take hr (by omega) (by rfl) (L2N.takes_of (by rfl) (by rfl) (by rfl) (by rfl)) (da_cons (de_vr 0) (da_cons de_int da_nil)))))
  (dss_cons (ds_set (i := 4) sc.nd (by rfl) (Or.inl (by rfl)) (Cal.call C__law_take hr (by omega) (by rfl) (L2N.takes_of (by rfl) (by rfl) (by rfl) (by rfl)) (da_cons (de_vr 0) (da_cons (de_vr 3) da_nil))))
  (dss_cons (ds_set (i := 5) sc.nd (by rfl) (Or.inl (by rfl)) (Cal.call C__law_take hr (by omega) (by rfl) (L2N.takes_of (by rfl) (by rfl) (by rfl) (by rfl)) (da_cons (de_vr 0) (da_cons de_int da_nil))))
  (dss_cons (ds_set (i := 6) sc.nd (by rfl) (Or.inl (by rfl)) de_str)
  (dss_cons (ds_for (passes_of (by rfl)) (by rfl) (di_range1 (by rfl) T.n_range (da_cons (de_vr 3) da_nil)) (dg_name (i := 7) sc.nd (by rfl) (Or.inl (by rfl)))
    (dss_one (ds_set (i := 6) sc.nd (by rfl) (Or.inl (by rfl)) (de_addX (de_vr 6) (de_ix (de_vr 2) (Cal.call C__law_take hr (by omega) (by rfl) (L2N.takes_of (by rfl) (by rfl) (by rfl) (by rfl)) (da_cons (de_vr 0) (da_cons de_int da_nil))) (fun _ _ => (by rfl)))))))
  (dss_cons (ds_set (i := 8) sc.nd (by rfl) (Or.inl (by rfl)) (de_cmp (op_eqD hr.units) ans_eq (nomark _) (Cal.call C__law_take hr (by omega) (by rfl) (L2N.takes_of (by rfl) (by rfl) (by rfl) (by rfl)) (da_cons (de_vr 0) (da_cons de_int da_nil))) (DE.v de_int)))
  (dss_cons (ds_setO (i := 9) sc.nd (by rfl) (Or.inl (by rfl)) (do_lst da_nil))
  (dss_cons (ds_for (passes_of (by rfl)) (by rfl) (di_range1 (by rfl) T.n_range (da_cons (de_vr 1) da_nil)) (dg_name (i := 7) sc.nd (by rfl) (Or.inl (by rfl)))
    (dss_cons (ds_set (i := 10) sc.nd (by rfl) (Or.inl (by rfl)) (DP.e (dp_ix (dp_vw 2) (dp_mod (dp_add (dp_vr 5) (dp_vr 7)) dp_int) (fun _ _ => (by rfl)))))
  (dss_one (ds_if (dt_val (de_vr 8))
    (dss_one (ds_expr (de_mut (i := 9) PySem.F.slot_list_append PySem.F.type_list_append mt_append ansM_app (da_cons (de_mulX (de_vr 10) (de_addX de_int (de_mod (de_vr 7) de_int))) da_nil))))
    (dss_one (ds_expr (de_mut (i := 9) PySem.F.slot_list_append PySem.F.type_list_append mt_append ansM_app (da_cons (de_addX (de_addX (de_slice (de_vr 6) db_none (db_some (de_vr 4))) (de_vr 10)) (de_slice (de_vr 6) (db_some (de_addX (de_vr 4) de_int)) db_none)) da_nil))))))))
  (dss_one (ds_ret (de_frz 9))))))))))))
abbrev s__law_thing : Stmt := top 21
abbrev N__law_thing : List Str := ["_law_bag_here", "_law_words", "_law_things_here", "_law_way"]
theorem sc__law_thing : FnScope N__law_thing ["_law_bag_here", "_law_words", "_law_things_here"] (defScope s__law_thing) := ⟨rfl, rfl, rfl, by decide +kernel, rfl, by decide +kernel, by decide +kernel⟩
noncomputable def b__law_thing : DSx :=
  (seqD (setD (callD d__law_take (aCons (vr 0) (aCons (cst (.int 6)) aNil))) (gN 3))
  (seqD (ifD (lift2 pEq (vr 3) (cst (.int 0)))
    (retD (cst .non))
    nxD)
  (seqD (ifD (lift2 pEq (vr 3) (cst (.int 1)))
    (retD (aCons (cst (.str "later")) (aCons (lift2 pIx (vr 1) (callD d__law_take (aCons (vr 0) (aCons (lift1 pLen (pureE (pvw 1))) aNil)))) aNil)))
    nxD)
  (retD (lift2 pIx (vr 2) (callD d__law_take (aCons (vr 0) (aCons (lift1 pLen (pureE (pvw 2))) aNil))))))))
noncomputable def d__law_thing : Den := runD 4 b__law_thing
theorem bd__law_thing {P : Program} {wd : World} {K : PySem.W.Frag} {mg : Str → Option Value} {base : Heap} (T : Fx K mg) (C__law_take : Cal P wd K mg base 1 "_law_take" 2 d__law_take) {f : Addr} {A : Around} {outer : List Env} {s : Shared} {H : Hp} {E : XK} {cdv : Value} (hr : Room 1 (A.deeper (PyProof.Rows.envOfC "_law_thing" (defScope s__law_thing) s.heap.objs.size f cdv))) : DSs (cxOf (L2N.CX P wd) P wd K mg base N__law_thing "_law_thing" (defScope s__law_thing) f cdv A outer s H E) (WEx E) (defBody s__law_thing) b__law_thing :=
  have sc := sc__law_thing
  (dss_cons (ds_set (i := 3) sc.nd (by rfl) (Or.inl (by rfl)) (Cal.call C__law_take hr (by omega) (by rfl) (L2N.takes_of (by rfl) (by rfl) (by rfl) (by rfl)) (da_cons (de_vr 0) (da_cons de_int da_nil))))
  (dss_cons (ds_if (dt_cmp (op_eqD hr.units) ans_eq (nomark _) (de_vr 3) (DE.v de_int))
    (dss_one (ds_ret de_non))
    dss_nil)
  (dss_cons (ds_if (dt_cmp (op_eqD hr.units) ans_eq (nomark _) (de_vr 3) (DE.v de_int))
    (dss_one (ds_ret (de_tup (da_cons de_str (da_cons (de_ix (de_vr 1) (Cal.call C__law_take hr (by omega) (by rfl) (L2N.takes_of (by rfl) (by rfl) (by rfl) (by rfl)) (da_cons (de_vr 0) (da_cons (de_b1 call_len ansC_len (by rfl) T.n_len b_len (DPv.v (dp_vw 1))) da_nil))) (fun _ _ => (by rfl))) da_nil)))))
    dss_nil)
  (dss_one (ds_ret (de_ix (de_vr 2) (Cal.call C__law_take hr (by omega) (by rfl) (L2N.takes_of (by rfl) (by rfl) (by rfl) (by rfl)) (da_cons (de_vr 0) (da_cons (de_b1 call_len ansC_len (by rfl) T.n_len b_len (DPv.v (dp_vw 2))) da_nil))) (fun _ _ => (by rfl))))))))
abbrev s__law_hearers : Stmt := top 20
abbrev N__law_hearers : List Str := ["_law_bag_here", "_law_members", "_law_way", "_law_found", "_law_member"]
theorem sc__law_hearers : FnScope N__law_hearers ["_law_bag_here", "_law_members"] (defScope s__law_hearers) := ⟨rfl, rfl, rfl, by decide +kernel, rfl, by decide +kernel, by decide +kernel⟩
noncomputable def f__law_hearers_1 : DSx :=
  (ifD (orD (lift2 pEq (vr 2) (cst (.int 3))) (andD (lift2 pLtX (vr 2) (cst (.int 2))) (lift2 pGtX (callD d__law_take (aCons (vr 0) (aCons (cst (.int 3)) aNil))) (pureE (pvw 2)))))
    (exprD (mutD 3 kApp (aCons (vr 4) aNil)))
    nxD)
noncomputable def b__law_hearers : DSx :=
  (seqD (setD (callD d__law_take (aCons (vr 0) (aCons (cst (.int 4)) aNil))) (gN 2))
  (seqD (setOD (lstD aNil) 3)
  (seqD (forE (itD (vr 1)) (gN 4)
    f__law_hearers_1)
  (seqD (ifD (lift2 pEq (vr 2) (cst (.int 2)))
    (exprD (mutD 3 kApp (aCons (lift2 pIx (vr 1) (callD d__law_take (aCons (vr 0) (aCons (lift1 pLen (pureE (pvw 1))) aNil)))) aNil)))
    nxD)
  (retD (tupleD (sortD (pureE (pvw 3)))))))))
noncomputable def d__law_hearers : Den := runD 5 b__law_hearers
theorem bd__law_hearers {P : Program} {wd : World} {K : PySem.W.Frag} {mg : Str → Option Value} {base : Heap} (T : Fx K mg) (C__law_take : Cal P wd K mg base 1 "_law_take" 2 d__law_take) {f : Addr} {A : Around} {outer : List Env} {s : Shared} {H : Hp} {E : XK} {cdv : Value} (hr : Room 1 (A.deeper (PyProof.Rows.envOfC "_law_hearers" (defScope s__law_hearers) s.heap.objs.size f cdv))) : DSs (cxOf (L2N.CX P wd) P wd K mg base N__law_hearers "_law_hearers" (defScope s__law_hearers) f cdv A outer s H E) (WEx E) (defBody s__law_hearers) b__law_hearers :=
  have sc := sc__law_hearers
  (dss_cons (ds_set (i := 2) sc.nd (by rfl) (Or.inl (by rfl)) (Cal.call C__law_take hr (by omega) (by rfl) (L2N.takes_of (by rfl) (by rfl) (by rfl) (by rfl)) (da_cons (de_vr 0) (da_cons de_int da_nil))))
  (dss_cons (ds_setO (i := 3) sc.nd (by rfl) (Or.inl (by rfl)) (do_lst da_nil))
  (dss_cons (ds_for (passes_of (by rfl)) (by rfl) (di_seq (de_vr 1)) (dg_name (i := 4) sc.nd (by rfl) (Or.inl (by rfl)))
    (dss_one (ds_if (DW.t (dw_or (dt_cmp (op_eqD hr.units) ans_eq (nomark _) (de_vr 2) (DE.v de_int)) (dw_or1 (DW.t (dw_and (dt_cmp (op_ltA hr.units) ans_ltX (nomark _) (de_vr 2) (DE.v de_int)) (dw_and1 (dt_cmp (op_gtA hr.units) ans_gtX (nomark _) (Cal.call C__law_take hr (by omega) (by rfl) (L2N.takes_of (by rfl) (by rfl) (by rfl) (by rfl)) (da_cons (de_vr 0) (da_cons de_int da_nil))) (DPv.v (dp_vw 2)))))))))
    (dss_one (ds_expr (de_mut (i := 3) PySem.F.slot_list_append PySem.F.type_list_append mt_append ansM_app (da_cons (de_vr 4) da_nil))))
    dss_nil)))
  (dss_cons (ds_if (dt_cmp (op_eqD hr.units) ans_eq (nomark _) (de_vr 2) (DE.v de_int))
    (dss_one (ds_expr (de_mut (i := 3) PySem.F.slot_list_append PySem.F.type_list_append mt_append ansM_app (da_cons (de_ix (de_vr 1) (Cal.call C__law_take hr (by omega) (by rfl) (L2N.takes_of (by rfl) (by rfl) (by rfl) (by rfl)) (da_cons (de_vr 0) (da_cons (de_b1 call_len ansC_len (by rfl) T.n_len b_len (DPv.v (dp_vw 1))) da_nil))) (fun _ _ => (by rfl))) da_nil))))
    dss_nil)
  (dss_one (ds_ret (de_tuple (by rfl) T.n_tuple (DE.v (DO.fz (do_sorted hr.u80 (by rfl) T.n_sorted (DPv.v (dp_vw 3))))))))))))
abbrev s__law_rows : Stmt := top 22
abbrev N__law_rows : List Str := ["_law_bag_here", "_law_words", "_law_things_here", "_law_members", "_law_most", "_law_rows_here", "_law_word", "_law_own", "_law_k", "_law_thing_here"]
theorem sc__law_rows : FnScope N__law_rows ["_law_bag_here", "_law_words", "_law_things_here", "_law_members", "_law_most"] (defScope s__law_rows) := ⟨rfl, rfl, rfl, by decide +kernel, rfl, by decide +kernel, by decide +kernel⟩
noncomputable def f__law_rows_1 : DSx :=
  (seqD (setD (callD d__law_thing (aCons (vr 0) (aCons (vr 1) (aCons (vr 2) aNil)))) (gN 9))
  (exprD (mutD 7 kApp (aCons (aCons (vr 9) (aCons (callD d__law_hearers (aCons (vr 0) (aCons (vr 3) aNil))) aNil)) aNil))))
noncomputable def f__law_rows_2 : DSx :=
  (seqD (setOD (lstD aNil) 7)
  (seqD (forE (rng1 (aCons (callD d__law_take (aCons (vr 0) (aCons (lift2 addK (vr 4) (cst (.int 1))) aNil))) aNil)) (gN 8)
    f__law_rows_1)
  (ifD (orD (nilP true (pvw 7)) (lift2 pEq (callD d__law_take (aCons (vr 0) (aCons (cst (.int 2)) aNil))) (cst (.int 0))))
    (dputD (vr 5) (vr 6) (frzE 7))
    nxD)))
noncomputable def b__law_rows : DSx :=
  (seqD (setD (cellDE (cst (.dct []))) (gN 5))
  (seqD (forE (itD (vr 1)) (gN 6)
    f__law_rows_2)
  (retD (fzdE (vr 5)))))
noncomputable def d__law_rows : Den := runD 10 b__law_rows
theorem bd__law_rows {P : Program} {wd : World} {K : PySem.W.Frag} {mg : Str → Option Value} {base : Heap} (T : Fx K mg) (C__law_take : Cal P wd K mg base 1 "_law_take" 2 d__law_take) (C__law_hearers : Cal P wd K mg base 2 "_law_hearers" 2 d__law_hearers) (C__law_thing : Cal P wd K mg base 2 "_law_thing" 3 d__law_thing) {f : Addr} {A : Around} {outer : List Env} {s : Shared} {H : Hp} {E : XK} {cdv : Value} (hr : Room 2 (A.deeper (PyProof.Rows.envOfC "_law_rows" (defScope s__law_rows) s.heap.objs.size f cdv))) : DSs (cxOf (L2N.CX P wd) P wd K mg base N__law_rows "_law_rows" (defScope s__law_rows) f cdv A outer s H E) (WEx E) (defBody s__law_rows) b__law_rows :=
  have sc := sc__law_rows
  (dss_cons (ds_set (i := 5) sc.nd (by rfl) (Or.inl (by rfl)) (DOd.cell dod_new))
  (dss_cons (ds_for (passes_of (by rfl)) (by rfl) (di_seq (de_vr 1)) (dg_name (i := 6) sc.nd (by rfl) (Or.inl (by rfl)))
    (dss_cons (ds_setO (i := 7) sc.nd (by rfl) (Or.inl (by rfl)) (do_lst da_nil))
  (dss_cons (ds_for (passes_of (by rfl)) (by rfl) (di_range1 (by rfl) T.n_range (da_cons (Cal.call C__law_take hr (by omega) (by rfl) (L2N.takes_of (by rfl) (by rfl) (by rfl) (by rfl)) (da_cons (de_vr 0) (da_cons (de_addX (de_vr 4) de_int) da_nil))) da_nil)) (dg_name (i := 8) sc.nd (by rfl) (Or.inl (by rfl)))
    (dss_cons (ds_set (i := 9) sc.nd (by rfl) (Or.inl (by rfl)) (Cal.call C__law_thing hr (by omega) (by rfl) (L2N.takes_of (by rfl) (by rfl) (by rfl) (by rfl)) (da_cons (de_vr 0) (da_cons (de_vr 1) (da_cons (de_vr 2) da_nil)))))
  (dss_one (ds_expr (de_mut (i := 7) PySem.F.slot_list_append PySem.F.type_list_append mt_append ansM_app (da_cons (de_tup (da_cons (de_vr 9) (da_cons (Cal.call C__law_hearers hr (by omega) (by rfl) (L2N.takes_of (by rfl) (by rfl) (by rfl) (by rfl)) (da_cons (de_vr 0) (da_cons (de_vr 3) da_nil))) da_nil))) da_nil))))))
  (dss_one (ds_if (DW.t (dw_or (dt_neNil hr.units0 (dp_vw 7)) (dw_or1 (dt_cmp (op_eqD hr.units) ans_eq (nomark _) (Cal.call C__law_take hr (by omega) (by rfl) (L2N.takes_of (by rfl) (by rfl) (by rfl) (by rfl)) (da_cons (de_vr 0) (da_cons de_int da_nil))) (DE.v de_int)))))
    (dss_one (ds_dput (hu_of hr) (de_frz 7) (de_vr 5) (de_vr 6)))
    dss_nil)))))
  (dss_one (ds_ret (DE.fzd (de_vr 5))))))
abbrev s__law_some : Stmt := top 19
abbrev N__law_some : List Str := ["_law_bag_here", "_law_things_here", "_law_left", "_law_found", "_law_k"]
theorem sc__law_some : FnScope N__law_some ["_law_bag_here", "_law_things_here"] (defScope s__law_some) := ⟨rfl, rfl, rfl, by decide +kernel, rfl, by decide +kernel, by decide +kernel⟩
noncomputable def f__law_some_1 : DSx :=
  (exprD (mutD 3 kApp (aCons (mutD 2 kPopAt (aCons (callD d__law_take (aCons (vr 0) (aCons (lift1 pLen (pureE (pvw 2))) aNil))) aNil)) aNil)))
noncomputable def b__law_some : DSx :=
  (seqD (setOD (listD (pureE (pvw 1))) 2)
  (seqD (setOD (lstD aNil) 3)
  (seqD (forE (rng1 (aCons (lift2 addK (cst (.int 1)) (callD d__law_take (aCons (vr 0) (aCons (lift1 pLen (pureE (pvw 1))) aNil)))) aNil)) (gN 4)
    f__law_some_1)
  (retD (frzE 3)))))
noncomputable def d__law_some : Den := runD 5 b__law_some
theorem bd__law_some {P : Program} {wd : World} {K : PySem.W.Frag} {mg : Str → Option Value} {base : Heap} (T : Fx K mg) (C__law_take : Cal P wd K mg base 1 "_law_take" 2 d__law_take) {f : Addr} {A : Around} {outer : List Env} {s : Shared} {H : Hp} {E : XK} {cdv : Value} (hr : Room 1 (A.deeper (PyProof.Rows.envOfC "_law_some" (defScope s__law_some) s.heap.objs.size f cdv))) : DSs (cxOf (L2N.CX P wd) P wd K mg base N__law_some "_law_some" (defScope s__law_some) f cdv A outer s H E) (WEx E) (defBody s__law_some) b__law_some :=
  have sc := sc__law_some
  (dss_cons (ds_setO (i := 2) sc.nd (by rfl) (Or.inl (by rfl)) (do_list (by rfl) T.n_list (DPv.v (dp_vw 1))))
  (dss_cons (ds_setO (i := 3) sc.nd (by rfl) (Or.inl (by rfl)) (do_lst da_nil))
  (dss_cons (ds_for (passes_of (by rfl)) (by rfl) (di_range1 (by rfl) T.n_range (da_cons (de_addX de_int (Cal.call C__law_take hr (by omega) (by rfl) (L2N.takes_of (by rfl) (by rfl) (by rfl) (by rfl)) (da_cons (de_vr 0) (da_cons (de_b1 call_len ansC_len (by rfl) T.n_len b_len (DPv.v (dp_vw 1))) da_nil)))) da_nil)) (dg_name (i := 4) sc.nd (by rfl) (Or.inl (by rfl)))
    (dss_one (ds_expr (de_mut (i := 3) PySem.F.slot_list_append PySem.F.type_list_append mt_append ansM_app (da_cons (de_mut (i := 2) PySem.F.slot_list_pop PySem.F.type_list_pop mt_popAt ansM_popAt (da_cons (Cal.call C__law_take hr (by omega) (by rfl) (L2N.takes_of (by rfl) (by rfl) (by rfl) (by rfl)) (da_cons (de_vr 0) (da_cons (de_b1 call_len ansC_len (by rfl) T.n_len b_len (DPv.v (dp_vw 2))) da_nil))) da_nil)) da_nil)))))
  (dss_one (ds_ret (de_frz 3))))))
abbrev s__law_any : Stmt := top 28
abbrev N__law_any : List Str := ["_law_bag_here", "_law_deep", "_law_plain", "_law_way", "_law_parts", "_law_k"]
theorem sc__law_any : FnScope N__law_any ["_law_bag_here", "_law_deep"] (defScope s__law_any) := ⟨rfl, rfl, rfl, by decide +kernel, rfl, by decide +kernel, by decide +kernel⟩
noncomputable def f__law_any_1 (dn : Den) : DSx :=
  (exprD (mutD 4 kApp (aCons (callD dn (aCons (vr 0) (aCons (lift2 pSub (vr 1) (cst (.int 1))) aNil))) aNil)))
noncomputable def b__law_any (dn : Den) : DSx :=
  (seqD (setD (lstD (aCons (cst .non) (aCons (cst (.bl true)) (aCons (cst (.bl false)) (aCons (cst (.int 0)) (aCons (cst (.int 1)) (aCons (lift1 pNeg (cst (.int 1))) (aCons (lift2 pPowW (cst (.int 10)) (cst (.int 20))) (aCons (cst (.str "")) (aCons (cst (.str "a")) (aCons (cst (.str "reason")) (aCons (cst (.str "future")) (aCons (cst (.str "later")) (aCons (cst (.str "A")) (aCons (cst (.str "sun ")) (aCons (cst (.str "abcdefghi")) aNil)))))))))))))))) (gN 2))
  (seqD (setD (callD d__law_take (aCons (vr 0) (aCons (cst (.int 4)) aNil))) (gN 3))
  (seqD (ifD (orD (lift2 pEq (vr 1) (cst (.int 0))) (lift2 pEq (vr 3) (cst (.int 0))))
    (retD (lift2 pIx (vr 2) (callD d__law_take (aCons (vr 0) (aCons (cst (.int 15)) aNil)))))
    nxD)
  (seqD (setOD (lstD aNil) 4)
  (seqD (forE (rng1 (aCons (callD d__law_take (aCons (vr 0) (aCons (cst (.int 5)) aNil))) aNil)) (gN 5)
    (f__law_any_1 dn))
  (seqD (ifD (lift2 pEq (vr 3) (cst (.int 1)))
    (retD (frzE 4))
    nxD)
  (seqD (ifD (lift2 pEq (vr 3) (cst (.int 2)))
    (retD (tupleD (pureE (pvw 4))))
    nxD)
  (retD (dispD (aCons (cst (.str "reason")) (aCons (frzE 4) aNil)))))))))))
noncomputable def d__law_any : Nat → Den
  | 0 => fun _ _ => .bad
  | n + 1 => runD 6 (b__law_any (d__law_any n))
theorem bd__law_any {P : Program} {wd : World} {K : PySem.W.Frag} {mg : Str → Option Value} {base : Heap} (T : Fx K mg) (C__law_take : Cal P wd K mg base 1 "_law_take" 2 d__law_take) {n : Nat} (C__law_any : Cal P wd K mg base (1 + n) "_law_any" 2 (d__law_any n)) {f : Addr} {A : Around} {outer : List Env} {s : Shared} {H : Hp} {E : XK} {cdv : Value} (hr : Room (1 + n) (A.deeper (PyProof.Rows.envOfC "_law_any" (defScope s__law_any) s.heap.objs.size f cdv))) : DSs (cxOf (L2N.CX P wd) P wd K mg base N__law_any "_law_any" (defScope s__law_any) f cdv A outer s H E) (WEx E) (defBody s__law_any) (b__law_any (d__law_any n)) :=
  have sc := sc__law_any
  (dss_cons (ds_set (i := 2) sc.nd (by rfl) (Or.inl (by rfl)) (DO.fz (do_lst (da_cons de_non (da_cons de_bl (da_cons de_bl (da_cons de_int (da_cons de_int (da_cons (de_neg de_int) (da_cons (de_powW de_int de_int) (da_cons de_str (da_cons de_str (da_cons de_str (da_cons de_str (da_cons de_str (da_cons de_str (da_cons de_str (da_cons de_str da_nil))))))))))))))))))
  (dss_cons (ds_set (i := 3) sc.nd (by rfl) (Or.inl (by rfl)) (Cal.call C__law_take hr (by omega) (by rfl) (L2N.takes_of (by rfl) (by rfl) (by rfl) (by rfl)) (da_cons (de_vr 0) (da_cons de_int da_nil))))
  (dss_cons (ds_if (DW.t (dw_or (dt_cmp (op_eqD hr.units) ans_eq (nomark _) (de_vr 1) (DE.v de_int)) (dw_or1 (dt_cmp (op_eqD hr.units) ans_eq (nomark _) (de_vr 3) (DE.v de_int)))))
    (dss_one (ds_ret (de_ix (de_vr 2) (Cal.call C__law_take hr (by omega) (by rfl) (L2N.takes_of (by rfl) (by rfl) (by rfl) (by rfl)) (da_cons (de_vr 0) (da_cons de_int da_nil))) (fun _ _ => (by rfl)))))
    dss_nil)
  (dss_cons (ds_setO (i := 4) sc.nd (by rfl) (Or.inl (by rfl)) (do_lst da_nil))
  (dss_cons (ds_for (passes_of (by rfl)) (by rfl) (di_range1 (by rfl) T.n_range (da_cons (Cal.call C__law_take hr (by omega) (by rfl) (L2N.takes_of (by rfl) (by rfl) (by rfl) (by rfl)) (da_cons (de_vr 0) (da_cons de_int da_nil))) da_nil)) (dg_name (i := 5) sc.nd (by rfl) (Or.inl (by rfl)))
    (dss_one (ds_expr (de_mut (i := 4) PySem.F.slot_list_append PySem.F.type_list_append mt_append ansM_app (da_cons (Cal.call C__law_any hr (by omega) (by rfl) (L2N.takes_of (by rfl) (by rfl) (by rfl) (by rfl)) (da_cons (de_vr 0) (da_cons (de_sub (de_vr 1) de_int) da_nil))) da_nil)))))
  (dss_cons (ds_if (dt_cmp (op_eqD hr.units) ans_eq (nomark _) (de_vr 3) (DE.v de_int))
    (dss_one (ds_ret (de_frz 4)))
    dss_nil)
  (dss_cons (ds_if (dt_cmp (op_eqD hr.units) ans_eq (nomark _) (de_vr 3) (DE.v de_int))
    (dss_one (ds_ret (de_tuple (by rfl) T.n_tuple (DPv.v (dp_vw 4)))))
    dss_nil)
  (dss_one (ds_ret (de_dict (dpr_cons de_str (de_frz 4) dpr_nil)))))))))))
abbrev s__law_things : Stmt := top 29
abbrev N__law_things : List Str := ["_law_bag_here", "_law_right", "_law_three", "_law_k", "_law_parts", "_law_found", "_law_many"]
theorem sc__law_things : FnScope N__law_things ["_law_bag_here", "_law_right"] (defScope s__law_things) := ⟨rfl, rfl, rfl, by decide +kernel, rfl, by decide +kernel, by decide +kernel⟩
noncomputable def f__law_things_1 : DSx :=
  (exprD (mutD 5 kApp (aCons (aCons (cst (.str "future")) (aCons (pureE (plift2 pIx (pvw 1) (pcst (.int 1)))) (aCons (lift2 mulK (pureE (plift2 pIx (pvw 1) (pcst (.int 2)))) (vr 6)) (aCons (pureE (plift2 pIx (pvw 1) (pcst (.int 3)))) aNil)))) aNil)))
noncomputable def f__law_things_2 : DSx :=
  (subSetE 4 (lift2 addK (cst (.int 1)) (callD d__law_take (aCons (vr 0) (aCons (cst (.int 3)) aNil)))) (callD (d__law_any 8) (aCons (vr 0) (aCons (cst (.int 3)) aNil))))
noncomputable def f__law_things_3 : DSx :=
  (exprD (mutD 2 kApp (aCons (callD (d__law_any 8) (aCons (vr 0) (aCons (cst (.int 3)) aNil))) aNil)))
noncomputable def b__law_things : DSx :=
  (seqD (setOD (lstD aNil) 2)
  (seqD (forE (rng1 (aCons (cst (.int 3)) aNil)) (gN 3)
    f__law_things_3)
  (seqD (setOD (listD (pureE (pvw 1))) 4)
  (seqD (forE (rng1 (aCons (lift2 addK (cst (.int 1)) (callD d__law_take (aCons (vr 0) (aCons (cst (.int 2)) aNil)))) aNil)) (gN 3)
    f__law_things_2)
  (seqD (setOD (lstD (aCons (callD (d__law_any 8) (aCons (vr 0) (aCons (cst (.int 4)) aNil))) (aCons (aCons (cst (.str "future")) (aCons (pureE (plift2 pIx (pvw 2) (pcst (.int 0)))) (aCons (pureE (plift2 pIx (pvw 2) (pcst (.int 1)))) (aCons (pureE (plift2 pIx (pvw 2) (pcst (.int 2)))) aNil)))) (aCons (tupleD (pureE (pvw 4))) (aCons (frzE 4) (aCons (vr 1) (aCons (listD (pureE (pvw 1))) aNil))))))) 5)
  (seqD (forE (itD (aCons (cst (.int 0)) (aCons (cst (.int 1)) (aCons (cst (.int 2)) (aCons (cst (.int 64)) (aCons (cst (.int 65)) aNil)))))) (gN 6)
    f__law_things_1)
  (retD (lift2 addK (frzE 5) (lstD (aCons (slX kSlT (vr 1) bdN (bdS (cst (.int 3)))) (aCons (lift2 addKT (vr 1) (aCons (cst .non) aNil)) (aCons (aCons (cst (.str "future")) aNil) (aCons (cst (.str "future")) (aCons (cst .non) (aCons (aCons (cst (.str "future")) (aCons (pureE (plift2 pIx (pvw 1) (pcst (.int 1)))) (aCons (pureE (plift2 pIx (pvw 1) (pcst (.int 2)))) (aCons (lstD aNil) aNil)))) aNil)))))))))))))))
noncomputable def d__law_things : Den := runD 7 b__law_things
theorem bd__law_things {P : Program} {wd : World} {K : PySem.W.Frag} {mg : Str → Option Value} {base : Heap} (T : Fx K mg) (C__law_any : Cal P wd K mg base 9 "_law_any" 2 (d__law_any 8)) (C__law_take : Cal P wd K mg base 1 "_law_take" 2 d__law_take) {f : Addr} {A : Around} {outer : List Env} {s : Shared} {H : Hp} {E : XK} {cdv : Value} (hr : Room 9 (A.deeper (PyProof.Rows.envOfC "_law_things" (defScope s__law_things) s.heap.objs.size f cdv))) : DSs (cxOf (L2N.CX P wd) P wd K mg base N__law_things "_law_things" (defScope s__law_things) f cdv A outer s H E) (WEx E) (defBody s__law_things) b__law_things :=
  have sc := sc__law_things
  (dss_cons (ds_setO (i := 2) sc.nd (by rfl) (Or.inl (by rfl)) (do_lst da_nil))
  (dss_cons (ds_for (passes_of (by rfl)) (by rfl) (di_range1 (by rfl) T.n_range (da_cons de_int da_nil)) (dg_name (i := 3) sc.nd (by rfl) (Or.inl (by rfl)))
    (dss_one (ds_expr (de_mut (i := 2) PySem.F.slot_list_append PySem.F.type_list_append mt_append ansM_app (da_cons (Cal.call C__law_any hr (by omega) (by rfl) (L2N.takes_of (by rfl) (by rfl) (by rfl) (by rfl)) (da_cons (de_vr 0) (da_cons de_int da_nil))) da_nil)))))
  (dss_cons (ds_setO (i := 4) sc.nd (by rfl) (Or.inl (by rfl)) (do_list (by rfl) T.n_list (DPv.v (dp_vw 1))))
  (dss_cons (ds_for (passes_of (by rfl)) (by rfl) (di_range1 (by rfl) T.n_range (da_cons (de_addX de_int (Cal.call C__law_take hr (by omega) (by rfl) (L2N.takes_of (by rfl) (by rfl) (by rfl) (by rfl)) (da_cons (de_vr 0) (da_cons de_int da_nil)))) da_nil)) (dg_name (i := 3) sc.nd (by rfl) (Or.inl (by rfl)))
    (dss_one (ds_subE (i := 4) (Cal.call C__law_any hr (by omega) (by rfl) (L2N.takes_of (by rfl) (by rfl) (by rfl) (by rfl)) (da_cons (de_vr 0) (da_cons de_int da_nil))) (de_addX de_int (Cal.call C__law_take hr (by omega) (by rfl) (L2N.takes_of (by rfl) (by rfl) (by rfl) (by rfl)) (da_cons (de_vr 0) (da_cons de_int da_nil)))))))
  (dss_cons (ds_setO (i := 5) sc.nd (by rfl) (Or.inl (by rfl)) (do_lst (da_cons (Cal.call C__law_any hr (by omega) (by rfl) (L2N.takes_of (by rfl) (by rfl) (by rfl) (by rfl)) (da_cons (de_vr 0) (da_cons de_int da_nil))) (da_cons (de_tup (da_cons de_str (da_cons (DP.e (dp_ix (dp_vw 2) dp_int (fun _ _ => (by rfl)))) (da_cons (DP.e (dp_ix (dp_vw 2) dp_int (fun _ _ => (by rfl)))) (da_cons (DP.e (dp_ix (dp_vw 2) dp_int (fun _ _ => (by rfl)))) da_nil))))) (da_cons (de_tuple (by rfl) T.n_tuple (DPv.v (dp_vw 4))) (da_cons (de_frz 4) (da_cons (de_vr 1) (da_cons (DO.fz (do_list (by rfl) T.n_list (DPv.v (dp_vw 1)))) da_nil))))))))
  (dss_cons (ds_for (passes_of (by rfl)) (by rfl) (di_seq (de_tup (da_cons de_int (da_cons de_int (da_cons de_int (da_cons de_int (da_cons de_int da_nil))))))) (dg_name (i := 6) sc.nd (by rfl) (Or.inl (by rfl)))
    (dss_one (ds_expr (de_mut (i := 5) PySem.F.slot_list_append PySem.F.type_list_append mt_append ansM_app (da_cons (de_tup (da_cons de_str (da_cons (DP.e (dp_ix (dp_vw 1) dp_int (fun _ _ => (by rfl)))) (da_cons (de_mulX (DP.e (dp_ix (dp_vw 1) dp_int (fun _ _ => (by rfl)))) (de_vr 6)) (da_cons (DP.e (dp_ix (dp_vw 1) dp_int (fun _ _ => (by rfl)))) da_nil))))) da_nil)))))
  (dss_one (ds_ret (de_addX (de_frz 5) (DO.fz (do_lst (da_cons (de_sliceT (de_vr 1) db_none (db_some de_int)) (da_cons (de_addT (de_vr 1) (de_tup (da_cons de_non da_nil))) (da_cons (de_tup (da_cons de_str da_nil)) (da_cons de_str (da_cons de_non (da_cons (de_tup (da_cons de_str (da_cons (DP.e (dp_ix (dp_vw 1) dp_int (fun _ _ => (by rfl)))) (da_cons (DP.e (dp_ix (dp_vw 1) dp_int (fun _ _ => (by rfl)))) (da_cons (DO.fz (do_lst da_nil)) da_nil))))) da_nil)))))))))))))))))
abbrev s_is_tuple_of : Stmt := top 10
abbrev N_is_tuple_of : List Str := ["thing", "many"]
theorem sc_is_tuple_of : FnScope N_is_tuple_of ["thing", "many"] (defScope s_is_tuple_of) := ⟨rfl, rfl, rfl, by decide +kernel, rfl, by decide +kernel, by decide +kernel⟩
noncomputable def b_is_tuple_of : DSx :=
  (retD (andD (lift1 (pIsi "tuple") (pureE (pvw 0))) (lift2 pEq (lift1 pLen (pureE (pvw 0))) (pureE (pvw 1)))))
noncomputable def d_is_tuple_of : Den := runD 2 b_is_tuple_of
theorem bd_is_tuple_of {P : Program} {wd : World} {K : PySem.W.Frag} {mg : Str → Option Value} {base : Heap} (T : Fx K mg)  {f : Addr} {A : Around} {outer : List Env} {s : Shared} {H : Hp} {E : XK} {cdv : Value} (hr : Room 0 (A.deeper (PyProof.Rows.envOfC "is_tuple_of" (defScope s_is_tuple_of) s.heap.objs.size f cdv))) : DSs (cxOf (L2N.CX P wd) P wd K mg base N_is_tuple_of "is_tuple_of" (defScope s_is_tuple_of) f cdv A outer s H E) (WEx E) (defBody s_is_tuple_of) b_is_tuple_of :=
  have sc := sc_is_tuple_of
  (dss_one (ds_ret (de_and (de_isi (by rfl) T.n_isinstance (by rfl) T.n_tuple b_tuple (DPv.v (dp_vw 0))) (de_one (de_cmp (op_eqD hr.units) ans_eq (nomark _) (de_b1 call_len ansC_len (by rfl) T.n_len b_len (DPv.v (dp_vw 0))) (DPv.v (dp_vw 1)))))))
abbrev s_is_name : Stmt := top 4
abbrev N_is_name : List Str := ["thing", "sign"]
theorem sc_is_name : FnScope N_is_name ["thing"] (defScope s_is_name) := ⟨rfl, rfl, rfl, by decide +kernel, rfl, by decide +kernel, by decide +kernel⟩
noncomputable def e_is_name_1 : DEx :=
  (lift2 (pInX false) (vr 1) (cst (.str "abcdefghijklmnopqrstuvwxyz")))
noncomputable def b_is_name : DSx :=
  (seqD (ifD (orD (notD (lift1 (pIsi "str") (pureE (pvw 0)))) (notD (chainD pLeX pLeX (cst (.int 1)) (lift1 pLen (pureE (pvw 0))) (cst (.int 8)))))
    (retD (cst (.bl false)))
    nxD)
  (retD (lift1 pAll (lcD (itD (vr 0)) (gN 1) yesD e_is_name_1 [1]))))
noncomputable def d_is_name : Den := runD 2 b_is_name
theorem bd_is_name {P : Program} {wd : World} {K : PySem.W.Frag} {mg : Str → Option Value} {base : Heap} (T : Fx K mg)  {f : Addr} {A : Around} {outer : List Env} {s : Shared} {H : Hp} {E : XK} {cdv : Value} (hr : Room 0 (A.deeper (PyProof.Rows.envOfC "is_name" (defScope s_is_name) s.heap.objs.size f cdv))) : DSs (cxOf (L2N.CX P wd) P wd K mg base N_is_name "is_name" (defScope s_is_name) f cdv A outer s H E) (WEx E) (defBody s_is_name) b_is_name :=
  have sc := sc_is_name
  (dss_cons (ds_if (DW.t (dw_or (dt_not (dt_val (de_isi (by rfl) T.n_isinstance (by rfl) T.n_str b_str (DPv.v (dp_vw 0))))) (dw_or1 (dt_not (dt_chain (op_leA hr.units) ans_leX (op_leA hr.units) ans_leX de_int (de_b1 call_len ansC_len (by rfl) T.n_len b_len (DPv.v (dp_vw 0))) (DE.v (de_gintE (by rfl) T.c_MOST_LETTERS)))))))
    (dss_one (ds_ret de_bl))
    dss_nil)
  (dss_one (ds_ret (de_b1 (cr_all (by rfl)) ansC_all (by rfl) T.n_all b_all (DE.v (DO.fz (do_lc (own := [("sign", 1)]) (by rfl) sc.nd (di_seq (de_vr 0)) (blkOk_by (by rfl)) (by decide) (fun _ _ _ _ _ => (dg_name (i := 1) sc.nd (by rfl) (by first | exact Or.inl (by rfl) | exact Or.inr (by rfl)))) (fun _ _ _ _ _ => dts_nil) (fun _ _ _ _ _ => (de_cmp (op_inA hr.u65) (ans_in false) (by rfl) (de_vr 1) (DE.v (de_gstrE (by rfl) T.c_LETTERS)))))))))))
abbrev s_are_names : Stmt := top 11
abbrev N_are_names : List Str := ["thing", "one"]
theorem sc_are_names : FnScope N_are_names ["thing"] (defScope s_are_names) := ⟨rfl, rfl, rfl, by decide +kernel, rfl, by decide +kernel, by decide +kernel⟩
noncomputable def e_are_names_1 : DEx :=
  (callD d_is_name (aCons (vr 1) aNil))
noncomputable def b_are_names : DSx :=
  (seqD (ifD (orD (notD (lift1 (pIsi "tuple") (pureE (pvw 0)))) (orD (lift2 pEqO (lift1 pLen (pureE (pvw 0))) (cst (.int 0))) (notD (lift1 pAll (lcD (itD (vr 0)) (gN 1) yesD e_are_names_1 [1])))))
    (retD (cst (.bl false)))
    nxD)
  (retD (lift2 pEqO (listD (pureE (pvw 0))) (sstD (pureE (pvw 0))))))
noncomputable def d_are_names : Den := runD 2 b_are_names
theorem bd_are_names {P : Program} {wd : World} {K : PySem.W.Frag} {mg : Str → Option Value} {base : Heap} (T : Fx K mg) (C_is_name : Cal P wd K mg base 1 "is_name" 1 d_is_name) {f : Addr} {A : Around} {outer : List Env} {s : Shared} {H : Hp} {E : XK} {cdv : Value} (hr : Room 1 (A.deeper (PyProof.Rows.envOfC "are_names" (defScope s_are_names) s.heap.objs.size f cdv))) : DSs (cxOf (L2N.CX P wd) P wd K mg base N_are_names "are_names" (defScope s_are_names) f cdv A outer s H E) (WEx E) (defBody s_are_names) b_are_names :=
  have sc := sc_are_names
  (dss_cons (ds_if (DW.t (dw_or (dt_not (dt_val (de_isi (by rfl) T.n_isinstance (by rfl) T.n_tuple b_tuple (DPv.v (dp_vw 0))))) (dw_or (dt_cmp (op_eqO hr.units) ans_eqO (nomark _) (de_b1 call_len ansC_len (by rfl) T.n_len b_len (DPv.v (dp_vw 0))) (DE.v de_int)) (dw_or1 (dt_not (dt_val (de_b1 (cr_all (by rfl)) ansC_all (by rfl) T.n_all b_all (DE.v (DO.fz (do_lc (own := [("one", 1)]) (by rfl) sc.nd (di_seq (de_vr 0)) (blkOk_by (by rfl)) (by decide) (fun _ _ _ _ _ => (dg_name (i := 1) sc.nd (by rfl) (by first | exact Or.inl (by rfl) | exact Or.inr (by rfl)))) (fun _ _ _ _ _ => dts_nil) (fun _ _ _ _ _ => (Cal.call C_is_name hr (by omega) (by rfl) takesF (da_cons (de_vr 1) da_nil)))))))))))))
    (dss_one (ds_ret de_bl))
    dss_nil)
  (dss_one (ds_ret (de_cmp (op_eqO hr.units) ans_eqO (nomark _) (DO.fz (do_list (by rfl) T.n_list (DPv.v (dp_vw 0)))) (DE.v (DO.fz (do_sortSet (by rfl) (by rfl) T.n_sorted (by rfl) T.n_set (DPv.v (dp_vw 0)))))))))
abbrev s_is_family_of : Stmt := top 12
abbrev N_is_family_of : List Str := ["thing", "members", "one", "name"]
theorem sc_is_family_of : FnScope N_is_family_of ["thing", "members"] (defScope s_is_family_of) := ⟨rfl, rfl, rfl, by decide +kernel, rfl, by decide +kernel, by decide +kernel⟩
noncomputable def e_is_family_of_1 : DEx :=
  (lift2 (pInO false) (vr 3) (pureE (pvw 1)))
noncomputable def e_is_family_of_2 : DEx :=
  (andD (callD d_are_names (aCons (vr 2) aNil)) (lift1 pAll (lcD (itD (vr 2)) (gN 3) yesD e_is_family_of_1 [3])))
noncomputable def b_is_family_of : DSx :=
  (seqD (ifD (orD (notD (lift1 (pIsi "list") (pureE (pvw 0)))) (notD (chainD pLeX pLeX (cst (.int 1)) (lift1 pLen (pureE (pvw 0))) (cst (.int 64)))))
    (retD (cst (.bl false)))
    nxD)
  (retD (lift1 pAll (lcD (itD (vr 0)) (gN 2) yesD e_is_family_of_2 [2]))))
noncomputable def d_is_family_of : Den := runD 4 b_is_family_of
theorem bd_is_family_of {P : Program} {wd : World} {K : PySem.W.Frag} {mg : Str → Option Value} {base : Heap} (T : Fx K mg) (C_are_names : Cal P wd K mg base 2 "are_names" 1 d_are_names) {f : Addr} {A : Around} {outer : List Env} {s : Shared} {H : Hp} {E : XK} {cdv : Value} (hr : Room 2 (A.deeper (PyProof.Rows.envOfC "is_family_of" (defScope s_is_family_of) s.heap.objs.size f cdv))) : DSs (cxOf (L2N.CX P wd) P wd K mg base N_is_family_of "is_family_of" (defScope s_is_family_of) f cdv A outer s H E) (WEx E) (defBody s_is_family_of) b_is_family_of :=
  have sc := sc_is_family_of
  (dss_cons (ds_if (DW.t (dw_or (dt_not (dt_val (de_isi (by rfl) T.n_isinstance (by rfl) T.n_list b_list (DPv.v (dp_vw 0))))) (dw_or1 (dt_not (dt_chain (op_leA hr.units) ans_leX (op_leA hr.units) ans_leX de_int (de_b1 call_len ansC_len (by rfl) T.n_len b_len (DPv.v (dp_vw 0))) (DE.v (de_gintE (by rfl) T.c_MOST_SETS)))))))
    (dss_one (ds_ret de_bl))
    dss_nil)
  (dss_one (ds_ret (de_b1 (cr_all (by rfl)) ansC_all (by rfl) T.n_all b_all (DE.v (DO.fz (do_lc (own := [("one", 2)]) (by rfl) sc.nd (di_seq (de_vr 0)) (blkOk_by (by rfl)) (by decide) (fun _ _ _ _ _ => (dg_name (i := 2) sc.nd (by rfl) (by first | exact Or.inl (by rfl) | exact Or.inr (by rfl)))) (fun _ _ _ _ _ => dts_nil) (fun _ _ _ _ _ => (de_and (Cal.call C_are_names hr (by omega) (by rfl) takesF (da_cons (de_vr 2) da_nil)) (de_one (de_b1 (cr_all (by rfl)) ansC_all (by rfl) T.n_all b_all (DE.v (DO.fz (do_lc (own := [("name", 3)]) (by rfl) sc.nd (di_seq (de_vr 2)) (blkOk_by (by rfl)) (by decide) (fun _ _ _ _ _ => (dg_name (i := 3) sc.nd (by rfl) (by first | exact Or.inl (by rfl) | exact Or.inr (by rfl)))) (fun _ _ _ _ _ => dts_nil) (fun _ _ _ _ _ => (de_cmp (op_inO hr.u65) (ans_inO false) (by rfl) (de_vr 3) (DPv.v (dp_vw 1))))))))))))))))))
abbrev s_are_calls : Stmt := top 13
abbrev N_are_calls : List Str := ["thing", "call", "word", "said"]
theorem sc_are_calls : FnScope N_are_calls ["thing"] (defScope s_are_calls) := ⟨rfl, rfl, rfl, by decide +kernel, rfl, by decide +kernel, by decide +kernel⟩
noncomputable def e_are_calls_1 : DEx :=
  (andD (callD d_is_name (aCons (vr 2) aNil)) (orD (lift2 (pIs false) (vr 3) (cst .non)) (callD d_is_name (aCons (vr 3) aNil))))
noncomputable def e_are_calls_2 : DEx :=
  (callD d_is_tuple_of (aCons (vr 1) (aCons (cst (.int 2)) aNil)))
noncomputable def b_are_calls : DSx :=
  (seqD (ifD (orD (notD (lift1 (pIsi "list") (pureE (pvw 0)))) (notD (lift1 pAll (lcD (itD (vr 0)) (gN 1) yesD e_are_calls_2 [1]))))
    (retD (cst (.bl false)))
    nxD)
  (retD (lift1 pAll (lcD (itD (vr 0)) (gT (gsCons (gN 2) (gsCons (gN 3) gsNil))) yesD e_are_calls_1 [2, 3]))))
noncomputable def d_are_calls : Den := runD 4 b_are_calls
theorem bd_are_calls {P : Program} {wd : World} {K : PySem.W.Frag} {mg : Str → Option Value} {base : Heap} (T : Fx K mg) (C_is_name : Cal P wd K mg base 1 "is_name" 1 d_is_name) (C_is_tuple_of : Cal P wd K mg base 1 "is_tuple_of" 2 d_is_tuple_of) {f : Addr} {A : Around} {outer : List Env} {s : Shared} {H : Hp} {E : XK} {cdv : Value} (hr : Room 1 (A.deeper (PyProof.Rows.envOfC "are_calls" (defScope s_are_calls) s.heap.objs.size f cdv))) : DSs (cxOf (L2N.CX P wd) P wd K mg base N_are_calls "are_calls" (defScope s_are_calls) f cdv A outer s H E) (WEx E) (defBody s_are_calls) b_are_calls :=
  have sc := sc_are_calls
  (dss_cons (ds_if (DW.t (dw_or (dt_not (dt_val (de_isi (by rfl) T.n_isinstance (by rfl) T.n_list b_list (DPv.v (dp_vw 0))))) (dw_or1 (dt_not (dt_val (de_b1 (cr_all (by rfl)) ansC_all (by rfl) T.n_all b_all (DE.v (DO.fz (do_lc (own := [("call", 1)]) (by rfl) sc.nd (di_seq (de_vr 0)) (blkOk_by (by rfl)) (by decide) (fun _ _ _ _ _ => (dg_name (i := 1) sc.nd (by rfl) (by first | exact Or.inl (by rfl) | exact Or.inr (by rfl)))) (fun _ _ _ _ _ => dts_nil) (fun _ _ _ _ _ => (Cal.call C_is_tuple_of hr (by omega) (by rfl) takesF (da_cons (de_vr 1) (da_cons de_int da_nil)))))))))))))
    (dss_one (ds_ret de_bl))
    dss_nil)
  (dss_one (ds_ret (de_b1 (cr_all (by rfl)) ansC_all (by rfl) T.n_all b_all (DE.v (DO.fz (do_lc (own := [("word", 2), ("said", 3)]) (by rfl) sc.nd (di_seq (de_vr 0)) (blkOk_by (by rfl)) (by decide) (fun _ _ _ _ _ => (dg_tup (by rfl) (dgs_cons (dg_name (i := 2) sc.nd (by rfl) (by first | exact Or.inl (by rfl) | exact Or.inr (by rfl))) (dgs_cons (dg_name (i := 3) sc.nd (by rfl) (by first | exact Or.inl (by rfl) | exact Or.inr (by rfl))) dgs_nil)))) (fun _ _ _ _ _ => dts_nil) (fun _ _ _ _ _ => (de_and (Cal.call C_is_name hr (by omega) (by rfl) takesF (da_cons (de_vr 2) da_nil)) (de_one (de_or (de_cmp op_isN ans_isN (nomark _) (de_vr 3) (DE.v de_non)) (de_one (Cal.call C_is_name hr (by omega) (by rfl) takesF (da_cons (de_vr 3) da_nil))))))))))))))
abbrev s_is_hit : Stmt := top 5
abbrev N_is_hit : List Str := ["hearers", "family", "one", "member"]
theorem sc_is_hit : FnScope N_is_hit ["hearers", "family"] (defScope s_is_hit) := ⟨rfl, rfl, rfl, by decide +kernel, rfl, by decide +kernel, by decide +kernel⟩
noncomputable def e_is_hit_1 : DEx :=
  (lift2 (pInX false) (vr 3) (pureE (pvw 0)))
noncomputable def e_is_hit_2 : DEx :=
  (lift1 pAny (lcD (itD (vr 2)) (gN 3) yesD e_is_hit_1 [3]))
noncomputable def b_is_hit : DSx :=
  (retD (lift1 pAll (lcD (itD (vr 1)) (gN 2) yesD e_is_hit_2 [2])))
noncomputable def d_is_hit : Den := runD 4 b_is_hit
theorem bd_is_hit {P : Program} {wd : World} {K : PySem.W.Frag} {mg : Str → Option Value} {base : Heap} (T : Fx K mg)  {f : Addr} {A : Around} {outer : List Env} {s : Shared} {H : Hp} {E : XK} {cdv : Value} (hr : Room 0 (A.deeper (PyProof.Rows.envOfC "is_hit" (defScope s_is_hit) s.heap.objs.size f cdv))) : DSs (cxOf (L2N.CX P wd) P wd K mg base N_is_hit "is_hit" (defScope s_is_hit) f cdv A outer s H E) (WEx E) (defBody s_is_hit) b_is_hit :=
  have sc := sc_is_hit
  (dss_one (ds_ret (de_b1 (cr_all (by rfl)) ansC_all (by rfl) T.n_all b_all (DE.v (DO.fz (do_lc (own := [("one", 2)]) (by rfl) sc.nd (di_seq (de_vr 1)) (blkOk_by (by rfl)) (by decide) (fun _ _ _ _ _ => (dg_name (i := 2) sc.nd (by rfl) (by first | exact Or.inl (by rfl) | exact Or.inr (by rfl)))) (fun _ _ _ _ _ => dts_nil) (fun _ _ _ _ _ => (de_b1 (cr_any (by rfl)) ansC_any (by rfl) T.n_any b_any (DE.v (DO.fz (do_lc (own := [("member", 3)]) (by rfl) sc.nd (di_seq (de_vr 2)) (blkOk_by (by rfl)) (by decide) (fun _ _ _ _ _ => (dg_name (i := 3) sc.nd (by rfl) (by first | exact Or.inl (by rfl) | exact Or.inr (by rfl)))) (fun _ _ _ _ _ => dts_nil) (fun _ _ _ _ _ => (de_cmp (op_inA hr.u65) (ans_in false) (by rfl) (de_vr 3) (DPv.v (dp_vw 0)))))))))))))))
abbrev s_thing_heard : Stmt := top 6
abbrev N_thing_heard : List Str := ["rows", "family", "thing", "hearers"]
theorem sc_thing_heard : FnScope N_thing_heard ["rows", "family"] (defScope s_thing_heard) := ⟨rfl, rfl, rfl, by decide +kernel, rfl, by decide +kernel, by decide +kernel⟩
noncomputable def f_thing_heard_1 : DSx :=
  (ifD (callD d_is_hit (aCons (vr 3) (aCons (vr 1) aNil)))
    (retD (vr 2))
    nxD)
noncomputable def b_thing_heard : DSx :=
  (seqD (forE (revD (aCons (listD (pureE (pvw 0))) aNil)) (gT (gsCons (gN 2) (gsCons (gN 3) gsNil)))
    f_thing_heard_1)
  (retD (cst .non)))
noncomputable def d_thing_heard : Den := runD 4 b_thing_heard
theorem bd_thing_heard {P : Program} {wd : World} {K : PySem.W.Frag} {mg : Str → Option Value} {base : Heap} (T : Fx K mg) (C_is_hit : Cal P wd K mg base 1 "is_hit" 2 d_is_hit) {f : Addr} {A : Around} {outer : List Env} {s : Shared} {H : Hp} {E : XK} {cdv : Value} (hr : Room 1 (A.deeper (PyProof.Rows.envOfC "thing_heard" (defScope s_thing_heard) s.heap.objs.size f cdv))) : DSs (cxOf (L2N.CX P wd) P wd K mg base N_thing_heard "thing_heard" (defScope s_thing_heard) f cdv A outer s H E) (WEx E) (defBody s_thing_heard) b_thing_heard :=
  have sc := sc_thing_heard
  (dss_cons (ds_for (passes_of (by rfl)) (by rfl) (di_rev (by rfl) T.n_reversed (da_cons (DO.fz (do_list (by rfl) T.n_list (DPv.v (dp_vw 0)))) da_nil)) (dg_tup (by rfl) (dgs_cons (dg_name (i := 2) sc.nd (by rfl) (Or.inl (by rfl))) (dgs_cons (dg_name (i := 3) sc.nd (by rfl) (Or.inl (by rfl))) dgs_nil)))
    (dss_one (ds_if (dt_val (Cal.call C_is_hit hr (by omega) (by rfl) (L2N.takes_of (by rfl) (by rfl) (by rfl) (by rfl)) (da_cons (de_vr 3) (da_cons (de_vr 1) da_nil))))
    (dss_one (ds_ret (de_vr 2)))
    dss_nil)))
  (dss_one (ds_ret de_non)))
abbrev s_followed : Stmt := top 7
abbrev N_followed : List Str := ["word", "thing_of", "seen", "thing"]
theorem sc_followed : FnScope N_followed ["word", "thing_of"] (defScope s_followed) := ⟨rfl, rfl, rfl, by decide +kernel, rfl, by decide +kernel, by decide +kernel⟩
noncomputable def w_followed_1 : DEx :=
  (lift2 (pInX true) (vr 0) (pureE (pvw 2)))
noncomputable def f_followed_2 (dn : Den) : DSx :=
  (seqD (setD (callFD 1 dn (aCons (vr 0) aNil)) (gN 3))
  (seqD (ifD (notD (lift1 (pIsi "tuple") (pureE (pvw 3))))
    (retD (vr 3))
    nxD)
  (seqD (exprD (mutD 2 kApp (aCons (vr 0) aNil)))
  (setD (pureE (plift2 pIx (pvw 3) (pcst (.int 1)))) (gN 0)))))
noncomputable def b_followed (dn : Den) : DSx :=
  (seqD (setOD (lstD aNil) 2)
  (seqD (whileD w_followed_1
    (f_followed_2 dn))
  (retD (cst .non))))
theorem bd_followed {P : Program} {wd : World} {K : PySem.W.Frag} {mg : Str → Option Value} {base : Heap} (T : Fx K mg)  {f : Addr} {A : Around} {outer : List Env} {s : Shared} {H : Hp} {E : XK} {cdv : Value} {kc : Nat} {b : Low} {dn : Den} (hx : b.ex = none) (hc : ∀ pn xe, CloX ((cxOf (L2N.CX P wd) P wd K mg base N_followed "followed" (defScope s_followed) f cdv A outer s H E).tr pn xe) kc 1 b dn) (hr : Room (kc + 0) (A.deeper (PyProof.Rows.envOfC "followed" (defScope s_followed) s.heap.objs.size f cdv))) : DSs (cxOf (L2N.CX P wd) P wd K mg base N_followed "followed" (defScope s_followed) f cdv A outer s H E) (WEb b E) (defBody s_followed) (b_followed dn) :=
  have sc := sc_followed
  (dss_cons (ds_setO (i := 2) sc.nd (by rfl) (Or.inl (by rfl)) (do_lst da_nil))
  (dss_cons (ds_while (passes_of (by rfl)) (dt_cmp (op_notInA hr.u65) (ans_in true) (by rfl) (de_vr 0) (DPv.v (dp_vw 2)))
    (dss_cons (ds_set (i := 3) sc.nd (by rfl) (Or.inl (by rfl)) (de_clo (hc _ _) hr (by omega) (L2N.takes_of (by rfl) (by rfl) (by rfl) (by rfl)) (da_cons (de_vr 0) da_nil)))
  (dss_cons (ds_if (dt_not (dt_val (de_isi (by rfl) T.n_isinstance (by rfl) T.n_tuple b_tuple (DPv.v (dp_vw 3)))))
    (dss_one (ds_ret (de_vr 3)))
    dss_nil)
  (dss_cons (ds_expr (de_mut (i := 2) PySem.F.slot_list_append PySem.F.type_list_append mt_append ansM_app (da_cons (de_vr 0) da_nil)))
  (dss_one (ds_set (i := 0) sc.nd (by rfl) (Or.inl (by rfl)) (DP.e (dp_ix (dp_vw 3) dp_int (fun _ _ => (by rfl))))))))))
  (dss_one (ds_ret de_non))))
abbrev s_imagined : Stmt := top 8
abbrev N_imagined : List Str := ["rows", "word", "family", "calls", "called", "thing_of", "one", "thing"]
theorem sc_imagined : FnScope N_imagined ["rows", "word", "family", "calls"] (defScope s_imagined) := ⟨rfl, rfl, rfl, by decide +kernel, rfl, by decide +kernel, by decide +kernel⟩
abbrev N_imagined_thing_of : List Str := ["one", "called", "family", "rows"]
noncomputable def b_imagined_thing_of : DSx :=
  (seqD (ifD (dinD false (vr 0) (vr 1))
    (retD (dsubD (vr 1) (vr 0)))
    nxD)
  (retD (callD d_thing_heard (aCons (dgetD (vr 3) (vr 0) (lstD aNil)) (aCons (vr 2) aNil)))))
noncomputable def b_imagined : DSx :=
  (seqD (setD (lkE (dcD (itD (vr 3)) (gT (gsCons (gN 6) (gsCons (gN 7) gsNil))) yesD (vr 6) (vr 7) [6, 7])) (gN 4))
  (ndRetD 0 "imagined" "imagined.<locals>.thing_of" 5 [4, 2, 0] 4 b_followed 4 b_imagined_thing_of (vr 1)))
noncomputable def d_imagined : Den := runD 8 b_imagined
theorem bd_imagined {P : Program} {wd : World} {K : PySem.W.Frag} {mg : Str → Option Value} {base : Heap} (T : Fx K mg) (C_thing_heard : Cal P wd K mg base 2 "thing_heard" 2 d_thing_heard) (C_followed : ∀ kc : Nat, Recv P wd K mg base (kc + 0) kc 1 "followed" s_followed N_followed ["word", "thing_of"] b_followed) {f : Addr} {A : Around} {outer : List Env} {s : Shared} {H : Hp} {E : XK} {c P1 : Addr} (TA : TabAt (cxOf (L2N.CX P wd) P wd K mg base N_imagined "imagined" (defScope s_imagined) f (.ref c) A outer s H E) "imagined" c P1) (hr : Room 4 (A.deeper (PyProof.Rows.envOfC "imagined" (defScope s_imagined) s.heap.objs.size f (.ref c)))) : DSs (cxOf (L2N.CX P wd) P wd K mg base N_imagined "imagined" (defScope s_imagined) f (.ref c) A outer s H E) (WEx E) (defBody s_imagined) b_imagined :=
  have sc := sc_imagined
  (dss_cons (ds_set (i := 4) sc.nd (by rfl) (Or.inr (by rfl)) (DOd.lk (dod_dc (own := [("one", 6), ("thing", 7)]) (by rfl) sc.nd (di_seq (de_vr 3)) (blkOk_by (by rfl)) (by decide) (fun _ _ _ _ _ => (dg_tup (by rfl) (dgs_cons (dg_name (i := 6) sc.nd (by rfl) (by first | exact Or.inl (by rfl) | exact Or.inr (by rfl))) (dgs_cons (dg_name (i := 7) sc.nd (by rfl) (by first | exact Or.inl (by rfl) | exact Or.inr (by rfl))) dgs_nil)))) (fun _ _ _ _ _ => dts_nil) (fun _ _ _ _ _ => (de_vr 6)) (fun _ _ _ _ _ => (de_vr 7)))))
  (match C_followed 3 with | ⟨_, _, RD⟩ => dss_ndret (l := 0) (i := 5) (js := [4, 2, 0]) (q := "imagined") (nm := "imagined.<locals>.thing_of") (N := N_imagined_thing_of) (ps := ["one"]) (fr := ["called", "family", "rows"]) (k1 := 2) TA (by rfl) (by rfl) (by rfl) (by rfl) (by rfl) sc.nd (by rfl) (Or.inl (by rfl)) (Or.inr (by rfl)) (by rfl) (by decide +kernel) (by rfl) (by rfl) (fun _ _ _ _ _ us hl => match us, hl with | [_], _ => (by rfl)) (fun cl c1 f1 b1 A1 outer1 s1 H1 E1 hr => have sc : ScN N_imagined_thing_of := ⟨by decide +kernel⟩; (dss_cons (ds_if (dt_din (hu_of hr) (de_vr 0) (de_vr 1))
    (dss_one (ds_ret (de_dsub (hu_of hr) (de_vr 1) (de_vr 0) (fun _ _ => (by rfl)))))
    dss_nil)
  (dss_one (ds_ret (Cal.call C_thing_heard hr (by omega) (by rfl) (L2N.takes_of (by rfl) (by rfl) (by rfl) (by rfl)) (da_cons (de_dget2 (hu_of hr) (de_vr 3) (de_vr 0) (DO.fz (do_lst da_nil)) ⟨(by rfl), (by rfl), (by rfl), (by rfl)⟩) (da_cons (de_vr 2) da_nil))))))) RD hr (by omega) (by rfl) (by rfl) (by decide) (by rfl) (L2N.takes_of (by rfl) (by rfl) (by rfl) (by rfl)) (de_vr 1) (Or.inl (by rfl))))
abbrev s_future_holds : Stmt := top 14
abbrev N_future_holds : List Str := ["one", "other", "members", "thing", "word", "family", "calls"]
theorem sc_future_holds : FnScope N_future_holds ["one", "other", "members", "thing"] (defScope s_future_holds) := ⟨rfl, rfl, rfl, by decide +kernel, rfl, by decide +kernel, by decide +kernel⟩
noncomputable def b_future_holds : DSx :=
  (seqD (ifD (orD (notD (callD d_is_tuple_of (aCons (vr 3) (aCons (cst (.int 4)) aNil)))) (lift2 pNeO (pureE (plift2 pIx (pvw 3) (pcst (.int 0)))) (cst (.str "future"))))
    (retD (cst (.bl false)))
    nxD)
  (seqD (setD (slX kSl (vr 3) (bdS (cst (.int 1))) bdN) (gT (gsCons (gN 4) (gsCons (gN 5) (gsCons (gN 6) gsNil)))))
  (seqD (ifD (orD (notD (callD d_is_name (aCons (vr 4) aNil))) (orD (notD (callD d_is_family_of (aCons (vr 5) (aCons (vr 2) aNil)))) (notD (callD d_are_calls (aCons (vr 6) aNil)))))
    (retD (cst (.bl false)))
    nxD)
  (retD (lift2 pNeO (callD d_imagined (aApp (aCons (vr 0) (aCons (vr 4) (aCons (vr 5) aNil))) (aCons (vr 6) aNil))) (callD d_imagined (aApp (aCons (vr 1) (aCons (vr 4) (aCons (vr 5) aNil))) (aCons (vr 6) aNil))))))))
noncomputable def d_future_holds : Den := runD 7 b_future_holds
theorem bd_future_holds {P : Program} {wd : World} {K : PySem.W.Frag} {mg : Str → Option Value} {base : Heap} (T : Fx K mg) (C_imagined_atk3 : CalK P wd K mg base 5 "imagined" 4 3 ["calls"] d_imagined) (C_is_name : Cal P wd K mg base 1 "is_name" 1 d_is_name) (C_is_family_of : Cal P wd K mg base 3 "is_family_of" 2 d_is_family_of) (C_are_calls : Cal P wd K mg base 2 "are_calls" 1 d_are_calls) (C_is_tuple_of : Cal P wd K mg base 1 "is_tuple_of" 2 d_is_tuple_of) {f : Addr} {A : Around} {outer : List Env} {s : Shared} {H : Hp} {E : XK} {cdv : Value} (hr : Room 5 (A.deeper (PyProof.Rows.envOfC "future_holds" (defScope s_future_holds) s.heap.objs.size f cdv))) : DSs (cxOf (L2N.CX P wd) P wd K mg base N_future_holds "future_holds" (defScope s_future_holds) f cdv A outer s H E) (WEx E) (defBody s_future_holds) b_future_holds :=
  have sc := sc_future_holds
  (dss_cons (ds_if (DW.t (dw_or (dt_not (dt_val (Cal.call C_is_tuple_of hr (by omega) (by rfl) (L2N.takes_of (by rfl) (by rfl) (by rfl) (by rfl)) (da_cons (de_vr 3) (da_cons de_int da_nil))))) (dw_or1 (dt_cmp (op_neO hr.units) ans_neO (nomark _) (DP.e (dp_ix (dp_vw 3) dp_int (fun _ _ => (by rfl)))) (DE.v de_str)))))
    (dss_one (ds_ret de_bl))
    dss_nil)
  (dss_cons (ds_asg (de_slice (de_vr 3) (db_some de_int) db_none) (dg_tup (by rfl) (dgs_cons (dg_name (i := 4) sc.nd (by rfl) (Or.inl (by rfl))) (dgs_cons (dg_name (i := 5) sc.nd (by rfl) (Or.inl (by rfl))) (dgs_cons (dg_name (i := 6) sc.nd (by rfl) (Or.inl (by rfl))) dgs_nil)))))
  (dss_cons (ds_if (DW.t (dw_or (dt_not (dt_val (Cal.call C_is_name hr (by omega) (by rfl) (L2N.takes_of (by rfl) (by rfl) (by rfl) (by rfl)) (da_cons (de_vr 4) da_nil)))) (dw_or (dt_not (dt_val (Cal.call C_is_family_of hr (by omega) (by rfl) (L2N.takes_of (by rfl) (by rfl) (by rfl) (by rfl)) (da_cons (de_vr 5) (da_cons (de_vr 2) da_nil))))) (dw_or1 (dt_not (dt_val (Cal.call C_are_calls hr (by omega) (by rfl) (L2N.takes_of (by rfl) (by rfl) (by rfl) (by rfl)) (da_cons (de_vr 6) da_nil))))))))
    (dss_one (ds_ret de_bl))
    dss_nil)
  (dss_one (ds_ret (de_cmp (op_neO hr.units) ans_neO (nomark _) (CalK.call C_imagined_atk3 hr (by omega) (by rfl) (L2N.takes_of (by rfl) (by rfl) (by rfl) (by rfl)) (da_cons (de_vr 0) (da_cons (de_vr 4) (da_cons (de_vr 5) da_nil))) (dk_cons (de_vr 6) dk_nil)) (DE.v (CalK.call C_imagined_atk3 hr (by omega) (by rfl) (L2N.takes_of (by rfl) (by rfl) (by rfl) (by rfl)) (da_cons (de_vr 1) (da_cons (de_vr 4) (da_cons (de_vr 5) da_nil))) (dk_cons (de_vr 6) dk_nil)))))))))
abbrev s__law_is_name : Stmt := top 25
abbrev N__law_is_name : List Str := ["_law_thing_here", "_law_sign"]
theorem sc__law_is_name : FnScope N__law_is_name ["_law_thing_here"] (defScope s__law_is_name) := ⟨rfl, rfl, rfl, by decide +kernel, rfl, by decide +kernel, by decide +kernel⟩
noncomputable def t__law_is_name_1 : DEx :=
  (lift2 (pInX true) (vr 1) (cst (.str "abcdefghijklmnopqrstuvwxyz")))
noncomputable def b__law_is_name : DSx :=
  (seqD (ifD (orD (notD (lift1 (pIsi "str") (pureE (pvw 0)))) (orD (lift2 pLtX (lift1 pLen (pureE (pvw 0))) (cst (.int 1))) (lift2 pGtX (lift1 pLen (pureE (pvw 0))) (cst (.int 8)))))
    (retD (cst (.bl false)))
    nxD)
  (retD (lift2 (pNil false) (lcD (itD (vr 0)) (gN 1) t__law_is_name_1 (vr 1) [1]) (lstD aNil))))
noncomputable def d__law_is_name : Den := runD 2 b__law_is_name
theorem bd__law_is_name {P : Program} {wd : World} {K : PySem.W.Frag} {mg : Str → Option Value} {base : Heap} (T : Fx K mg)  {f : Addr} {A : Around} {outer : List Env} {s : Shared} {H : Hp} {E : XK} {cdv : Value} (hr : Room 0 (A.deeper (PyProof.Rows.envOfC "_law_is_name" (defScope s__law_is_name) s.heap.objs.size f cdv))) : DSs (cxOf (L2N.CX P wd) P wd K mg base N__law_is_name "_law_is_name" (defScope s__law_is_name) f cdv A outer s H E) (WEx E) (defBody s__law_is_name) b__law_is_name :=
  have sc := sc__law_is_name
  (dss_cons (ds_if (DW.t (dw_or (dt_not (dt_val (de_isi (by rfl) T.n_isinstance (by rfl) T.n_str b_str (DPv.v (dp_vw 0))))) (dw_or (dt_cmp (op_ltA hr.units) ans_ltX (nomark _) (de_b1 call_len ansC_len (by rfl) T.n_len b_len (DPv.v (dp_vw 0))) (DE.v de_int)) (dw_or1 (dt_cmp (op_gtA hr.units) ans_gtX (nomark _) (de_b1 call_len ansC_len (by rfl) T.n_len b_len (DPv.v (dp_vw 0))) (DE.v de_int))))))
    (dss_one (ds_ret de_bl))
    dss_nil)
  (dss_one (ds_ret (de_cmp (op_eqNil hr.units0) ans_nil (nomark _) (DO.fz (do_lc (own := [("_law_sign", 1)]) (by rfl) sc.nd (di_seq (de_vr 0)) (blkOk_by (by rfl)) (by decide) (fun _ _ _ _ _ => (dg_name (i := 1) sc.nd (by rfl) (by first | exact Or.inl (by rfl) | exact Or.inr (by rfl)))) (fun _ _ _ _ _ => (dts_one (dt_cmp (op_notInA hr.u65) (ans_in true) (by rfl) (de_vr 1) (DE.v de_str)))) (fun _ _ _ _ _ => (de_vr 1)))) (DE.v (DO.fz (do_lst da_nil)))))))
abbrev s__law_are_names : Stmt := top 26
abbrev N__law_are_names : List Str := ["_law_thing_here", "_law_k"]
theorem sc__law_are_names : FnScope N__law_are_names ["_law_thing_here"] (defScope s__law_are_names) := ⟨rfl, rfl, rfl, by decide +kernel, rfl, by decide +kernel, by decide +kernel⟩
noncomputable def f__law_are_names_1 : DSx :=
  (ifD (orD (notD (callD d__law_is_name (aCons (pureE (plift2 pIx (pvw 0) (pvr 1))) aNil))) (andD (lift2 pGtX (vr 1) (cst (.int 0))) (lift2 pGeX (pureE (plift2 pIx (pvw 0) (plift2 pSub (pvr 1) (pcst (.int 1))))) (pureE (plift2 pIx (pvw 0) (pvr 1))))))
    (retD (cst (.bl false)))
    nxD)
noncomputable def b__law_are_names : DSx :=
  (seqD (ifD (orD (notD (lift1 (pIsi "tuple") (pureE (pvw 0)))) (lift2 pEqO (vr 0) aNil))
    (retD (cst (.bl false)))
    nxD)
  (seqD (forE (rng1 (aCons (lift1 pLen (pureE (pvw 0))) aNil)) (gN 1)
    f__law_are_names_1)
  (retD (cst (.bl true)))))
noncomputable def d__law_are_names : Den := runD 2 b__law_are_names
theorem bd__law_are_names {P : Program} {wd : World} {K : PySem.W.Frag} {mg : Str → Option Value} {base : Heap} (T : Fx K mg) (C__law_is_name : Cal P wd K mg base 1 "_law_is_name" 1 d__law_is_name) {f : Addr} {A : Around} {outer : List Env} {s : Shared} {H : Hp} {E : XK} {cdv : Value} (hr : Room 1 (A.deeper (PyProof.Rows.envOfC "_law_are_names" (defScope s__law_are_names) s.heap.objs.size f cdv))) : DSs (cxOf (L2N.CX P wd) P wd K mg base N__law_are_names "_law_are_names" (defScope s__law_are_names) f cdv A outer s H E) (WEx E) (defBody s__law_are_names) b__law_are_names :=
  have sc := sc__law_are_names
  (dss_cons (ds_if (DW.t (dw_or (dt_not (dt_val (de_isi (by rfl) T.n_isinstance (by rfl) T.n_tuple b_tuple (DPv.v (dp_vw 0))))) (dw_or1 (dt_cmp (op_eqO hr.units) ans_eqO (nomark _) (de_vr 0) (DE.v (de_tup da_nil))))))
    (dss_one (ds_ret de_bl))
    dss_nil)
  (dss_cons (ds_for (passes_of (by rfl)) (by rfl) (di_range1 (by rfl) T.n_range (da_cons (de_b1 call_len ansC_len (by rfl) T.n_len b_len (DPv.v (dp_vw 0))) da_nil)) (dg_name (i := 1) sc.nd (by rfl) (Or.inl (by rfl)))
    (dss_one (ds_if (DW.t (dw_or (dt_not (dt_val (Cal.call C__law_is_name hr (by omega) (by rfl) (L2N.takes_of (by rfl) (by rfl) (by rfl) (by rfl)) (da_cons (DP.e (dp_ix (dp_vw 0) (dp_vr 1) (fun _ _ => (by rfl)))) da_nil)))) (dw_or1 (DW.t (dw_and (dt_cmp (op_gtA hr.units) ans_gtX (nomark _) (de_vr 1) (DE.v de_int)) (dw_and1 (dt_cmp (op_geA hr.units) ans_geX (nomark _) (DP.e (dp_ix (dp_vw 0) (dp_sub (dp_vr 1) dp_int) (fun _ _ => (by rfl)))) (DE.v (DP.e (dp_ix (dp_vw 0) (dp_vr 1) (fun _ _ => (by rfl))))))))))))
    (dss_one (ds_ret de_bl))
    dss_nil)))
  (dss_one (ds_ret de_bl))))
abbrev s__law_heard : Stmt := top 23
abbrev N__law_heard : List Str := ["_law_rows_here", "_law_family", "_law_found", "_law_thing_here", "_law_present", "_law_some_here", "_law_one"]
theorem sc__law_heard : FnScope N__law_heard ["_law_rows_here", "_law_family"] (defScope s__law_heard) := ⟨rfl, rfl, rfl, by decide +kernel, rfl, by decide +kernel, by decide +kernel⟩
noncomputable def t__law_heard_1 : DEx :=
  (lift2 (pInX false) (vr 6) (pureE (pvw 4)))
noncomputable def e__law_heard_2 : DEx :=
  (lift2 pGtX (lift1 pLen (lcD (itD (vr 5)) (gN 6) t__law_heard_1 (vr 6) [6])) (cst (.int 0)))
noncomputable def f__law_heard_3 : DSx :=
  (ifD (lift1 pAll (lcD (itD (vr 1)) (gN 5) yesD e__law_heard_2 [5]))
    (setD (vr 3) (gN 2))
    nxD)
noncomputable def b__law_heard : DSx :=
  (seqD (setD (cst .non) (gN 2))
  (seqD (forE (itD (vr 0)) (gT (gsCons (gN 3) (gsCons (gN 4) gsNil)))
    f__law_heard_3)
  (retD (vr 2))))
noncomputable def d__law_heard : Den := runD 7 b__law_heard
theorem bd__law_heard {P : Program} {wd : World} {K : PySem.W.Frag} {mg : Str → Option Value} {base : Heap} (T : Fx K mg)  {f : Addr} {A : Around} {outer : List Env} {s : Shared} {H : Hp} {E : XK} {cdv : Value} (hr : Room 0 (A.deeper (PyProof.Rows.envOfC "_law_heard" (defScope s__law_heard) s.heap.objs.size f cdv))) : DSs (cxOf (L2N.CX P wd) P wd K mg base N__law_heard "_law_heard" (defScope s__law_heard) f cdv A outer s H E) (WEx E) (defBody s__law_heard) b__law_heard :=
  have sc := sc__law_heard
  (dss_cons (ds_set (i := 2) sc.nd (by rfl) (Or.inl (by rfl)) de_non)
  (dss_cons (ds_for (passes_of (by rfl)) (by rfl) (di_seq (de_vr 0)) (dg_tup (by rfl) (dgs_cons (dg_name (i := 3) sc.nd (by rfl) (Or.inl (by rfl))) (dgs_cons (dg_name (i := 4) sc.nd (by rfl) (Or.inr (by rfl))) dgs_nil)))
    (dss_one (ds_if (dt_val (de_b1 (cr_all (by rfl)) ansC_all (by rfl) T.n_all b_all (DE.v (DO.fz (do_lc (own := [("_law_some_here", 5)]) (by rfl) sc.nd (di_seq (de_vr 1)) (blkOk_by (by rfl)) (by decide) (fun _ _ _ _ _ => (dg_name (i := 5) sc.nd (by rfl) (by first | exact Or.inl (by rfl) | exact Or.inr (by rfl)))) (fun _ _ _ _ _ => dts_nil) (fun _ _ _ _ _ => (de_cmp (op_gtA hr.units) ans_gtX (nomark _) (de_b1 call_len ansC_len (by rfl) T.n_len b_len (DE.v (DO.fz (do_lc (own := [("_law_one", 6)]) (by rfl) sc.nd (di_seq (de_vr 5)) (blkOk_by (by rfl)) (by decide) (fun _ _ _ _ _ => (dg_name (i := 6) sc.nd (by rfl) (by first | exact Or.inl (by rfl) | exact Or.inr (by rfl)))) (fun _ _ _ _ _ => (dts_one (dt_cmp (op_inA hr.u65) (ans_in false) (by rfl) (de_vr 6) (DPv.v (dp_vw 4))))) (fun _ _ _ _ _ => (de_vr 6)))))) (DE.v de_int))))))))
    (dss_one (ds_set (i := 2) sc.nd (by rfl) (Or.inl (by rfl)) (de_vr 3)))
    dss_nil)))
  (dss_one (ds_ret (de_vr 2)))))
abbrev s__law_meaning : Stmt := top 24
abbrev N__law_meaning : List Str := ["_law_rows_here", "_law_word", "_law_family", "_law_anew", "_law_seen", "_law_thing_here", "_law_said", "_law_called", "_law_last"]
theorem sc__law_meaning : FnScope N__law_meaning ["_law_rows_here", "_law_word", "_law_family", "_law_anew"] (defScope s__law_meaning) := ⟨rfl, rfl, rfl, by decide +kernel, rfl, by decide +kernel, by decide +kernel⟩
noncomputable def t__law_meaning_1 : DEx :=
  (lift2 pEq (vr 7) (pureE (plift2 pIx (pvw 5) (pcst (.int 1)))))
noncomputable def w__law_meaning_2 : DEx :=
  (andD (lift1 (pIsi "tuple") (pureE (pvw 5))) (lift2 (pInX true) (pureE (plift2 pIx (pvw 5) (pcst (.int 1)))) (pureE (pvw 4))))
noncomputable def f__law_meaning_3 : DSx :=
  (seqD (exprD (mutD 4 kApp (aCons (pureE (plift2 pIx (pvw 5) (pcst (.int 1)))) aNil)))
  (seqD (setD (lcD (itD (vr 3)) (gT (gsCons (gN 7) (gsCons (gN 8) gsNil))) t__law_meaning_1 (vr 8) [7, 8]) (gN 6))
  (ifD (lift2 pGtX (lift1 pLen (pureE (pvw 6))) (cst (.int 0)))
    (setD (pureE (plift2 pIx (pvw 6) (plift1 pNeg (pcst (.int 1))))) (gN 5))
    (setD (callD d__law_heard (aCons (dgetD (vr 0) (pureE (plift2 pIx (pvw 5) (pcst (.int 1)))) (lstD aNil)) (aCons (vr 2) aNil))) (gN 5)))))
noncomputable def b__law_meaning : DSx :=
  (seqD (setOD (lstD aNil) 4)
  (seqD (setD (aCons (cst (.str "later")) (aCons (vr 1) aNil)) (gN 5))
  (seqD (whileD w__law_meaning_2
    f__law_meaning_3)
  (seqD (ifD (lift1 (pIsi "tuple") (pureE (pvw 5)))
    (retD (cst .non))
    nxD)
  (retD (vr 5))))))
noncomputable def d__law_meaning : Den := runD 9 b__law_meaning
theorem bd__law_meaning {P : Program} {wd : World} {K : PySem.W.Frag} {mg : Str → Option Value} {base : Heap} (T : Fx K mg) (C__law_heard : Cal P wd K mg base 1 "_law_heard" 2 d__law_heard) {f : Addr} {A : Around} {outer : List Env} {s : Shared} {H : Hp} {E : XK} {cdv : Value} (hr : Room 1 (A.deeper (PyProof.Rows.envOfC "_law_meaning" (defScope s__law_meaning) s.heap.objs.size f cdv))) : DSs (cxOf (L2N.CX P wd) P wd K mg base N__law_meaning "_law_meaning" (defScope s__law_meaning) f cdv A outer s H E) (WEx E) (defBody s__law_meaning) b__law_meaning :=
  have sc := sc__law_meaning
  (dss_cons (ds_setO (i := 4) sc.nd (by rfl) (Or.inl (by rfl)) (do_lst da_nil))
  (dss_cons (ds_set (i := 5) sc.nd (by rfl) (Or.inr (by rfl)) (de_tup (da_cons de_str (da_cons (de_vr 1) da_nil))))
  (dss_cons (ds_while (passes_of (by rfl)) (DW.t (dw_and (dt_val (de_isi (by rfl) T.n_isinstance (by rfl) T.n_tuple b_tuple (DPv.v (dp_vw 5)))) (dw_and1 (dt_cmp (op_notInA hr.u65) (ans_in true) (by rfl) (DP.e (dp_ix (dp_vw 5) dp_int (fun _ _ => (by rfl)))) (DPv.v (dp_vw 4))))))
    (dss_cons (ds_expr (de_mut (i := 4) PySem.F.slot_list_append PySem.F.type_list_append mt_append ansM_app (da_cons (DP.e (dp_ix (dp_vw 5) dp_int (fun _ _ => (by rfl)))) da_nil)))
  (dss_cons (ds_lcF (ps_lc (i := 6) (own := [("_law_called", 7), ("_law_last", 8)]) (by rfl) sc.nd (by rfl) (by rfl) (sw_true (by rfl) (by rfl) (by rfl) (by decide +kernel)) (di_seq (de_vr 3)) (blkOk_by (by rfl)) (by decide) (fun _ _ _ _ _ => (dg_tup (by rfl) (dgs_cons (dg_name (i := 7) sc.nd (by rfl) (by first | exact Or.inl (by rfl) | exact Or.inr (by rfl))) (dgs_cons (dg_name (i := 8) sc.nd (by rfl) (by first | exact Or.inl (by rfl) | exact Or.inr (by rfl))) dgs_nil)))) (fun _ _ _ _ _ => (dts_one (dt_cmp (op_eqD hr.units) ans_eq (nomark _) (de_vr 7) (DE.v (DP.e (dp_ix (dp_vw 5) dp_int (fun _ _ => (by rfl)))))))) (fun _ _ _ _ _ => (de_vr 8))))
  (dss_one (ds_if (dt_cmp (op_gtA hr.units) ans_gtX (nomark _) (de_b1 call_len ansC_len (by rfl) T.n_len b_len (DPv.v (dp_vw 6))) (DE.v de_int))
    (dss_one (ds_set (i := 5) sc.nd (by rfl) (Or.inr (by rfl)) (DP.e (dp_ix (dp_vw 6) (dp_neg dp_int) (fun _ _ => (by rfl))))))
    (dss_one (ds_set (i := 5) sc.nd (by rfl) (Or.inr (by rfl)) (Cal.call C__law_heard hr (by omega) (by rfl) (L2N.takes_of (by rfl) (by rfl) (by rfl) (by rfl)) (da_cons (de_dget2 (hu_of hr) (de_vr 0) (DP.e (dp_ix (dp_vw 5) dp_int (fun _ _ => (by rfl)))) (DO.fz (do_lst da_nil)) ⟨(by rfl), (by rfl), (by rfl), (by rfl)⟩) (da_cons (de_vr 2) da_nil))))))))))
  (dss_cons (ds_if (dt_val (de_isi (by rfl) T.n_isinstance (by rfl) T.n_tuple b_tuple (DPv.v (dp_vw 5))))
    (dss_one (ds_ret de_non))
    dss_nil)
  (dss_one (ds_ret (de_vr 5)))))))
abbrev s__law_future_good : Stmt := top 27
abbrev N__law_future_good : List Str := ["_law_one", "_law_other", "_law_members", "_law_thing_here", "_law_family", "_law_anew", "_law_some_here", "_law_call", "_law_name"]
theorem sc__law_future_good : FnScope N__law_future_good ["_law_one", "_law_other", "_law_members", "_law_thing_here"] (defScope s__law_future_good) := ⟨rfl, rfl, rfl, by decide +kernel, rfl, by decide +kernel, by decide +kernel⟩
noncomputable def f__law_future_good_1 : DSx :=
  (seqD (ifD (orD (notD (lift1 (pIsi "tuple") (pureE (pvw 7)))) (orD (lift2 pNeO (lift1 pLen (pureE (pvw 7))) (cst (.int 2))) (notD (callD d__law_is_name (aCons (pureE (plift2 pIx (pvw 7) (pcst (.int 0)))) aNil)))))
    (retD (cst (.bl false)))
    nxD)
  (ifD (andD (lift2 (pIs true) (pureE (plift2 pIx (pvw 7) (pcst (.int 1)))) (cst .non)) (notD (callD d__law_is_name (aCons (pureE (plift2 pIx (pvw 7) (pcst (.int 1)))) aNil))))
    (retD (cst (.bl false)))
    nxD))
noncomputable def t__law_future_good_2 : DEx :=
  (lift2 (pInO true) (vr 8) (pureE (pvw 2)))
noncomputable def f__law_future_good_3 : DSx :=
  (ifD (orD (notD (callD d__law_are_names (aCons (vr 6) aNil))) (lift2 pGtX (lift1 pLen (lcD (itD (vr 6)) (gN 8) t__law_future_good_2 (vr 8) [8])) (cst (.int 0))))
    (retD (cst (.bl false)))
    nxD)
noncomputable def b__law_future_good : DSx :=
  (seqD (ifD (orD (notD (lift1 (pIsi "tuple") (pureE (pvw 3)))) (orD (lift2 pNeO (lift1 pLen (pureE (pvw 3))) (cst (.int 4))) (orD (lift2 pNeO (pureE (plift2 pIx (pvw 3) (pcst (.int 0)))) (cst (.str "future"))) (notD (callD d__law_is_name (aCons (pureE (plift2 pIx (pvw 3) (pcst (.int 1)))) aNil))))))
    (retD (cst (.bl false)))
    nxD)
  (seqD (setD (pureE (plift2 pIx (pvw 3) (pcst (.int 2)))) (gN 4))
  (seqD (setD (pureE (plift2 pIx (pvw 3) (pcst (.int 3)))) (gN 5))
  (seqD (ifD (orD (notD (lift1 (pIsi "list") (pureE (pvw 4)))) (orD (lift2 pLtX (lift1 pLen (pureE (pvw 4))) (cst (.int 1))) (orD (lift2 pGtX (lift1 pLen (pureE (pvw 4))) (cst (.int 64))) (notD (lift1 (pIsi "list") (pureE (pvw 5)))))))
    (retD (cst (.bl false)))
    nxD)
  (seqD (forE (itD (vr 4)) (gN 6)
    f__law_future_good_3)
  (seqD (forE (itD (vr 5)) (gN 7)
    f__law_future_good_1)
  (retD (lift2 pNeO (callD d__law_meaning (aCons (vr 0) (aCons (pureE (plift2 pIx (pvw 3) (pcst (.int 1)))) (aCons (vr 4) (aCons (vr 5) aNil))))) (callD d__law_meaning (aCons (vr 1) (aCons (pureE (plift2 pIx (pvw 3) (pcst (.int 1)))) (aCons (vr 4) (aCons (vr 5) aNil)))))))))))))
noncomputable def d__law_future_good : Den := runD 9 b__law_future_good
theorem bd__law_future_good {P : Program} {wd : World} {K : PySem.W.Frag} {mg : Str → Option Value} {base : Heap} (T : Fx K mg) (C__law_meaning : Cal P wd K mg base 2 "_law_meaning" 4 d__law_meaning) (C__law_is_name : Cal P wd K mg base 1 "_law_is_name" 1 d__law_is_name) (C__law_are_names : Cal P wd K mg base 2 "_law_are_names" 1 d__law_are_names) {f : Addr} {A : Around} {outer : List Env} {s : Shared} {H : Hp} {E : XK} {cdv : Value} (hr : Room 2 (A.deeper (PyProof.Rows.envOfC "_law_future_good" (defScope s__law_future_good) s.heap.objs.size f cdv))) : DSs (cxOf (L2N.CX P wd) P wd K mg base N__law_future_good "_law_future_good" (defScope s__law_future_good) f cdv A outer s H E) (WEx E) (defBody s__law_future_good) b__law_future_good :=
  have sc := sc__law_future_good
  (dss_cons (ds_if (DW.t (dw_or (dt_not (dt_val (de_isi (by rfl) T.n_isinstance (by rfl) T.n_tuple b_tuple (DPv.v (dp_vw 3))))) (dw_or (dt_cmp (op_neO hr.units) ans_neO (nomark _) (de_b1 call_len ansC_len (by rfl) T.n_len b_len (DPv.v (dp_vw 3))) (DE.v de_int)) (dw_or (dt_cmp (op_neO hr.units) ans_neO (nomark _) (DP.e (dp_ix (dp_vw 3) dp_int (fun _ _ => (by rfl)))) (DE.v de_str)) (dw_or1 (dt_not (dt_val (Cal.call C__law_is_name hr (by omega) (by rfl) (L2N.takes_of (by rfl) (by rfl) (by rfl) (by rfl)) (da_cons (DP.e (dp_ix (dp_vw 3) dp_int (fun _ _ => (by rfl)))) da_nil)))))))))
    (dss_one (ds_ret de_bl))
    dss_nil)
  (dss_cons (ds_set (i := 4) sc.nd (by rfl) (Or.inl (by rfl)) (DP.e (dp_ix (dp_vw 3) dp_int (fun _ _ => (by rfl)))))
  (dss_cons (ds_set (i := 5) sc.nd (by rfl) (Or.inl (by rfl)) (DP.e (dp_ix (dp_vw 3) dp_int (fun _ _ => (by rfl)))))
  (dss_cons (ds_if (DW.t (dw_or (dt_not (dt_val (de_isi (by rfl) T.n_isinstance (by rfl) T.n_list b_list (DPv.v (dp_vw 4))))) (dw_or (dt_cmp (op_ltA hr.units) ans_ltX (nomark _) (de_b1 call_len ansC_len (by rfl) T.n_len b_len (DPv.v (dp_vw 4))) (DE.v de_int)) (dw_or (dt_cmp (op_gtA hr.units) ans_gtX (nomark _) (de_b1 call_len ansC_len (by rfl) T.n_len b_len (DPv.v (dp_vw 4))) (DE.v de_int)) (dw_or1 (dt_not (dt_val (de_isi (by rfl) T.n_isinstance (by rfl) T.n_list b_list (DPv.v (dp_vw 5))))))))))
    (dss_one (ds_ret de_bl))
    dss_nil)
  (dss_cons (ds_for (passes_of (by rfl)) (by rfl) (di_seq (de_vr 4)) (dg_name (i := 6) sc.nd (by rfl) (Or.inl (by rfl)))
    (dss_one (ds_if (DW.t (dw_or (dt_not (dt_val (Cal.call C__law_are_names hr (by omega) (by rfl) (L2N.takes_of (by rfl) (by rfl) (by rfl) (by rfl)) (da_cons (de_vr 6) da_nil)))) (dw_or1 (dt_cmp (op_gtA hr.units) ans_gtX (nomark _) (de_b1 call_len ansC_len (by rfl) T.n_len b_len (DE.v (DO.fz (do_lc (own := [("_law_name", 8)]) (by rfl) sc.nd (di_seq (de_vr 6)) (blkOk_by (by rfl)) (by decide) (fun _ _ _ _ _ => (dg_name (i := 8) sc.nd (by rfl) (by first | exact Or.inl (by rfl) | exact Or.inr (by rfl)))) (fun _ _ _ _ _ => (dts_one (dt_cmp (op_notInO hr.u65) (ans_inO true) (by rfl) (de_vr 8) (DPv.v (dp_vw 2))))) (fun _ _ _ _ _ => (de_vr 8)))))) (DE.v de_int)))))
    (dss_one (ds_ret de_bl))
    dss_nil)))
  (dss_cons (ds_for (passes_of (by rfl)) (by rfl) (di_seq (de_vr 5)) (dg_name (i := 7) sc.nd (by rfl) (Or.inl (by rfl)))
    (dss_cons (ds_if (DW.t (dw_or (dt_not (dt_val (de_isi (by rfl) T.n_isinstance (by rfl) T.n_tuple b_tuple (DPv.v (dp_vw 7))))) (dw_or (dt_cmp (op_neO hr.units) ans_neO (nomark _) (de_b1 call_len ansC_len (by rfl) T.n_len b_len (DPv.v (dp_vw 7))) (DE.v de_int)) (dw_or1 (dt_not (dt_val (Cal.call C__law_is_name hr (by omega) (by rfl) (L2N.takes_of (by rfl) (by rfl) (by rfl) (by rfl)) (da_cons (DP.e (dp_ix (dp_vw 7) dp_int (fun _ _ => (by rfl)))) da_nil))))))))
    (dss_one (ds_ret de_bl))
    dss_nil)
  (dss_one (ds_if (DW.t (dw_and (dt_cmp op_notN ans_notN (nomark _) (DP.e (dp_ix (dp_vw 7) dp_int (fun _ _ => (by rfl)))) (DE.v de_non)) (dw_and1 (dt_not (dt_val (Cal.call C__law_is_name hr (by omega) (by rfl) (L2N.takes_of (by rfl) (by rfl) (by rfl) (by rfl)) (da_cons (DP.e (dp_ix (dp_vw 7) dp_int (fun _ _ => (by rfl)))) da_nil)))))))
    (dss_one (ds_ret de_bl))
    dss_nil))))
  (dss_one (ds_ret (de_cmp (op_neO hr.units) ans_neO (nomark _) (Cal.call C__law_meaning hr (by omega) (by rfl) (L2N.takes_of (by rfl) (by rfl) (by rfl) (by rfl)) (da_cons (de_vr 0) (da_cons (DP.e (dp_ix (dp_vw 3) dp_int (fun _ _ => (by rfl)))) (da_cons (de_vr 4) (da_cons (de_vr 5) da_nil))))) (DE.v (Cal.call C__law_meaning hr (by omega) (by rfl) (L2N.takes_of (by rfl) (by rfl) (by rfl) (by rfl)) (da_cons (de_vr 1) (da_cons (DP.e (dp_ix (dp_vw 3) dp_int (fun _ _ => (by rfl)))) (da_cons (de_vr 4) (da_cons (de_vr 5) da_nil)))))))))))))))
abbrev s_law : Stmt := top 30
abbrev N_law : List Str := ["_law_script", "_law_k", "_law_bag_here", "_law_folk", "_law_words", "_law_things_here", "_law_one", "_law_other", "_law_some_here", "_law_anew", "_law_word", "_law_thing_here", "_law_given", "_law_told"]
theorem sc_law : FnScope N_law ["_law_script"] (defScope s_law) := ⟨rfl, rfl, rfl, by decide +kernel, rfl, by decide +kernel, by decide +kernel⟩
noncomputable def f_law_1 : DSx :=
  (seqD (setD (callD d_future_holds (aCons (vr 12) (aCons (vr 7) (aCons (vr 3) (aCons (vr 11) aNil))))) (gN 13))
  (ifD (orD (notD (lift1 (pIsi "bool") (pureE (pvw 13)))) (lift2 pNe (vr 13) (callD d__law_future_good (aCons (vr 12) (aCons (vr 7) (aCons (vr 3) (aCons (vr 11) aNil)))))))
    (retD (cst (.bl false)))
    nxD))
noncomputable def f_law_2 : DSx :=
  (forE (itD (aCons (vr 6) (aCons (cst (.dct [])) aNil))) (gN 12)
    f_law_1)
noncomputable def f_law_3 : DSx :=
  (seqD (setD (callD d__law_bag (aCons (vr 0) (aCons (vr 1) aNil))) (gN 2))
  (seqD (setD (callD d__law_names (aCons (vr 2) (aCons (lift2 addK (cst (.int 1)) (callD d__law_take (aCons (vr 2) (aCons (cst (.int 6)) aNil)))) aNil))) (gN 3))
  (seqD (setD (callD d__law_names (aCons (vr 2) (aCons (lift2 addK (cst (.int 1)) (callD d__law_take (aCons (vr 2) (aCons (cst (.int 3)) aNil)))) aNil))) (gN 4))
  (seqD (setD (callD d__law_names (aCons (vr 2) (aCons (lift2 addK (cst (.int 1)) (callD d__law_take (aCons (vr 2) (aCons (cst (.int 3)) aNil)))) aNil))) (gN 5))
  (seqD (setD (callD d__law_rows (aCons (vr 2) (aCons (vr 4) (aCons (vr 5) (aCons (vr 3) (aCons (cst (.int 5)) aNil)))))) (gN 6))
  (seqD (setD (callD d__law_rows (aCons (vr 2) (aCons (vr 4) (aCons (vr 5) (aCons (vr 3) (aCons (cst (.int 5)) aNil)))))) (gN 7))
  (seqD (setD (tupleD (sortD (callD d__law_some (aCons (vr 2) (aCons (vr 3) aNil))))) (gN 8))
  (seqD (setD (lstD (aCons (aCons (lift2 pIx (vr 4) (callD d__law_take (aCons (vr 2) (aCons (lift1 pLen (pureE (pvw 4))) aNil)))) (aCons (lift2 pIx (lift2 addK (vr 5) (lstD (aCons (cst .non) aNil))) (callD d__law_take (aCons (vr 2) (aCons (lift2 addK (lift1 pLen (pureE (pvw 5))) (cst (.int 1))) aNil)))) aNil)) aNil)) (gN 9))
  (seqD (setD (lift2 pIx (vr 4) (callD d__law_take (aCons (vr 2) (aCons (lift1 pLen (pureE (pvw 4))) aNil)))) (gN 10))
  (forE (itD (callD d__law_things (aCons (vr 2) (aCons (aCons (cst (.str "future")) (aCons (vr 10) (aCons (lstD (aCons (vr 8) aNil)) (aCons (vr 9) aNil)))) aNil)))) (gN 11)
    f_law_2))))))))))
noncomputable def b_law : DSx :=
  (seqD (forE (rng1 (aCons (lift2 pMax (cst (.int 1)) (lift2 pMin (lift1 pLen (pureE (pvw 0))) (cst (.int 6)))) aNil)) (gN 1)
    f_law_3)
  (retD (cst (.bl true))))
noncomputable def d_law : Den := runD 14 b_law
theorem bd_law {P : Program} {wd : World} {K : PySem.W.Frag} {mg : Str → Option Value} {base : Heap} (T : Fx K mg) (C__law_things : Cal P wd K mg base 10 "_law_things" 2 d__law_things) (C__law_future_good : Cal P wd K mg base 3 "_law_future_good" 4 d__law_future_good) (C_future_holds : Cal P wd K mg base 6 "future_holds" 4 d_future_holds) (C__law_take : Cal P wd K mg base 1 "_law_take" 2 d__law_take) (C__law_some : Cal P wd K mg base 2 "_law_some" 2 d__law_some) (C__law_rows : Cal P wd K mg base 3 "_law_rows" 5 d__law_rows) (C__law_names : Cal P wd K mg base 2 "_law_names" 2 d__law_names) (C__law_bag : Cal P wd K mg base 1 "_law_bag" 2 d__law_bag) {f : Addr} {A : Around} {outer : List Env} {s : Shared} {H : Hp} {E : XK} {cdv : Value} (hr : Room 10 (A.deeper (PyProof.Rows.envOfC "law" (defScope s_law) s.heap.objs.size f cdv))) : DSs (cxOf (L2N.CX P wd) P wd K mg base N_law "law" (defScope s_law) f cdv A outer s H E) (WEx E) (defBody s_law) b_law :=
  have sc := sc_law
  (dss_cons (ds_for (passes_of (by rfl)) (by rfl) (di_range1 (by rfl) T.n_range (da_cons (de_b2 (call_max2 (by rfl)) ansC_max (by rfl) T.n_max b_max de_int (DE.v (de_b2 (call_min2 (by rfl)) ansC_min (by rfl) T.n_min b_min (de_b1 call_len ansC_len (by rfl) T.n_len b_len (DPv.v (dp_vw 0))) (DE.v de_int)))) da_nil)) (dg_name (i := 1) sc.nd (by rfl) (Or.inl (by rfl)))
    (dss_cons (ds_set (i := 2) sc.nd (by rfl) (Or.inl (by rfl)) (Cal.call C__law_bag hr (by omega) (by rfl) (L2N.takes_of (by rfl) (by rfl) (by rfl) (by rfl)) (da_cons (de_vr 0) (da_cons (de_vr 1) da_nil))))
  (dss_cons (ds_set (i := 3) sc.nd (by rfl) (Or.inl (by rfl)) (Cal.call C__law_names hr (by omega) (by rfl) (L2N.takes_of (by rfl) (by rfl) (by rfl) (by rfl)) (da_cons (de_vr 2) (da_cons (de_addX de_int (Cal.call C__law_take hr (by omega) (by rfl) (L2N.takes_of (by rfl) (by rfl) (by rfl) (by rfl)) (da_cons (de_vr 2) (da_cons de_int da_nil)))) da_nil))))
  (dss_cons (ds_set (i := 4) sc.nd (by rfl) (Or.inl (by rfl)) (Cal.call C__law_names hr (by omega) (by rfl) (L2N.takes_of (by rfl) (by rfl) (by rfl) (by rfl)) (da_cons (de_vr 2) (da_cons (de_addX de_int (Cal.call C__law_take hr (by omega) (by rfl) (L2N.takes_of (by rfl) (by rfl) (by rfl) (by rfl)) (da_cons (de_vr 2) (da_cons de_int da_nil)))) da_nil))))
  (dss_cons (ds_set (i := 5) sc.nd (by rfl) (Or.inl (by rfl)) (Cal.call C__law_names hr (by omega) (by rfl) (L2N.takes_of (by rfl) (by rfl) (by rfl) (by rfl)) (da_cons (de_vr 2) (da_cons (de_addX de_int (Cal.call C__law_take hr (by omega) (by rfl) (L2N.takes_of (by rfl) (by rfl) (by rfl) (by rfl)) (da_cons (de_vr 2) (da_cons de_int da_nil)))) da_nil))))
  (dss_cons (ds_set (i := 6) sc.nd (by rfl) (Or.inl (by rfl)) (Cal.call C__law_rows hr (by omega) (by rfl) (L2N.takes_of (by rfl) (by rfl) (by rfl) (by rfl)) (da_cons (de_vr 2) (da_cons (de_vr 4) (da_cons (de_vr 5) (da_cons (de_vr 3) (da_cons de_int da_nil)))))))
  (dss_cons (ds_set (i := 7) sc.nd (by rfl) (Or.inl (by rfl)) (Cal.call C__law_rows hr (by omega) (by rfl) (L2N.takes_of (by rfl) (by rfl) (by rfl) (by rfl)) (da_cons (de_vr 2) (da_cons (de_vr 4) (da_cons (de_vr 5) (da_cons (de_vr 3) (da_cons de_int da_nil)))))))
  (dss_cons (ds_set (i := 8) sc.nd (by rfl) (Or.inl (by rfl)) (de_tuple (by rfl) T.n_tuple (DE.v (DO.fz (do_sorted hr.u80 (by rfl) T.n_sorted (DE.v (Cal.call C__law_some hr (by omega) (by rfl) (L2N.takes_of (by rfl) (by rfl) (by rfl) (by rfl)) (da_cons (de_vr 2) (da_cons (de_vr 3) da_nil)))))))))
  (dss_cons (ds_set (i := 9) sc.nd (by rfl) (Or.inl (by rfl)) (DO.fz (do_lst (da_cons (de_tup (da_cons (de_ix (de_vr 4) (Cal.call C__law_take hr (by omega) (by rfl) (L2N.takes_of (by rfl) (by rfl) (by rfl) (by rfl)) (da_cons (de_vr 2) (da_cons (de_b1 call_len ansC_len (by rfl) T.n_len b_len (DPv.v (dp_vw 4))) da_nil))) (fun _ _ => (by rfl))) (da_cons (de_ix (de_addX (de_vr 5) (DO.fz (do_lst (da_cons de_non da_nil)))) (Cal.call C__law_take hr (by omega) (by rfl) (L2N.takes_of (by rfl) (by rfl) (by rfl) (by rfl)) (da_cons (de_vr 2) (da_cons (de_addX (de_b1 call_len ansC_len (by rfl) T.n_len b_len (DPv.v (dp_vw 5))) de_int) da_nil))) (fun _ _ => (by rfl))) da_nil))) da_nil))))
  (dss_cons (ds_set (i := 10) sc.nd (by rfl) (Or.inl (by rfl)) (de_ix (de_vr 4) (Cal.call C__law_take hr (by omega) (by rfl) (L2N.takes_of (by rfl) (by rfl) (by rfl) (by rfl)) (da_cons (de_vr 2) (da_cons (de_b1 call_len ansC_len (by rfl) T.n_len b_len (DPv.v (dp_vw 4))) da_nil))) (fun _ _ => (by rfl))))
  (dss_one (ds_for (passes_of (by rfl)) (by rfl) (di_seq (Cal.call C__law_things hr (by omega) (by rfl) (L2N.takes_of (by rfl) (by rfl) (by rfl) (by rfl)) (da_cons (de_vr 2) (da_cons (de_tup (da_cons de_str (da_cons (de_vr 10) (da_cons (DO.fz (do_lst (da_cons (de_vr 8) da_nil))) (da_cons (de_vr 9) da_nil))))) da_nil)))) (dg_name (i := 11) sc.nd (by rfl) (Or.inl (by rfl)))
    (dss_one (ds_for (passes_of (by rfl)) (by rfl) (di_seq (de_tup (da_cons (de_vr 6) (da_cons de_dict0 da_nil)))) (dg_name (i := 12) sc.nd (by rfl) (Or.inl (by rfl)))
    (dss_cons (ds_set (i := 13) sc.nd (by rfl) (Or.inl (by rfl)) (Cal.call C_future_holds hr (by omega) (by rfl) (L2N.takes_of (by rfl) (by rfl) (by rfl) (by rfl)) (da_cons (de_vr 12) (da_cons (de_vr 7) (da_cons (de_vr 3) (da_cons (de_vr 11) da_nil))))))
  (dss_one (ds_if (DW.t (dw_or (dt_not (dt_val (de_isi (by rfl) T.n_isinstance (by rfl) T.n_bool b_bool (DPv.v (dp_vw 13))))) (dw_or1 (dt_cmp (op_neD hr.units) ans_ne (nomark _) (de_vr 13) (DE.v (Cal.call C__law_future_good hr (by omega) (by rfl) (L2N.takes_of (by rfl) (by rfl) (by rfl) (by rfl)) (da_cons (de_vr 12) (da_cons (de_vr 7) (da_cons (de_vr 3) (da_cons (de_vr 11) da_nil))))))))))
    (dss_one (ds_ret de_bl))
    dss_nil)))))))))))))))))
  (dss_one (ds_ret de_bl)))
theorem ok__law_bag {P : Program} {wd : World} {K : PySem.W.Frag} {mg : Str → Option Value} {base : Heap} (T : Fx K mg) (Df : Dfn K mg "_law_bag" ["_law_script", "_law_at"] s__law_bag)  : Cal P wd K mg base 1 "_law_bag" 2 d__law_bag :=
  Cal.of (k := 0) Df sc__law_bag rfl rfl fun f cdv A outer s H E hr => bd__law_bag T  hr
theorem ok__law_take {P : Program} {wd : World} {K : PySem.W.Frag} {mg : Str → Option Value} {base : Heap} (T : Fx K mg) (Df : Dfn K mg "_law_take" ["_law_bag_here", "_law_many"] s__law_take)  : Cal P wd K mg base 1 "_law_take" 2 d__law_take :=
  Cal.of (k := 0) Df sc__law_take rfl rfl fun f cdv A outer s H E hr => bd__law_take T  hr
theorem ok__law_names {P : Program} {wd : World} {K : PySem.W.Frag} {mg : Str → Option Value} {base : Heap} (T : Fx K mg) (Df : Dfn K mg "_law_names" ["_law_bag_here", "_law_many"] s__law_names) (C__law_take : Cal P wd K mg base 1 "_law_take" 2 d__law_take) : Cal P wd K mg base 2 "_law_names" 2 d__law_names :=
  Cal.of (k := 1) Df sc__law_names rfl rfl fun f cdv A outer s H E hr => bd__law_names T C__law_take hr
theorem ok__law_thing {P : Program} {wd : World} {K : PySem.W.Frag} {mg : Str → Option Value} {base : Heap} (T : Fx K mg) (Df : Dfn K mg "_law_thing" ["_law_bag_here", "_law_words", "_law_things_here"] s__law_thing) (C__law_take : Cal P wd K mg base 1 "_law_take" 2 d__law_take) : Cal P wd K mg base 2 "_law_thing" 3 d__law_thing :=
  Cal.of (k := 1) Df sc__law_thing rfl rfl fun f cdv A outer s H E hr => bd__law_thing T C__law_take hr
theorem ok__law_hearers {P : Program} {wd : World} {K : PySem.W.Frag} {mg : Str → Option Value} {base : Heap} (T : Fx K mg) (Df : Dfn K mg "_law_hearers" ["_law_bag_here", "_law_members"] s__law_hearers) (C__law_take : Cal P wd K mg base 1 "_law_take" 2 d__law_take) : Cal P wd K mg base 2 "_law_hearers" 2 d__law_hearers :=
  Cal.of (k := 1) Df sc__law_hearers rfl rfl fun f cdv A outer s H E hr => bd__law_hearers T C__law_take hr
theorem ok__law_rows {P : Program} {wd : World} {K : PySem.W.Frag} {mg : Str → Option Value} {base : Heap} (T : Fx K mg) (Df : Dfn K mg "_law_rows" ["_law_bag_here", "_law_words", "_law_things_here", "_law_members", "_law_most"] s__law_rows) (C__law_take : Cal P wd K mg base 1 "_law_take" 2 d__law_take) (C__law_hearers : Cal P wd K mg base 2 "_law_hearers" 2 d__law_hearers) (C__law_thing : Cal P wd K mg base 2 "_law_thing" 3 d__law_thing) : Cal P wd K mg base 3 "_law_rows" 5 d__law_rows :=
  Cal.of (k := 2) Df sc__law_rows rfl rfl fun f cdv A outer s H E hr => bd__law_rows T C__law_take C__law_hearers C__law_thing hr
theorem ok__law_some {P : Program} {wd : World} {K : PySem.W.Frag} {mg : Str → Option Value} {base : Heap} (T : Fx K mg) (Df : Dfn K mg "_law_some" ["_law_bag_here", "_law_things_here"] s__law_some) (C__law_take : Cal P wd K mg base 1 "_law_take" 2 d__law_take) : Cal P wd K mg base 2 "_law_some" 2 d__law_some :=
  Cal.of (k := 1) Df sc__law_some rfl rfl fun f cdv A outer s H E hr => bd__law_some T C__law_take hr
theorem ok__law_any {P : Program} {wd : World} {K : PySem.W.Frag} {mg : Str → Option Value} {base : Heap} (T : Fx K mg) (Df : Dfn K mg "_law_any" ["_law_bag_here", "_law_deep"] s__law_any) (C__law_take : Cal P wd K mg base 1 "_law_take" 2 d__law_take) : ∀ n : Nat, Cal P wd K mg base (1 + n) "_law_any" 2 (d__law_any n)
  | 0 => Cal.none Df rfl
  | n + 1 => Cal.of (k := 1 + n) Df sc__law_any rfl rfl fun f cdv A outer s H E hr => bd__law_any T C__law_take (ok__law_any T Df C__law_take n) hr
theorem ok__law_things {P : Program} {wd : World} {K : PySem.W.Frag} {mg : Str → Option Value} {base : Heap} (T : Fx K mg) (Df : Dfn K mg "_law_things" ["_law_bag_here", "_law_right"] s__law_things) (C__law_any : Cal P wd K mg base 9 "_law_any" 2 (d__law_any 8)) (C__law_take : Cal P wd K mg base 1 "_law_take" 2 d__law_take) : Cal P wd K mg base 10 "_law_things" 2 d__law_things :=
  Cal.of (k := 9) Df sc__law_things rfl rfl fun f cdv A outer s H E hr => bd__law_things T C__law_any C__law_take hr
theorem ok_is_tuple_of {P : Program} {wd : World} {K : PySem.W.Frag} {mg : Str → Option Value} {base : Heap} (T : Fx K mg) (Df : Dfn K mg "is_tuple_of" ["thing", "many"] s_is_tuple_of)  : Cal P wd K mg base 1 "is_tuple_of" 2 d_is_tuple_of :=
  Cal.of (k := 0) Df sc_is_tuple_of rfl rfl fun f cdv A outer s H E hr => bd_is_tuple_of T  hr
theorem ok_is_name {P : Program} {wd : World} {K : PySem.W.Frag} {mg : Str → Option Value} {base : Heap} (T : Fx K mg) (Df : Dfn K mg "is_name" ["thing"] s_is_name)  : Cal P wd K mg base 1 "is_name" 1 d_is_name :=
  Cal.of (k := 0) Df sc_is_name rfl rfl fun f cdv A outer s H E hr => bd_is_name T  hr
theorem ok_are_names {P : Program} {wd : World} {K : PySem.W.Frag} {mg : Str → Option Value} {base : Heap} (T : Fx K mg) (Df : Dfn K mg "are_names" ["thing"] s_are_names) (C_is_name : Cal P wd K mg base 1 "is_name" 1 d_is_name) : Cal P wd K mg base 2 "are_names" 1 d_are_names :=
  Cal.of (k := 1) Df sc_are_names rfl rfl fun f cdv A outer s H E hr => bd_are_names T C_is_name hr
theorem ok_is_family_of {P : Program} {wd : World} {K : PySem.W.Frag} {mg : Str → Option Value} {base : Heap} (T : Fx K mg) (Df : Dfn K mg "is_family_of" ["thing", "members"] s_is_family_of) (C_are_names : Cal P wd K mg base 2 "are_names" 1 d_are_names) : Cal P wd K mg base 3 "is_family_of" 2 d_is_family_of :=
  Cal.of (k := 2) Df sc_is_family_of rfl rfl fun f cdv A outer s H E hr => bd_is_family_of T C_are_names hr
theorem ok_are_calls {P : Program} {wd : World} {K : PySem.W.Frag} {mg : Str → Option Value} {base : Heap} (T : Fx K mg) (Df : Dfn K mg "are_calls" ["thing"] s_are_calls) (C_is_name : Cal P wd K mg base 1 "is_name" 1 d_is_name) (C_is_tuple_of : Cal P wd K mg base 1 "is_tuple_of" 2 d_is_tuple_of) : Cal P wd K mg base 2 "are_calls" 1 d_are_calls :=
  Cal.of (k := 1) Df sc_are_calls rfl rfl fun f cdv A outer s H E hr => bd_are_calls T C_is_name C_is_tuple_of hr
theorem ok_is_hit {P : Program} {wd : World} {K : PySem.W.Frag} {mg : Str → Option Value} {base : Heap} (T : Fx K mg) (Df : Dfn K mg "is_hit" ["hearers", "family"] s_is_hit)  : Cal P wd K mg base 1 "is_hit" 2 d_is_hit :=
  Cal.of (k := 0) Df sc_is_hit rfl rfl fun f cdv A outer s H E hr => bd_is_hit T  hr
theorem ok_thing_heard {P : Program} {wd : World} {K : PySem.W.Frag} {mg : Str → Option Value} {base : Heap} (T : Fx K mg) (Df : Dfn K mg "thing_heard" ["rows", "family"] s_thing_heard) (C_is_hit : Cal P wd K mg base 1 "is_hit" 2 d_is_hit) : Cal P wd K mg base 2 "thing_heard" 2 d_thing_heard :=
  Cal.of (k := 1) Df sc_thing_heard rfl rfl fun f cdv A outer s H E hr => bd_thing_heard T C_is_hit hr
theorem ok_followed {P : Program} {wd : World} {K : PySem.W.Frag} {mg : Str → Option Value} {base : Heap} (T : Fx K mg) (Df : Dfn K mg "followed" ["word", "thing_of"] s_followed)  (kc : Nat) : Recv P wd K mg base (kc + 0) kc 1 "followed" s_followed N_followed ["word", "thing_of"] b_followed :=
  Recv.of Df sc_followed fun f b dn cdv A outer s H E hx hr hc => bd_followed T  hx hc hr
theorem okk_imagined {P : Program} {wd : World} {K : PySem.W.Frag} {mg : Str → Option Value} {base : Heap} (T : Fx K mg) (TD : TabD K mg base "imagined") {j : Nat} {ks : List Str} (Df : Dfk K mg "imagined" ["rows", "word", "family", "calls"] s_imagined j ks) (C_thing_heard : Cal P wd K mg base 2 "thing_heard" 2 d_thing_heard) (C_followed : ∀ kc : Nat, Recv P wd K mg base (kc + 0) kc 1 "followed" s_followed N_followed ["word", "thing_of"] b_followed) : CalK P wd K mg base 5 "imagined" 4 j ks d_imagined :=
  CalK.ofT (k := 4) TD Df sc_imagined rfl rfl fun f c P1 A outer s H E TA hr => bd_imagined T C_thing_heard C_followed TA hr
theorem ok_future_holds {P : Program} {wd : World} {K : PySem.W.Frag} {mg : Str → Option Value} {base : Heap} (T : Fx K mg) (Df : Dfn K mg "future_holds" ["one", "other", "members", "thing"] s_future_holds) (C_imagined_atk3 : CalK P wd K mg base 5 "imagined" 4 3 ["calls"] d_imagined) (C_is_name : Cal P wd K mg base 1 "is_name" 1 d_is_name) (C_is_family_of : Cal P wd K mg base 3 "is_family_of" 2 d_is_family_of) (C_are_calls : Cal P wd K mg base 2 "are_calls" 1 d_are_calls) (C_is_tuple_of : Cal P wd K mg base 1 "is_tuple_of" 2 d_is_tuple_of) : Cal P wd K mg base 6 "future_holds" 4 d_future_holds :=
  Cal.of (k := 5) Df sc_future_holds rfl rfl fun f cdv A outer s H E hr => bd_future_holds T C_imagined_atk3 C_is_name C_is_family_of C_are_calls C_is_tuple_of hr
theorem ok__law_is_name {P : Program} {wd : World} {K : PySem.W.Frag} {mg : Str → Option Value} {base : Heap} (T : Fx K mg) (Df : Dfn K mg "_law_is_name" ["_law_thing_here"] s__law_is_name)  : Cal P wd K mg base 1 "_law_is_name" 1 d__law_is_name :=
  Cal.of (k := 0) Df sc__law_is_name rfl rfl fun f cdv A outer s H E hr => bd__law_is_name T  hr
theorem ok__law_are_names {P : Program} {wd : World} {K : PySem.W.Frag} {mg : Str → Option Value} {base : Heap} (T : Fx K mg) (Df : Dfn K mg "_law_are_names" ["_law_thing_here"] s__law_are_names) (C__law_is_name : Cal P wd K mg base 1 "_law_is_name" 1 d__law_is_name) : Cal P wd K mg base 2 "_law_are_names" 1 d__law_are_names :=
  Cal.of (k := 1) Df sc__law_are_names rfl rfl fun f cdv A outer s H E hr => bd__law_are_names T C__law_is_name hr
theorem ok__law_heard {P : Program} {wd : World} {K : PySem.W.Frag} {mg : Str → Option Value} {base : Heap} (T : Fx K mg) (Df : Dfn K mg "_law_heard" ["_law_rows_here", "_law_family"] s__law_heard)  : Cal P wd K mg base 1 "_law_heard" 2 d__law_heard :=
  Cal.of (k := 0) Df sc__law_heard rfl rfl fun f cdv A outer s H E hr => bd__law_heard T  hr
theorem ok__law_meaning {P : Program} {wd : World} {K : PySem.W.Frag} {mg : Str → Option Value} {base : Heap} (T : Fx K mg) (Df : Dfn K mg "_law_meaning" ["_law_rows_here", "_law_word", "_law_family", "_law_anew"] s__law_meaning) (C__law_heard : Cal P wd K mg base 1 "_law_heard" 2 d__law_heard) : Cal P wd K mg base 2 "_law_meaning" 4 d__law_meaning :=
  Cal.of (k := 1) Df sc__law_meaning rfl rfl fun f cdv A outer s H E hr => bd__law_meaning T C__law_heard hr
theorem ok__law_future_good {P : Program} {wd : World} {K : PySem.W.Frag} {mg : Str → Option Value} {base : Heap} (T : Fx K mg) (Df : Dfn K mg "_law_future_good" ["_law_one", "_law_other", "_law_members", "_law_thing_here"] s__law_future_good) (C__law_meaning : Cal P wd K mg base 2 "_law_meaning" 4 d__law_meaning) (C__law_is_name : Cal P wd K mg base 1 "_law_is_name" 1 d__law_is_name) (C__law_are_names : Cal P wd K mg base 2 "_law_are_names" 1 d__law_are_names) : Cal P wd K mg base 3 "_law_future_good" 4 d__law_future_good :=
  Cal.of (k := 2) Df sc__law_future_good rfl rfl fun f cdv A outer s H E hr => bd__law_future_good T C__law_meaning C__law_is_name C__law_are_names hr
theorem ok_law {P : Program} {wd : World} {K : PySem.W.Frag} {mg : Str → Option Value} {base : Heap} (T : Fx K mg) (C__law_things : Cal P wd K mg base 10 "_law_things" 2 d__law_things) (C__law_future_good : Cal P wd K mg base 3 "_law_future_good" 4 d__law_future_good) (C_future_holds : Cal P wd K mg base 6 "future_holds" 4 d_future_holds) (C__law_take : Cal P wd K mg base 1 "_law_take" 2 d__law_take) (C__law_some : Cal P wd K mg base 2 "_law_some" 2 d__law_some) (C__law_rows : Cal P wd K mg base 3 "_law_rows" 5 d__law_rows) (C__law_names : Cal P wd K mg base 2 "_law_names" 2 d__law_names) (C__law_bag : Cal P wd K mg base 1 "_law_bag" 2 d__law_bag) {f : Addr} {fd : FuncData} (hm : mg "law" = some (.ref f)) (F : Fun K "law" "law" s_law f fd) : FnG P wd K mg base (L2N.CX P wd) 11 f fd ["_law_script"] (spD K mg 1 d_law) :=
  FnG.of (fn_D (k := 10) (funV_of F) sc_law rfl fun cdv A outer s H E hr => bd_law T C__law_things C__law_future_good C_future_holds C__law_take C__law_some C__law_rows C__law_names C__law_bag hr)
def BagB (c : Cell) : Prop := ∃ b0 b1 : Int, c = .lst [.int b0, .int b1] ∧ 0 ≤ b0 ∧ 0 ≤ b1 ∧ b1 < 2147483648
def Bag (st : Store) (l : Nat) : Prop := ∃ c, st[l]? = some c ∧ BagB c
def Fr (l : Nat) (st st' : Store) : Prop := st.length ≤ st'.length ∧ ∀ k, k ≠ l → k < st.length → st'[k]? = st[k]?
theorem Fr.refl (l : Nat) (st : Store) : Fr l st st := ⟨Nat.le_refl _, fun _ _ _ => rfl⟩
theorem Fr.trans {l : Nat} {a b c : Store} (x : Fr l a b) (y : Fr l b c) : Fr l a c := ⟨Nat.le_trans x.1 y.1, fun k h1 h2 => (y.2 k h1 (Nat.lt_of_lt_of_le h2 x.1)).trans (x.2 k h1 h2)⟩
theorem Fr.set (l : Nat) (st : Store) (c : Cell) : Fr l st (st.set l c) := ⟨by simp, fun k h _ => List.getElem?_set_ne (Ne.symm h)⟩
theorem Fr.app (l : Nat) (st ex : Store) : Fr l st (st ++ ex) := ⟨by simp, fun k _ h => List.getElem?_append_left h⟩
theorem take_ok {st : Store} {l many : Nat} {Q : D → Store → Prop} (hb : Bag st l) (h0 : 0 < many) (h1 : many < 1000000) (k : ∀ (v : Nat) (st' : Store), v < many → Bag st' l → Fr l st st' → Q (.int v) st') : DOk (d__law_take [.ref l, .int many] st) Q := by
  obtain ⟨c, hl, b0, b1, rfl, p0, p1, p2⟩ := hb
  have hm : (0 : Int) < many := by omega
  obtain ⟨hll, hl'⟩ := List.getElem?_eq_some_iff.mp hl
  have cd : ∀ i : Int, CDiv i many := fun _ => ⟨hm, by omega⟩
  have cd8 : ∀ i : Int, CDiv i 8 := fun _ => ⟨by decide, by decide⟩
  unfold d__law_take
  refine DOk_run ?_
  by_cases hb : 0 < b0
  · have hv : ((b0 % many).toNat : Int) = b0 % many := Int.toNat_of_nonneg (Int.emod_nonneg _ (by omega))
    have := k (b0 % many).toNat (st.set l (.lst [.int (b0 / many), .int b1])) (by have := Int.emod_lt_of_pos b0 hm; have := Int.emod_nonneg b0 (show (many : Int) ≠ 0 by omega); omega)
      ⟨_, List.getElem?_set_self hll, _, _, rfl, Int.ediv_nonneg p0 (by omega), p1, p2⟩ (Fr.set ..)
    rw [hv] at this
    simp [b__law_take, hl', hll, atI, ixN, hb, cd, h0]
    exact this
  · obtain ⟨m, hmx⟩ : ∃ m : Int, (b1 * 48271 + 7919) % 2147483647 = m := ⟨_, rfl⟩
    have m0 : 0 ≤ m := by rw [← hmx]; exact Int.emod_nonneg _ (by decide)
    have m1 : m < 2147483647 := by rw [← hmx]; exact Int.emod_lt_of_pos _ (by decide)
    obtain ⟨v, hv⟩ : ∃ v : Int, m / 8 * 69621 % 2147483629 % many = v := ⟨_, rfl⟩
    have v0 : 0 ≤ v := by rw [← hv]; exact Int.emod_nonneg _ (by omega)
    have v1 : v < many := by rw [← hv]; exact Int.emod_lt_of_pos _ (by omega)
    have c1 : CMul b1 48271 := .inr (by decide)
    have c2 : CMul (m / 8) 69621 := .inr (by decide)
    have := k v.toNat (st.set l (.lst [.int b0, .int m])) (by omega) ⟨_, List.getElem?_set_self hll, _, _, rfl, p0, m0, by omega⟩ (Fr.set ..)
    rw [Int.toNat_of_nonneg v0] at this
    simp [b__law_take, hl', hll, atI, ixN, hb, cd8, h0, c1, hmx, c2, hv]
    exact this
theorem bag_ok {ns : List Int} {i : Nat} {st : Store} {Q : D → Store → Prop} (h : i < 1000) (hn : ns.length ≤ 63) (k : ∀ st' : Store, Bag st' st.length → Fr st.length st st' → Q (.ref st.length) st') : DOk (d__law_bag [.lsk (ns.map .int), .int i] st) Q := by
  unfold d__law_bag
  refine DOk_run ?_
  have e18 : CPow2 10 18 := ⟨by decide, by decide, Nat.lt_of_lt_of_le (by decide : Int.natAbs 10 < 2 ^ 8) (Nat.pow_le_pow_right (by decide) (by decide))⟩
  have cm : CMul 7919 i := by left; decide
  obtain ⟨j, hj, hj2⟩ : ∃ j : Nat, j ≤ ns.length ∧ (if (60 : Int) < (ns.length : Int) then (60 : Int) else (ns.length : Int)) = (j : Int) := by
    by_cases h : (60 : Int) < (ns.length : Int)
    · exact ⟨60, by omega, by rw [if_pos h]; rfl⟩
    · exact ⟨ns.length, by omega, by rw [if_neg h]⟩
  have hrg : Rg (j : Int) := .of (by omega) (by omega)
  have loop : ∀ (cell mix : Int), 0 ≤ cell → 0 ≤ mix → mix < 2147483648 → ∀ x4 : Sl, SOk (forD (gN 4) f__law_bag_1 (rngItems 0 j) [.val (.lsk (ns.map .int)), .val (.int i), .val (.int cell), .val (.int mix), x4] st)
      (fun ρ st' => st' = st ∧ ∃ (mix : Int) (x4 : Sl), 0 ≤ mix ∧ mix < 2147483648 ∧ ρ = [.val (.lsk (ns.map .int)), .val (.int i), .val (.int cell), .val (.int mix), x4]) Q := by
    intro cell mix hc h1 h2 x4
    have := SOk_forD (k := gN 4) (b := f__law_bag_1) (N := fun ρ st' => st' = st ∧ ∃ (mix : Int) (x4 : Sl), 0 ≤ mix ∧ mix < 2147483648 ∧ ρ = [.val (.lsk (ns.map .int)), .val (.int i), .val (.int cell), .val (.int mix), x4]) (V := Q) (fun n : Nat => D.int (n : Int))
      (fun _ ρ st' => st' = st ∧ ∃ (mix : Int) (x4 : Sl), 0 ≤ mix ∧ mix < 2147483648 ∧ ρ = [.val (.lsk (ns.map .int)), .val (.int i), .val (.int cell), .val (.int mix), x4]) (List.range j) [] [.val (.lsk (ns.map .int)), .val (.int i), .val (.int cell), .val (.int mix), x4] st ⟨rfl, mix, x4, h1, h2, rfl⟩
      (by
        rintro p q r ρ st' hpq ⟨rfl, m, x4, m1, m2, rfl⟩
        have hq : q < j := by
          have : q ∈ List.range j := by rw [List.nil_append] at hpq; rw [hpq]; simp
          exact List.mem_range.mp this
        have hq2 : q < ns.length := by omega
        refine ⟨_, rfl, ?_⟩
        have c1 : CMul m 48271 := .inr (by decide)
        obtain ⟨z, hz⟩ : ∃ z : Int, (m * 48271 + ns[q] % 2147483647 + q) % 2147483629 = z := ⟨_, rfl⟩
        have z0 : 0 ≤ z := by rw [← hz]; exact Int.emod_nonneg _ (by decide)
        have z1 : z < 2147483629 := by rw [← hz]; exact Int.emod_lt_of_pos _ (by decide)
        simp [f__law_bag_1, c1, hq2, atI, ixN, hz]
        exact ⟨z0, by omega⟩) (fun ρ st' z => z)
    rwa [← show rngItems 0 j = (List.range j).map (fun n : Nat => D.int (n : Int)) by simp [rngItems]] at this
  have fin : ∀ (cell : Int), 0 ≤ cell → ∀ (mix : Int) (x4 : Sl), 0 ≤ mix → mix < 2147483648 → SOk (seqD (ifD (lift2 pLtX (vr 2) (lift2 pPowW (cst (.int 10)) (cst (.int 18)))) (setD (cst (.int 0)) (gN 2)) nxD) (retCD (lstD (aCons (vr 2) (aCons (vr 3) aNil)))) [.val (.lsk (ns.map .int)), .val (.int i), .val (.int cell), .val (.int mix), x4] st) (fun _ st => Q .non st) Q := by
    intro cell hc mix x4 h1 h2
    by_cases hb : cell < 1000000000000000000
    · have := k (st ++ [.lst [.int 0, .int mix]]) ⟨.lst [.int 0, .int mix], by simp, 0, mix, rfl, by decide, h1, h2⟩ (Fr.app ..)
      simp [e18, hb]
      exact this
    · have := k (st ++ [.lst [.int cell, .int mix]]) ⟨.lst [.int cell, .int mix], by simp, cell, mix, rfl, hc, h1, h2⟩ (Fr.app ..)
      simp [e18, hb]
      exact this
  have hmx : 0 ≤ 7919 * (i : Int) + 17 ∧ 7919 * (i : Int) + 17 < 2147483648 := by omega
  by_cases hlt : i < ns.length
  · obtain ⟨cell, hcell⟩ : ∃ cell : Int, (if ns[i] < 0 then -ns[i] else ns[i]) = cell := ⟨_, rfl⟩
    have hc : 0 ≤ cell := by rw [← hcell]; split <;> omega
    have L := loop cell (7919 * i + 17) hc hmx.1 hmx.2 .no
    unfold b__law_bag
    simp -dsimp [hlt, atI, ixN, hcell, cm, hj2, hrg]
    refine L.mono (fun ρ st' z => ?_) fun _ _ z => z
    obtain ⟨rfl, mix, x4, m1, m2, rfl⟩ := z
    exact fin cell hc mix x4 m1 m2
  · have L := loop 0 (7919 * i + 17) (by decide) hmx.1 hmx.2 .no
    unfold b__law_bag
    simp -dsimp [hlt, cm, hj2, hrg]
    refine L.mono (fun ρ st' z => ?_) fun _ _ z => z
    obtain ⟨rfl, mix, x4, m1, m2, rfl⟩ := z
    exact fin 0 (by decide) mix x4 m1 m2
abbrev LET : Str := "abcdefghijklmnopqrstuvwxyz"
theorem LET_len : LET.length = 26 := by decide
theorem LET_sz : LET.length ≤ sizeLine := by rw [LET_len, sizeLine_eq]; omega
theorem LET_ok : ∀ c ∈ LET.cps.toList, c < 0x110000 := by decide
structure NameS (s : Str) : Prop where
  lo : 1 ≤ s.length
  hi : s.length ≤ 8
  low : ∀ c ∈ s.cps.toList, c ∈ LET.cps.toList
theorem NameS.ok {s : Str} (h : NameS s) : okS s := fun c hc => LET_ok c (h.low c hc)
theorem LET_mem {c : Nat} : c ∈ LET.cps.toList ↔ 97 ≤ c ∧ c < 123 := by
  have : LET.cps.toList = List.range' 97 26 := by decide
  rw [this, List.mem_range'_1]
theorem LET_at (u : Nat) (h : u < 26) : LET.cps.toList[u]? = some (97 + u) := by
  have : LET.cps.toList = List.range' 97 26 := by decide
  rw [this, List.getElem?_range' h]; simp
def nmK (long : Bool) (bs : List Nat) (spot first k : Nat) : Str := if long then mkS (List.replicate (1 + k % 8) (97 + (first + k) % 26)) else mkS (bs.take spot ++ (97 + (first + k) % 26) :: bs.drop (spot + 1))
theorem nmK_name {long : Bool} {bs : List Nat} {spot first k : Nat} (h : spot < bs.length) (h8 : bs.length ≤ 8) (hl : ∀ c ∈ bs, c ∈ LET.cps.toList) : NameS (nmK long bs spot first k) := by
  have hc : 97 + (first + k) % 26 ∈ LET.cps.toList := by rw [LET_mem]; omega
  unfold nmK
  cases long with
  | true =>
    refine ⟨by simp, by simp; omega, fun c h => ?_⟩
    simp at h
    rw [h]; exact hc
  | false =>
    refine ⟨by simp; omega, by simp; omega, fun c h => ?_⟩
    simp at h
    rcases h with h | h | h
    · exact hl c (List.mem_of_mem_take h)
    · rw [h]; exact hc
    · exact hl c (List.mem_of_mem_drop h)
theorem nmK_inj {long : Bool} {bs : List Nat} {spot first j k : Nat} (hj : j < 26) (hk : k < 26) (h : nmK long bs spot first j = nmK long bs spot first k) : j = k := by
  unfold nmK at h
  cases long with
  | true =>
    have h := mkS_inj.mp h
    have h1 := congrArg List.length h
    simp at h1
    have h2 : (List.replicate (1 + j % 8) (97 + (first + j) % 26))[0]? = (List.replicate (1 + k % 8) (97 + (first + k) % 26))[0]? := by rw [h]
    rw [List.getElem?_replicate, List.getElem?_replicate, if_pos (by omega), if_pos (by omega)] at h2
    injection h2 with h2
    omega
  | false =>
    have h := List.append_cancel_left (mkS_inj.mp h)
    injection h with h _
    omega
theorem nmK_nodup {long : Bool} {bs : List Nat} {spot first many : Nat} (h : many ≤ 26) : ((List.range many).map (nmK long bs spot first)).Nodup := by
  rw [List.Nodup, List.pairwise_map]
  refine List.Pairwise.imp_of_mem (R := fun a b => a ≠ b) ?_ List.nodup_range
  intro a b ha hb hne e
  exact hne (nmK_inj (Nat.lt_of_lt_of_le (List.mem_range.mp ha) h) (Nat.lt_of_lt_of_le (List.mem_range.mp hb) h) e)
theorem names_ok {st : Store} {l many : Nat} {Q : D → Store → Prop} (hb : Bag st l) (hm : many ≤ 26) (k : ∀ (ns : List Str) (st' : Store), ns.length = many → ns.Nodup → (∀ s ∈ ns, NameS s) → Bag st' l → Fr l st st' → Q (.lst (ns.map .str)) st') : DOk (d__law_names [.ref l, .int many] st) Q := by
  unfold d__law_names
  refine DOk_run ?_
  unfold b__law_names
  simp
  refine COk.of (take_ok hb (many := 8) (by decide) (by decide) fun v st1 hv hb1 f1 => ?_)
  simp
  refine COk.of (take_ok hb1 (many := 1 + v) (by omega) (by omega) fun spot st2 hs hb2 f2 => ?_)
  simp
  refine COk.of (take_ok hb2 (many := 26) (by decide) (by decide) fun first st3 hf hb3 f3 => ?_)
  simp
  have r1 : Rg (1 + (v : Int)) := .of (by omega) (by omega)
  have n1 : (1 + (v : Int)).toNat = 1 + v := by omega
  simp [r1, n1]
  refine SOk_rng (1 + v) (fun q ρ st' => ∃ (bs : List Nat) (x7 : Sl), bs.length = q ∧ (∀ c ∈ bs, c ∈ LET.cps.toList) ∧ Bag st' l ∧ Fr l st st' ∧ ρ = [.val (.ref l), .val (.int many), .val (.str LET), .val (.int (1 + v)), .val (.int spot), .val (.int first), .val (.str (mkS bs)), x7, .no, .no, .no])
    ⟨[], .no, rfl, by simp, hb3, (f1.trans f2).trans f3, rfl⟩ ?_ ?_
  · rintro q ρ st' hq ⟨bs, x7, hl, hbs, hB, hF, rfl⟩
    refine ⟨_, rfl, ?_⟩
    unfold f__law_names_2
    simp
    refine COk.of (take_ok hB (many := 26) (by decide) (by decide) fun u st4 hu hb4 f4 => ?_)
    have hz : bs.length + (⟨#[97 + u]⟩ : Str).length ≤ sizeLine := by rw [sizeLine_eq]; show bs.length + 1 ≤ _; omega
    simp [LET_at u hu, LET_sz, hz]
    refine ⟨bs ++ [97 + u], by simp [hl], fun c hc => ?_, hb4, hF.trans f4, mkS_app bs [97 + u]⟩
    rcases List.mem_append.mp hc with hc | hc
    · have := hbs c hc; simpa using this
    · have : c ∈ LET.cps.toList := by rw [List.mem_singleton.mp hc, LET_mem]; omega
      simpa using this
  · rintro ρ st' ⟨bs, x7, hl, hbs, hB, hF, rfl⟩
    simp
    refine COk.of (take_ok hB (many := 3) (by decide) (by decide) fun u st4 hu hb4 f4 => ?_)
    simp
    have r2 : Rg (many : Int) := .of (by omega) (by omega)
    simp [r2]
    refine SOk_rng many (fun q ρ st' => ∃ (x7 x10 : Sl), st' = st4 ∧ ρ = [.val (.ref l), .val (.int many), .val (.str LET), .val (.int (1 + v)), .val (.int spot), .val (.int first), .val (.str (mkS bs)), x7, .val (.bl (decide (u = 0))), .ml (((List.range q).map (nmK (decide (u = 0)) bs spot first)).map .str), x10])
      ⟨x7, .no, rfl, rfl⟩ ?_ ?_
    · rintro q ρ st' hq ⟨x7, x10, rfl, rfl⟩
      refine ⟨_, rfl, ?_⟩
      have h1 : atI LET.cps.toList (((first : Int) + q) % 26) = some (97 + (first + q) % 26) := by
        rw [show ((first : Int) + q) % 26 = (((first + q) % 26 : Nat) : Int) by omega, DL.atI_nat]
        exact LET_at _ (by omega)
      have qs : q < sizeLine := by rw [sizeLine_eq]; omega
      unfold f__law_names_1
      by_cases h0 : u = 0
      · have c1 : (0 : Int) < 1 + (q : Int) % 8 := by omega
        have c2 : (1 : Int) + (q : Int) % 8 < 1000 := by omega
        have c3 : (⟨#[97 + (first + q) % 26]⟩ : Str).length ≤ 1000 := by show 1 ≤ 1000; decide
        have hr : repS ⟨#[97 + (first + q) % 26]⟩ (1 + (q : Int) % 8).toNat = nmK true bs spot first q := by
          apply mkS_ext
          rw [repS_cps]
          have : (1 + (q : Int) % 8).toNat = 1 + q % 8 := by omega
          rw [this]
          show _ = (mkS _).cps.toList
          rw [mkS_cps]
          exact List.flatten_replicate_singleton
        simp [h0, qs, LET_sz, h1, c1, c2, c3, hr, List.range_succ]
      · have hsp : spot < bs.length := by omega
        have z1 : bs.length ≤ sizeLine := by rw [sizeLine_eq]; omega
        have cu1 : cutS (mkS bs) none (some (spot : Int)) = mkS (bs.take spot) := by
          apply mkS_ext
          rw [cutS_cps]
          simp [HT.sIx, show ¬ (spot : Int) < 0 by omega, Nat.min_eq_left (Nat.le_of_lt hsp)]
        have cu2 : cutS (mkS bs) (some ((spot : Int) + 1)) none = mkS (bs.drop (spot + 1)) := by
          apply mkS_ext
          rw [cutS_cps]
          simp [HT.sIx, show ¬ ((spot : Int) + 1) < 0 by omega, show ((spot : Int) + 1).toNat = spot + 1 by omega, Nat.min_eq_left (show spot + 1 ≤ bs.length by omega)]
          exact List.take_of_length_le (by simp)
        have e1 : (⟨#[97 + (first + q) % 26]⟩ : Str) = mkS [97 + (first + q) % 26] := rfl
        have e2 : mkS (bs.take spot ++ (97 + (first + q) % 26) :: bs.drop (spot + 1)) = nmK false bs spot first q := by simp [nmK]
        have s1 : min spot bs.length + 1 ≤ sizeLine := by rw [sizeLine_eq]; omega
        have s2 : min spot bs.length + 1 + (bs.length - (spot + 1)) ≤ sizeLine := by rw [sizeLine_eq]; omega
        simp [h0, qs, LET_sz, h1, z1, cu1, cu2, e1, s1, s2, mkS_app, e2, List.range_succ]
    · rintro ρ st' ⟨x7, x10, rfl, rfl⟩
      simp
      have := k ((List.range many).map (nmK (decide (u = 0)) bs spot first)) st' (by simp) (nmK_nodup hm) (fun s hs => by
        obtain ⟨j, _, rfl⟩ := List.mem_map.mp hs
        exact nmK_name (by omega) (by omega) hbs) hb4 (hF.trans f4)
      simpa using this
theorem erase_map {α β : Type} (f : α → β) : ∀ (l : List α) (i : Nat), (l.map f).eraseIdx i = (l.eraseIdx i).map f
  | [], _ => rfl
  | _ :: _, 0 => rfl
  | x :: l, i + 1 => by simp [erase_map f l i]
theorem eraseIdx_perm {α : Type} : ∀ (l : List α) (i : Nat) (h : i < l.length), (l[i] :: l.eraseIdx i).Perm l
  | x :: l, 0, _ => List.Perm.refl _
  | x :: l, i + 1, h => by
    have := eraseIdx_perm l i (by simpa using h)
    simp only [List.getElem_cons_succ, List.eraseIdx_cons_succ]
    exact (List.Perm.swap ..).trans (this.cons x)
theorem some_ok {st : Store} {l : Nat} {ms : List Str} {Q : D → Store → Prop} (hb : Bag st l) (h0 : 0 < ms.length) (hms : ms.length ≤ 1000) (nd : ms.Nodup) (k : ∀ (ys : List Str) (st' : Store), ys.Nodup → (∀ x ∈ ys, x ∈ ms) → 0 < ys.length → ys.length ≤ ms.length → Bag st' l → Fr l st st' → Q (.lst (ys.map .str)) st') : DOk (d__law_some [.ref l, .lst (ms.map .str)] st) Q := by
  unfold d__law_some
  refine DOk_run ?_
  unfold b__law_some
  simp
  refine COk.of (take_ok hb (many := ms.length) h0 (by omega) fun v st1 hv hb1 f1 => ?_)
  have r1 : Rg (1 + (v : Int)) := .of (by omega) (by omega)
  have n1 : (1 + (v : Int)).toNat = 1 + v := by omega
  simp [r1, n1]
  refine SOk_rng (1 + v) (fun q ρ st' => ∃ (L F : List Str) (x4 : Sl), F.length = q ∧ (F ++ L).Perm ms ∧ Bag st' l ∧ Fr l st st' ∧ ρ = [.val (.ref l), .val (.lst (ms.map .str)), .ml (L.map .str), .ml (F.map .str), x4])
    ⟨ms, [], .no, rfl, List.Perm.refl _, hb1, f1, rfl⟩ ?_ ?_
  · rintro q ρ st' hq ⟨L, F, x4, hl, hp, hB, hF, rfl⟩
    refine ⟨_, rfl, ?_⟩
    have hlen := hp.length_eq
    rw [List.length_append] at hlen
    unfold f__law_some_1
    simp
    refine COk.of (take_ok hB (many := L.length) (by omega) (by omega) fun u st2 hu hb2 f2 => ?_)
    have hrs : Rs (u : Int) := .of (by omega) (by omega)
    have hsx : seqIndex? (u : Int) L.length = some u := by
      have h0 : ¬ ((u : Int) < 0) := by omega
      simp [seqIndex?, h0, hu]
    have hz : F.length < sizeLine := by rw [sizeLine_eq]; omega
    simp [hrs, hsx, hu, hz]
    refine ⟨L.eraseIdx u, F ++ [L[u]], by simp [hl], ?_, hb2, hF.trans f2, by rw [erase_map], by simp⟩
    rw [List.append_assoc]
    exact (List.Perm.append_left F (eraseIdx_perm L u hu)).trans hp
  · rintro ρ st' ⟨L, F, x4, hl, hp, hB, hF, rfl⟩
    have hlen := hp.length_eq
    rw [List.length_append] at hlen
    have nd2 : (F ++ L).Nodup := hp.nodup_iff.mpr nd
    simp
    exact k F st' (List.nodup_append.mp nd2).1 (fun x hx => hp.mem_iff.mp (List.mem_append_left _ hx)) (by omega) (by omega) hB hF
theorem _root_.DL.DOk.eq {r : R} {d : D} {st : Store} (h : DOk r fun d' st' => d' = d ∧ st' = st) : r = .ok d [] st := by
  obtain ⟨_, _, e, rfl, rfl⟩ := h
  exact e
theorem nodup_len {α : Type} [DecidableEq α] : ∀ {l m : List α}, l.Nodup → (∀ x ∈ l, x ∈ m) → l.length ≤ m.length
  | [], _, _, _ => Nat.zero_le _
  | a :: l, m, h, k => by
    obtain ⟨h1, h2⟩ := List.nodup_cons.mp h
    have ha := k a (List.mem_cons_self ..)
    have := nodup_len (l := l) (m := m.erase a) h2 fun x hx => (List.mem_erase_of_ne (fun e => h1 (by rw [← e]; exact hx))).mpr (k x (List.mem_cons_of_mem _ hx))
    rw [List.length_erase_of_mem ha] at this
    have := List.length_pos_of_mem ha
    simp; omega
theorem in_strs {n : Bool} {x : Str} {l : List Str} (hx : okS x) (hl : ∀ y ∈ l, okS y) : pInX n (.str x) (.lst (l.map .str)) = some (.bl (if n then !decide (x ∈ l) else decide (x ∈ l))) := pInX_lst (α := Str) hx hl
theorem lt_sz' {k : Nat} (h : k ≤ 200000) : k < sizeLine := Nat.lt_of_le_of_lt h (by rw [sizeLine_eq]; omega)
abbrev Rw := Th × List Str
def rowD (r : Rw) : D := .tup [Dt.d r.1, .tup (r.2.map .str)]
def rowsD (rs : List Rw) : D := .lst (rs.map rowD)
structure RwOk (r : Rw) : Prop where
  th : Dt.ok r.1
  he : ∀ x ∈ r.2, okS x
structure RsOk (rs : List Rw) : Prop where
  sz : rs.length ≤ 1000
  ok : ∀ r ∈ rs, RwOk r
def dctD (R : List (Str × List Rw)) : List (Key × D) := R.map fun p => (.inr p.1, rowsD p.2)
def own : List (Str × List Rw) → Str → List Rw
  | [], _ => []
  | p :: R, w => if p.1 = w then p.2 else own R w
theorem own_get : ∀ (R : List (Str × List Rw)) (w : Str), (getK (dctD R) (.inr w)).getD (.lst []) = rowsD (own R w)
  | [], _ => rfl
  | p :: R, w => by
    by_cases h : p.1 = w
    · simp [dctD, getK, own, h]
    · have := own_get R w
      unfold getK dctD at this ⊢
      simpa [own, h] using this
theorem own_ok {R : List (Str × List Rw)} {w : Str} (h : ∀ p ∈ R, RsOk p.2) : RsOk (own R w) := by
  induction R with
  | nil => exact ⟨Nat.zero_le _, fun r hr => by cases hr⟩
  | cons p R ih =>
    unfold own
    split
    · exact h p (List.mem_cons_self ..)
    · exact ih fun q hq => h q (List.mem_cons_of_mem _ hq)
theorem find_put_ne {k j : Key} {d : D} (e : j ≠ k) : ∀ kvs : List (Key × D), (kvs.map fun kv => if kv.1 = k then (kv.1, d) else kv).find? (fun kv => decide (kv.1 = j)) = kvs.find? fun kv => decide (kv.1 = j)
  | [] => rfl
  | kv :: kvs => by
    rw [List.map_cons]
    by_cases h : kv.1 = k
    · have n : kv.1 ≠ j := fun z => e (z.symm.trans h)
      rw [if_pos h, List.find?_cons_of_neg (by simpa using n), List.find?_cons_of_neg (by simpa using n), find_put_ne e kvs]
    · rw [if_neg h]
      by_cases h2 : kv.1 = j
      · rw [List.find?_cons_of_pos (by simpa using h2), List.find?_cons_of_pos (by simpa using h2)]
      · rw [List.find?_cons_of_neg (by simpa using h2), List.find?_cons_of_neg (by simpa using h2), find_put_ne e kvs]
theorem find_put_eq {k : Key} {d : D} : ∀ kvs : List (Key × D), (kvs.any fun kv => decide (kv.1 = k)) = true → (kvs.map fun kv => if kv.1 = k then (kv.1, d) else kv).find? (fun kv => decide (kv.1 = k)) = some (k, d)
  | kv :: kvs, h => by
    rw [List.map_cons]
    by_cases e : kv.1 = k
    · rw [if_pos e, List.find?_cons_of_pos (by simpa using e), e]
    · rw [if_neg e, List.find?_cons_of_neg (by simpa using e)]
      exact find_put_eq kvs (by simpa [e] using h)
theorem getK_put (kvs : List (Key × D)) (k j : Key) (d : D) : getK (putD kvs k d) j = if j = k then some d else getK kvs j := by
  unfold putD getK
  split
  · rename_i h
    by_cases e : j = k
    · subst e; rw [find_put_eq kvs h, if_pos rfl]; rfl
    · rw [find_put_ne e, if_neg e]
  · rename_i h
    rw [List.find?_append]
    by_cases e : j = k
    · subst e
      have n : kvs.find? (fun kv => decide (kv.1 = j)) = none := by
        rw [List.find?_eq_none]
        intro x hx hc
        exact h (List.any_eq_true.mpr ⟨x, hx, hc⟩)
      rw [n]
      simp
    · rw [if_neg e]
      have n : List.find? (fun kv : Key × D => decide (kv.1 = j)) [(k, d)] = none := by
        rw [List.find?_cons_of_neg (by simpa using fun z => e z.symm)]; rfl
      rw [n]
      simp
inductive Fol (f : Str → Th) : List Str → Str → Th → Prop
  | ring {seen : List Str} {w : Str} : w ∈ seen → Fol f seen w .non
  | thing {seen : List Str} {w : Str} : w ∉ seen → (∀ v, f w ≠ .later v) → Fol f seen w (f w)
  | step {seen : List Str} {w v : Str} {t : Th} : w ∉ seen → f w = .later v → Fol f (seen ++ [w]) v t → Fol f seen w t
theorem Fol.uniq {f : Str → Th} {seen : List Str} {w : Str} {t u : Th} (h : Fol f seen w t) (k : Fol f seen w u) : t = u := by
  induction h with
  | ring h => cases k with
    | ring _ => rfl
    | thing n _ => exact absurd h n
    | step n _ _ => exact absurd h n
  | thing n nl => cases k with
    | ring h => exact absurd h n
    | thing _ _ => rfl
    | step _ e _ => exact absurd e (nl _)
  | step n e _ ih => cases k with
    | ring h => exact absurd h n
    | thing _ nl => exact absurd e (nl _)
    | step _ e2 k => rw [e] at e2; cases e2; exact ih k
open Classical in
noncomputable def meanP (f : Str → Th) (w : Str) : Th := if h : ∃ t, Fol f [] w t then h.choose else .non
theorem meanP_eq {f : Str → Th} {w : Str} {t : Th} (h : Fol f [] w t) : meanP f w = t := by
  unfold meanP
  have hx : ∃ t, Fol f [] w t := ⟨t, h⟩
  rw [dif_pos hx]
  exact hx.choose_spec.uniq h
theorem Fol.ok {f : Str → Th} (hf : ∀ w, Dt.ok (f w)) {seen : List Str} {w : Str} {t : Th} (h : Fol f seen w t) : Dt.ok t := by
  induction h with
  | ring _ => exact trivial
  | thing _ _ => exact hf _
  | step _ _ _ ih => exact ih
theorem meanP_ok {f : Str → Th} (hf : ∀ w, Dt.ok (f w)) (w : Str) : Dt.ok (meanP f w) := by
  unfold meanP
  split
  · rename_i hx; exact hx.choose_spec.ok hf
  · exact trivial
def FoI (st : Store) (f : Str → Th) (L : List Str) (w0 : Str) (n : Nat) (ρ : En) (st' : Store) : Prop := st' = st ∧ ∃ (seen : List Str) (w : Str) (a : Sl), ρ = [.val (.str w), .fn, .ml (seen.map .str), a] ∧ seen.Nodup ∧ (∀ x ∈ seen, x ∈ w0 :: L) ∧ w ∈ w0 :: L ∧ okS w ∧ (∀ x ∈ seen, okS x) ∧ (∀ t, Fol f seen w t → Fol f [] w0 t) ∧ n + seen.length = L.length + 2
theorem followedK {dn : Den} {f : Str → Th} {L : List Str} {w0 : Str} {st : Store} (hdn : ∀ w, okS w → dn [.str w] st = .ok (Dt.d (f w)) [] st) (hf : ∀ w, okS w → Dt.ok (f w)) (hL : ∀ w v, f w = .later v → v ∈ L) (hl : L.length ≤ 100000) (h0 : okS w0) :
    ∃ t, Fol f [] w0 t ∧ recD 4 b_followed dn [.str w0] st = .ok (Dt.d t) [] st := by
  have main : SOk (b_followed dn [.val (.str w0), .fn, .no, .no] st) (fun _ _ => False) (fun d st' => st' = st ∧ ∃ t, Fol f [] w0 t ∧ d = Dt.d t) := by
    unfold b_followed
    simp
    refine SOk_while (FoI st f L w0) ?_ (L.length + 2) _ _ ⟨rfl, [], w0, .no, rfl, List.nodup_nil, by simp, by simp, h0, by simp, fun _ h => h, rfl⟩
    rintro n ρ st' ⟨rfl, seen, w, a, rfl, nd, sub, hw, ok, oks, hF, hn⟩
    have e1 := in_strs (n := true) ok oks
    have hls : seen.length ≤ L.length + 1 := by have := nodup_len nd sub; simpa using this
    unfold w_followed_1
    simp [e1]
    by_cases hin : w ∈ seen
    · simp [hin]
      exact ⟨.non, hF _ (.ring hin), rfl⟩
    · simp [hin]
      have e2 := hdn w ok
      have ht := hf w ok
      unfold f_followed_2
      have hz := lt_sz' (k := seen.length) (by omega)
      cases hfw : f w with
      | non =>
        rw [hfw] at e2
        simp [e2, Dt.d]
        exact ⟨.non, hF _ (by have := Fol.thing (f := f) hin (by rw [hfw]; simp); rwa [hfw] at this), rfl⟩
      | nm x =>
        rw [hfw] at e2
        simp [e2, Dt.d]
        exact ⟨.nm x, hF _ (by have := Fol.thing (f := f) hin (by rw [hfw]; simp); rwa [hfw] at this), rfl⟩
      | later v =>
        rw [hfw] at e2 ht
        simp [e2, Dt.d, hz]
        refine ⟨n - 1, ?_, rfl, seen ++ [w], v, .val (.tup [.str "later", .str v]), by simp, ?_, ?_, List.mem_cons_of_mem _ (hL w v hfw), ht, ?_, fun t h => hF t (.step hin hfw h), by simp; omega⟩
        · have := hls; omega
        · rw [List.nodup_append]
          exact ⟨nd, by simp, fun x hx y hy => by simp at hy; subst hy; rintro rfl; exact hin hx⟩
        · intro x hx
          rcases List.mem_append.mp hx with hx | hx
          · exact sub x hx
          · simp at hx; subst hx; exact hw
        · intro x hx
          rcases List.mem_append.mp hx with hx | hx
          · exact oks x hx
          · simp at hx; subst hx; exact ok
  have E : enterC 4 [D.str w0] = [.val (.str w0), .fn, .no, .no] := rfl
  unfold recD
  rw [E]
  cases e : b_followed dn [.val (.str w0), .fn, .no, .no] st with
  | rt d ρ st' =>
    rw [e] at main
    obtain ⟨rfl, t, h1, rfl⟩ := main
    exact ⟨t, h1, rfl⟩
  | _ => rw [e] at main; exact main.elim

def calledP (cs : List (Str × Th)) : Str → Option Th := cs.foldl (fun f c => fun w => if w = c.1 then some c.2 else f w) (fun _ => none)
def dctC (cs : List (Str × Th)) (acc : List (Key × D)) : List (Key × D) := cs.foldl (fun acc c => putD acc (.inr c.1) (Dt.d c.2)) acc
theorem getC : ∀ (cs : List (Str × Th)) (acc : List (Key × D)) (f : Str → Option Th), (∀ w, getK acc (.inr w) = (f w).map Dt.d) → ∀ w, getK (dctC cs acc) (.inr w) = ((cs.foldl (fun f c => fun w => if w = c.1 then some c.2 else f w) f) w).map Dt.d
  | [], _, _, h, w => h w
  | c :: cs, acc, f, h, w => by
    refine getC cs _ _ (fun v => ?_) w
    rw [getK_put]
    by_cases e : v = c.1
    · simp [e]
    · simp [e, h v]
theorem getC0 (cs : List (Str × Th)) (w : Str) : getK (dctC cs []) (.inr w) = (calledP cs w).map Dt.d := getC cs [] _ (fun _ => rfl) w
def callD' (c : Str × Th) : D := .tup [.str c.1, Dt.d c.2]
theorem dc_calls {x0 x1 x2 x3 x4 x5 : Sl} {st : Store} : ∀ (cs : List (Str × Th)) (acc : List (Key × D)), dcGo (gT (gsCons (gN 6) (gsCons (gN 7) gsNil))) yesD (vr 6) (vr 7) [6, 7] (cs.map callD') acc [x0, x1, x2, x3, x4, x5, .no, .no] st = .ok (.dct (dctC cs acc)) [x0, x1, x2, x3, x4, x5, .no, .no] st
  | [], acc => by simp [dcGo, dctC]
  | c :: cs, acc => by
    have ih := dc_calls (x0 := x0) (x1 := x1) (x2 := x2) (x3 := x3) (x4 := x4) (x5 := x5) (st := st) cs (putD acc (.inr c.1) (Dt.d c.2))
    rw [show dctC (c :: cs) acc = dctC cs (putD acc (.inr c.1) (Dt.d c.2)) from rfl, ← ih]
    simp only [List.map_cons, dcGo]
    simp [callD', D.key, wipeR]
def imagF (cs : List (Str × Th)) (f : Str → Th) (w : Str) : Th := (calledP cs w).getD (f w)
theorem calledP_mem : ∀ (cs : List (Str × Th)) (f : Str → Option Th) {w : Str} {t : Th}, (cs.foldl (fun f c => fun w => if w = c.1 then some c.2 else f w) f) w = some t → (f w = some t) ∨ (w, t) ∈ cs
  | [], f, w, t, h => .inl h
  | c :: cs, f, w, t, h => by
    rcases calledP_mem cs _ h with h | h
    · simp only at h
      by_cases e : w = c.1
      · rw [if_pos e] at h
        cases h
        exact .inr (by rw [e]; simp)
      · rw [if_neg e] at h; exact .inl h
    · exact .inr (List.mem_cons_of_mem _ h)
theorem calledP_in {cs : List (Str × Th)} {w : Str} {t : Th} (h : calledP cs w = some t) : (w, t) ∈ cs := by
  rcases calledP_mem cs _ h with h | h
  · cases h
  · exact h
abbrev tabC : Cell := .tab "imagined" "imagined.<locals>.thing_of"
structure FamK (fam : List (List Str)) : Prop where
  len : fam.length ≤ 1000
  le : ∀ g ∈ fam, g.length ≤ 1000
  ok : ∀ g ∈ fam, ∀ x ∈ g, okS x
def famT (fam : List (List Str)) : D := .lst (fam.map fun g => D.tup (g.map .str))
def hitL (fam : List (List Str)) (s : List Str) : Bool := fam.all fun one => one.any fun x => decide (x ∈ s)
def thOr (t : Th) : Option Rw → Th
  | some r => r.1
  | none => t
def heardL (fam : List (List Str)) (rs : List Rw) : Th := thOr .non (rs.reverse.find? fun r => hitL fam r.2)
theorem heardL_ok {fam : List (List Str)} {rs : List Rw} (h : RsOk rs) : Dt.ok (heardL fam rs) := by
  unfold heardL
  cases hf : rs.reverse.find? (fun r => hitL fam r.2) with
  | some r => exact (h.ok r (List.mem_reverse.mp (List.mem_of_find?_eq_some hf))).th
  | none => exact trivial
theorem is_hitL {s : List Str} {fam : List (List Str)} (hs : ∀ x ∈ s, okS x) (h : FamK fam) (st : Store) : d_is_hit [.tup (s.map .str), famT fam] st = .ok (.bl (hitL fam s)) [] st := by
  have hz := sz _ (show fam.length ≤ 1000000 by have := h.len; omega)
  have e2 := lc_mapC (g := gN 2) (e := e_is_hit_2) (vs := [2]) (ρ := [.val (.tup (s.map .str)), .val (famT fam), .no, .no]) (st := st) (fun g : List Str => D.tup (g.map .str)) (fun g => .bl (g.any fun x => decide (x ∈ s))) fam fun g hg => by
    have hz := sz _ (show g.length ≤ 1000000 by have := h.le g hg; omega)
    have e1 := lc_mapC (g := gN 3) (e := e_is_hit_1) (vs := [3]) (ρ := [.val (.tup (s.map .str)), .val (famT fam), .val (.tup (g.map .str)), .no]) (st := st) D.str (fun x => .bl (decide (x ∈ s))) g fun x hx => by
      have : pInX false (.str x) (.tup (s.map .str)) = some (.bl (decide (x ∈ s))) := pInX_tup (α := Str) (h.ok g hg x hx) hs
      simp [e_is_hit_1, this]
    simp [e_is_hit_2, hz, e1]
  unfold famT at e2 ⊢
  simp [d_is_hit, b_is_hit, hz, e2, hitL]
theorem heard_eq {rs : List Rw} {fam : List (List Str)} (hr : RsOk rs) (h : FamK fam) (st : Store) : d_thing_heard [rowsD rs, famT fam] st = .ok (Dt.d (heardL fam rs)) [] st := by
  have main : ∀ (l : List Rw) (x2 x3 : Sl), (∀ r ∈ l, RwOk r) → ∃ y2 y3 : Sl, forD (gT (gsCons (gN 2) (gsCons (gN 3) gsNil))) f_thing_heard_1 (l.map rowD) [.val (rowsD rs), .val (famT fam), x2, x3] st =
      match l.find? (fun r => hitL fam r.2) with | some r => .rt (Dt.d r.1) [.val (rowsD rs), .val (famT fam), y2, y3] st | none => .nx [.val (rowsD rs), .val (famT fam), y2, y3] st := by
    intro l
    induction l with
    | nil => intro x2 x3 _; exact ⟨x2, x3, rfl⟩
    | cons r l ih =>
      intro x2 x3 ho
      obtain ⟨t, s⟩ := r
      have e1 := is_hitL (s := s) (ho (t, s) (List.mem_cons_self ..)).he h st
      obtain ⟨y2, y3, e2⟩ := ih (.val (Dt.d t)) (.val (.tup (s.map .str))) fun r hr => ho r (List.mem_cons_of_mem _ hr)
      cases e : hitL fam s with
      | true =>
        rw [e] at e1
        refine ⟨.val (Dt.d t), .val (.tup (s.map .str)), ?_⟩
        rw [List.map_cons, forD, rowD]
        simp [f_thing_heard_1, e1, e]
      | false =>
        rw [e] at e1
        refine ⟨y2, y3, ?_⟩
        have L : f_thing_heard_1 [.val (rowsD rs), .val (famT fam), .val (Dt.d t), .val (.tup (s.map .str))] st = .nx [.val (rowsD rs), .val (famT fam), .val (Dt.d t), .val (.tup (s.map .str))] st := by simp [f_thing_heard_1, e1]
        rw [List.map_cons, forD, rowD]
        simp [L, e, e2]
  obtain ⟨y2, y3, e⟩ := main rs.reverse .no .no fun r hx => hr.ok r (List.mem_reverse.mp hx)
  have hz : rs.length ≤ sizeLine := sz _ (by have := hr.sz; omega)
  rw [List.map_reverse] at e
  unfold heardL
  cases hf : rs.reverse.find? (fun r => hitL fam r.2) with
  | none => rw [hf] at e; simp [rowsD] at e; simp [d_thing_heard, b_thing_heard, rowsD, hz, e, thOr]; rfl
  | some r => rw [hf] at e; simp [rowsD] at e; simp [d_thing_heard, b_thing_heard, rowsD, hz, e, thOr]
theorem lawheard_eq {rs : List Rw} {fam : List (List Str)} (hr : RsOk rs) (h : FamK fam) (st : Store) : d__law_heard [rowsD rs, famT fam] st = .ok (Dt.d (heardL fam rs)) [] st := by
  have fl : ∀ (r : Rw), RwOk r → ∀ (x5 : Sl), lift1 pAll (lcD (itD (vr 1)) (gN 5) yesD e__law_heard_2 [5]) [.val (rowsD rs), .val (famT fam), x5, .val (Dt.d r.1), .val (.tup (r.2.map .str)), .no, .no] st = .ok (.bl (hitL fam r.2)) [.val (rowsD rs), .val (famT fam), x5, .val (Dt.d r.1), .val (.tup (r.2.map .str)), .no, .no] st := fun r ro x5 => by
    have hz := sz _ (show fam.length ≤ 1000000 by have := h.len; omega)
    have e2 := lc_mapC (g := gN 5) (e := e__law_heard_2) (vs := [5]) (ρ := [.val (rowsD rs), .val (famT fam), x5, .val (Dt.d r.1), .val (.tup (r.2.map .str)), .no, .no]) (st := st) (fun g : List Str => D.tup (g.map .str)) (fun g => .bl (g.any fun x => decide (x ∈ r.2))) fam fun g hg => by
      have hz := sz _ (show g.length ≤ 1000000 by have := h.le g hg; omega)
      have e1 := lc_fmC (g := gN 6) (c := t__law_heard_1) (e := vr 6) (vs := [6]) (ρ := [.val (rowsD rs), .val (famT fam), x5, .val (Dt.d r.1), .val (.tup (r.2.map .str)), .val (.tup (g.map .str)), .no]) (st := st) D.str D.str (fun x => decide (x ∈ r.2)) g fun x hx => by
        have : pInX false (.str x) (.tup (r.2.map .str)) = some (.bl (decide (x ∈ r.2))) := pInX_tup (α := Str) (h.ok g hg x hx) ro.he
        simp [t__law_heard_1, this]
        by_cases e : x ∈ r.2 <;> simp [e]
      have hz2 : ((g.filter fun x => decide (x ∈ r.2)).map D.str).length ≤ sizeLine := sz _ (by rw [List.length_map]; have := List.length_filter_le (fun x => decide (x ∈ r.2)) g; have := h.le g hg; omega)
      have any : decide ((0 : Int) < ((g.filter fun x => decide (x ∈ r.2)).length : Int)) = g.any fun x => decide (x ∈ r.2) := by
        rw [Bool.eq_iff_iff, decide_eq_true_iff, List.any_eq_true]
        constructor
        · intro z
          have z' : 0 < (g.filter fun x => decide (x ∈ r.2)).length := by omega
          obtain ⟨x, hx⟩ := List.exists_mem_of_length_pos z'
          exact ⟨x, (List.mem_filter.mp hx).1, (List.mem_filter.mp hx).2⟩
        · rintro ⟨x, hx, z⟩
          have := List.length_pos_of_mem (List.mem_filter (p := fun x => decide (x ∈ r.2)).mpr ⟨hx, z⟩)
          omega
      simp [e__law_heard_2, hz, e1]
      simpa using any
    unfold famT at e2 ⊢
    simp [hz, e2, hitL]
  have main : ∀ (l : List Rw) (t : Th) (x3 x4 : Sl), (∀ r ∈ l, RwOk r) → ∃ y3 y4 : Sl, forD (gT (gsCons (gN 3) (gsCons (gN 4) gsNil))) f__law_heard_3 (l.map rowD) [.val (rowsD rs), .val (famT fam), .val (Dt.d t), x3, x4, .no, .no] st =
      .nx [.val (rowsD rs), .val (famT fam), .val (Dt.d (thOr t (l.reverse.find? fun r => hitL fam r.2))), y3, y4, .no, .no] st := by
    intro l
    induction l with
    | nil => intro t x3 x4 _; exact ⟨x3, x4, rfl⟩
    | cons r l ih =>
      intro t x3 x4 ho
      have ro := ho r (List.mem_cons_self ..)
      have e1 := fl r ro (.val (Dt.d t))
      have L : f__law_heard_3 [.val (rowsD rs), .val (famT fam), .val (Dt.d t), .val (Dt.d r.1), .val (.tup (r.2.map .str)), .no, .no] st = .nx [.val (rowsD rs), .val (famT fam), .val (Dt.d (if hitL fam r.2 then r.1 else t)), .val (Dt.d r.1), .val (.tup (r.2.map .str)), .no, .no] st := by
        unfold f__law_heard_3
        cases e : hitL fam r.2 with
        | true => rw [e] at e1; simp only [ifD, thenF]; rw [e1]; simp
        | false => rw [e] at e1; simp only [ifD, thenF]; rw [e1]; simp
      obtain ⟨y3, y4, e2⟩ := ih (if hitL fam r.2 then r.1 else t) (.val (Dt.d r.1)) (.val (.tup (r.2.map .str))) fun r hr => ho r (List.mem_cons_of_mem _ hr)
      refine ⟨y3, y4, ?_⟩
      rw [List.map_cons, forD, rowD]
      simp [L, e2, List.find?_append]
      cases e : l.reverse.find? (fun r => hitL fam r.2) with
      | some q => simp [thOr]
      | none => cases e3 : hitL fam r.2 <;> simp [e3, thOr]
  obtain ⟨y3, y4, e⟩ := main rs .non .no .no hr.ok
  have hz : rs.length ≤ sizeLine := sz _ (by have := hr.sz; omega)
  have E : (Dt.d Th.non : D) = .non := rfl
  rw [E] at e
  unfold heardL
  simp [rowsD] at e
  simp [d__law_heard, b__law_heard, rowsD, hz, e]
theorem called_last : ∀ (cs : List (Str × Th)) (f : Str → Option Th) (w : Str), (cs.foldl (fun f c => fun w => if w = c.1 then some c.2 else f w) f) w = match (cs.filter fun c => decide (c.1 = w)).getLast? with | some c => some c.2 | none => f w
  | [], f, w => rfl
  | c :: cs, f, w => by
    rw [List.foldl_cons, called_last cs]
    by_cases e : c.1 = w
    · have e' : w = c.1 := e.symm
      rw [List.filter_cons_of_pos (by simpa using e), List.getLast?_cons]
      cases h : (cs.filter fun c => decide (c.1 = w)).getLast? with
      | some q => simp
      | none => simp [e']
    · have e' : ¬ w = c.1 := fun z => e z.symm
      rw [List.filter_cons_of_neg (by simpa using e)]
      cases h : (cs.filter fun c => decide (c.1 = w)).getLast? with
      | some q => simp
      | none => simp [e']
def saidP (cs : List (Str × Th)) (w : Str) : List (Str × Th) := cs.filter fun c => decide (c.1 = w)
theorem calledP_none {cs : List (Str × Th)} {w : Str} (h : saidP cs w = []) : calledP cs w = none := by
  have := called_last cs (fun _ => none) w
  unfold saidP at h
  rw [h] at this
  exact this
theorem calledP_some {cs : List (Str × Th)} {w : Str} {p : List (Str × Th)} {c : Str × Th} (h : saidP cs w = p ++ [c]) : calledP cs w = some c.2 := by
  have := called_last cs (fun _ => none) w
  unfold saidP at h
  rw [h, List.getLast?_concat] at this
  exact this
theorem own_mem {R : List (Str × List Rw)} {w : Str} {r : Rw} (h : r ∈ own R w) : ∃ p ∈ R, r ∈ p.2 := by
  induction R with
  | nil => cases h
  | cons p R ih =>
    unfold own at h
    split at h
    · exact ⟨p, List.mem_cons_self .., h⟩
    · obtain ⟨q, hq, hr⟩ := ih h
      exact ⟨q, List.mem_cons_of_mem _ hq, hr⟩
def thingL (R : List (Str × List Rw)) (fam : List (List Str)) (w : Str) : Th := heardL fam (own R w)
def latR (R : List (Str × List Rw)) : List Str := (R.flatMap (·.2)).filterMap fun r => match r.1 with | .later v => some v | _ => none
theorem thingL_lat {R : List (Str × List Rw)} {fam : List (List Str)} {w v : Str} (h : thingL R fam w = .later v) : v ∈ latR R := by
  unfold thingL heardL at h
  cases hf : (own R w).reverse.find? (fun r => hitL fam r.2) with
  | none => rw [hf] at h; cases h
  | some r =>
    rw [hf] at h
    have hr := List.mem_reverse.mp (List.mem_of_find?_eq_some hf)
    obtain ⟨p, hp, hm⟩ := own_mem hr
    refine List.mem_filterMap.mpr ⟨r, List.mem_flatMap.mpr ⟨p, hp, hm⟩, ?_⟩
    have : r.1 = .later v := h
    rw [this]
structure MW (R : List (Str × List Rw)) (fam : List (List Str)) (cs : List (Str × Th)) : Prop where
  ro : ∀ p ∈ R, RsOk p.2
  ll : (latR R).length ≤ 1000
  fk : FamK fam
  co : ∀ c ∈ cs, okS c.1 ∧ Dt.ok c.2 ∧ ∀ v, c.2 ≠ .later v
  cl : cs.length ≤ 100
section
variable {R : List (Str × List Rw)} {fam : List (List Str)} {cs : List (Str × Th)}
abbrev mF (R : List (Str × List Rw)) (fam : List (List Str)) (cs : List (Str × Th)) : Str → Th := imagF cs (thingL R fam)
theorem MW.ok (h : MW R fam cs) (w : Str) : Dt.ok (mF R fam cs w) := by
  unfold mF imagF
  cases hc : calledP cs w with
  | none => exact heardL_ok (own_ok h.ro)
  | some t => exact (h.co _ (calledP_in hc)).2.1
theorem MW.lat (h : MW R fam cs) (w v : Str) (e : mF R fam cs w = .later v) : v ∈ latR R := by
  unfold mF imagF at e
  cases hc : calledP cs w with
  | none => rw [hc] at e; exact thingL_lat e
  | some t => rw [hc] at e; exact absurd e ((h.co _ (calledP_in hc)).2.2 v)
theorem law_thing (h : MW R fam cs) {w : Str} (hw : okS w) {d : D} {st : Store} (hd : dOf (lkD st d) = some (dctD R)) {x1 x6 x7 x8 : Sl} {seen : List D} (hz : seen.length < sizeLine) : ∃ y6 : Sl,
    f__law_meaning_3 [.val d, x1, .val (famT fam), .val (.lst (cs.map callD')), .ml seen, .val (.tup [.str "later", .str w]), x6, .no, .no] st = .nx [.val d, x1, .val (famT fam), .val (.lst (cs.map callD')), .ml (seen ++ [.str w]), .val (Dt.d (mF R fam cs w)), y6, .no, .no] st := by
  have zc := sz _ (show cs.length ≤ 1000000 by have := h.cl; omega)
  have e1 := lc_fmC (g := gT (gsCons (gN 7) (gsCons (gN 8) gsNil))) (c := t__law_meaning_1) (e := vr 8) (vs := [7, 8]) (ρ := [.val d, x1, .val (famT fam), .val (.lst (cs.map callD')), .ml (seen ++ [.str w]), .val (.tup [.str "later", .str w]), x6, .no, .no]) (st := st) callD' (fun c => Dt.d c.2) (fun c => decide (c.1 = w)) cs fun c hc => by
    have eq : pEq (.str c.1) (.str w) = some (.bl (decide (c.1 = w))) := pEq_dt (α := Str) (h.co c hc).1 hw
    by_cases e : c.1 = w
    · rw [e] at eq; simp [callD', t__law_meaning_1, eq, e]
    · simp [callD', t__law_meaning_1, eq, e]
  have heard := lawheard_eq (fam := fam) (own_ok (w := w) h.ro) h.fk st
  have og := own_get R w
  rcases List.eq_nil_or_concat (saidP cs w) with hs | ⟨p, c, hs⟩
  · have hc := calledP_none hs
    have hs' : (cs.filter fun c => decide (c.1 = w)) = [] := hs
    refine ⟨.val (.lst []), ?_⟩
    unfold f__law_meaning_3
    simp [hz, zc, e1, hs', -dOf, -lkD, hd, D.key, og, heard]
    unfold mF imagF
    rw [hc]
    rfl
  · have hc := calledP_some (by simpa using hs)
    have hs' : (cs.filter fun c => decide (c.1 = w)) = p ++ [c] := by simpa [saidP] using hs
    refine ⟨.val (.lst ((p ++ [c]).map fun c => Dt.d c.2)), ?_⟩
    have zp : (p ++ [c]).length ≤ sizeLine := by rw [← hs']; exact Nat.le_trans (List.length_filter_le _ _) zc
    unfold f__law_meaning_3
    simp [hz, zc, e1, hs', atI_last]
    unfold mF imagF
    rw [hc]
    simp
end
section
variable {R : List (Str × List Rw)} {fam : List (List Str)} {cs : List (Str × Th)}
def MeL (st : Store) (x0 x1 x2 x3 : Sl) (f : Str → Th) (L : List Str) (w0 : Str) (n : Nat) (ρ : En) (st' : Store) : Prop := st' = st ∧ ∃ (seen : List Str) (t : Th) (a6 : Sl), ρ = [x0, x1, x2, x3, .ml (seen.map .str), .val (Dt.d t), a6, .no, .no] ∧ seen.Nodup ∧ (∀ x ∈ seen, x ∈ w0 :: L) ∧ (∀ x ∈ seen, okS x) ∧ Dt.ok t ∧
  ((∃ w, t = .later w ∧ w ∈ w0 :: L ∧ ∀ u, Fol f seen w u → Fol f [] w0 u) ∨ ((∀ v, t ≠ .later v) ∧ Fol f [] w0 t)) ∧ n + seen.length = L.length + 2
theorem lawmeaning_fol (h : MW R fam cs) {w0 : Str} (hw : okS w0) {d : D} {st : Store} (hd : dOf (lkD st d) = some (dctD R)) :
    ∃ t, Fol (mF R fam cs) [] w0 t ∧ d__law_meaning [d, .str w0, famT fam, .lst (cs.map callD')] st = .ok (Dt.d t) [] st := by
  have main : SOk (b__law_meaning [.val d, .val (.str w0), .val (famT fam), .val (.lst (cs.map callD')), .no, .no, .no, .no, .no] st) (fun _ _ => False) (fun d st' => st' = st ∧ ∃ t, Fol (mF R fam cs) [] w0 t ∧ d = Dt.d t) := by
    unfold b__law_meaning
    simp
    refine SOk_while (MeL st (.val d) (.val (.str w0)) (.val (famT fam)) (.val (.lst (cs.map callD'))) (mF R fam cs) (latR R) w0) ?_ ((latR R).length + 2) _ _ ⟨rfl, [], .later w0, .no, rfl, List.nodup_nil, by simp, by simp, hw, .inl ⟨w0, rfl, by simp, fun _ h => h⟩, rfl⟩
    rintro n ρ st' ⟨rfl, seen, t, a6, rfl, nd, sub, oks, ot, ht, hn⟩
    have hll := h.ll
    have hls : seen.length ≤ (latR R).length + 1 := by have := nodup_len nd sub; simpa using this
    unfold w__law_meaning_2
    rcases ht with ⟨w, rfl, hwm, hF⟩ | ⟨nl, hF⟩
    · have ok : okS w := ot
      have e1 := in_strs (n := true) ok oks
      by_cases hin : w ∈ seen
      · simp [Dt.d, e1, hin]
        exact ⟨.non, hF _ (.ring hin), rfl⟩
      · simp [Dt.d, e1, hin]
        obtain ⟨y6, e2⟩ := law_thing h ok hd (x1 := .val (.str w0)) (x6 := a6) (x7 := .no) (x8 := .no) (seen := seen.map .str) (by rw [List.length_map]; exact lt_sz' (by omega))
        rw [e2]
        have hm := h.ok w
        refine ⟨n - 1, by omega, rfl, seen ++ [w], mF R fam cs w, y6, by simp, ?_, ?_, ?_, hm, ?_, by simp; omega⟩
        · rw [List.nodup_append]
          exact ⟨nd, by simp, fun x hx y hy => by simp at hy; subst hy; rintro rfl; exact hin hx⟩
        · intro x hx
          rcases List.mem_append.mp hx with hx | hx
          · exact sub x hx
          · simp at hx; subst hx; exact hwm
        · intro x hx
          rcases List.mem_append.mp hx with hx | hx
          · exact oks x hx
          · simp at hx; subst hx; exact ok
        · by_cases hl : ∃ v, mF R fam cs w = .later v
          · obtain ⟨v, hv⟩ := hl
            exact .inl ⟨v, hv, List.mem_cons_of_mem _ (h.lat w v hv), fun u hu => hF u (.step hin hv hu)⟩
          · have nl : ∀ v, mF R fam cs w ≠ .later v := fun v z => hl ⟨v, z⟩
            exact .inr ⟨nl, hF _ (.thing hin nl)⟩
    · cases t with
      | later v => exact absurd rfl (nl v)
      | non =>
        simp [Dt.d]
        exact ⟨.non, hF, rfl⟩
      | nm x =>
        simp [Dt.d]
        exact ⟨.nm x, hF, rfl⟩
  have E : enter 9 [d, D.str w0, famT fam, .lst (cs.map callD')] = [.val d, .val (.str w0), .val (famT fam), .val (.lst (cs.map callD')), .no, .no, .no, .no, .no] := rfl
  unfold d__law_meaning runD
  rw [E]
  cases e : b__law_meaning [.val d, .val (.str w0), .val (famT fam), .val (.lst (cs.map callD')), .no, .no, .no, .no, .no] st with
  | rt d ρ st' =>
    rw [e] at main
    obtain ⟨rfl, t, h1, rfl⟩ := main
    exact ⟨t, h1, rfl⟩
  | _ => rw [e] at main; exact main.elim
noncomputable def mtL (R : List (Str × List Rw)) (fam : List (List Str)) (cs : List (Str × Th)) (w : Str) : Th := meanP (mF R fam cs) w
theorem lawmeaning_eq (h : MW R fam cs) {w : Str} (hw : okS w) {d : D} {st : Store} (hd : dOf (lkD st d) = some (dctD R)) : d__law_meaning [d, .str w, famT fam, .lst (cs.map callD')] st = .ok (Dt.d (mtL R fam cs w)) [] st := by
  obtain ⟨t, hF, e⟩ := lawmeaning_fol h hw hd
  rw [e]
  unfold mtL
  rw [meanP_eq hF]
theorem MW.mtok (h : MW R fam cs) (w : Str) : Dt.ok (mtL R fam cs w) := meanP_ok (fun v => h.ok v) w
theorem imagined_eq (h : MW R fam cs) {w : Str} (hw : okS w) {st : Store} (tb : st[0]? = some tabC) : d_imagined [.dlk (dctD R), .str w, famT fam, .lst (cs.map callD')] st = .ok (Dt.d (mtL R fam cs w)) [] st := by
  have hdn : ∀ v, okS v → (fun ds st => runD 4 b_imagined_thing_of (ds ++ [.dlk (dctC cs []), famT fam, .dlk (dctD R)]) st) [.str v] st = .ok (Dt.d (mF R fam cs v)) [] st := fun v hv => by
    have e1 := heard_eq (own_ok (w := v) h.ro) h.fk st
    have e2 := own_get R v
    have e3 := getC0 cs v
    have E : enter 4 ([D.str v] ++ [.dlk (dctC cs []), famT fam, .dlk (dctD R)]) = [.val (.str v), .val (.dlk (dctC cs [])), .val (famT fam), .val (.dlk (dctD R))] := rfl
    simp only [runD, E]
    unfold mF imagF
    cases hc : calledP cs v with
    | none =>
      rw [hc] at e3
      simp only [Option.map_none] at e3
      simp [b_imagined_thing_of, D.key, e3, e2, e1]
      rfl
    | some t =>
      rw [hc] at e3
      simp only [Option.map_some] at e3
      simp [b_imagined_thing_of, D.key, e3]
  obtain ⟨t, hF, e⟩ := followedK (dn := fun ds st => runD 4 b_imagined_thing_of (ds ++ [.dlk (dctC cs []), famT fam, .dlk (dctD R)]) st) (st := st) hdn (fun v hv => h.ok v) h.lat (by have := h.ll; omega) hw
  have ec := dc_calls (x0 := .val (.dlk (dctD R))) (x1 := .val (.str w)) (x2 := .val (famT fam)) (x3 := .val (.lst (cs.map callD'))) (x4 := .no) (x5 := .no) (st := st) cs []
  have hz := sz _ (show cs.length ≤ 1000000 by have := h.cl; omega)
  have E : enter 8 [D.dlk (dctD R), .str w, famT fam, .lst (cs.map callD')] = [.val (.dlk (dctD R)), .val (.str w), .val (famT fam), .val (.lst (cs.map callD')), .no, .no, .no, .no] := rfl
  have S1 : setD (lkE (dcD (itD (vr 3)) (gT (gsCons (gN 6) (gsCons (gN 7) gsNil))) yesD (vr 6) (vr 7) [6, 7])) (gN 4) [.val (.dlk (dctD R)), .val (.str w), .val (famT fam), .val (.lst (cs.map callD')), .no, .no, .no, .no] st = .nx [.val (.dlk (dctD R)), .val (.str w), .val (famT fam), .val (.lst (cs.map callD')), .val (.dlk (dctC cs [])), .no, .no, .no] st := by
    simp [hz, ec]
  have S2 : ndRetD 0 "imagined" "imagined.<locals>.thing_of" 5 [4, 2, 0] 4 b_followed 4 b_imagined_thing_of (vr 1) [.val (.dlk (dctD R)), .val (.str w), .val (famT fam), .val (.lst (cs.map callD')), .val (.dlk (dctC cs [])), .no, .no, .no] st = .rt (Dt.d t) [.val (.dlk (dctD R)), .val (.str w), .val (famT fam), .val (.lst (cs.map callD')), .val (.dlk (dctC cs [])), .no, .no, .no] st := by
    have q : (5 : Nat) < 8 := by decide
    have C : capsD [.val (.dlk (dctD R)), .val (.str w), .val (famT fam), .val (.lst (cs.map callD')), .val (.dlk (dctC cs [])), .no, .no, .no] [4, 2, 0] = some [.dlk (dctC cs []), famT fam, .dlk (dctD R)] := rfl
    have V : vr 1 [.val (.dlk (dctD R)), .val (.str w), .val (famT fam), .val (.lst (cs.map callD')), .val (.dlk (dctC cs [])), .no, .no, .no] st = .ok (.str w) [.val (.dlk (dctD R)), .val (.str w), .val (famT fam), .val (.lst (cs.map callD')), .val (.dlk (dctC cs [])), .no, .no, .no] st := rfl
    simp only [ndRetD, tb, tabC, List.length_cons, List.length_nil, true_and, if_pos q, List.set_cons_succ, List.set_cons_zero, V, C, e]
  simp only [d_imagined, runD, E, b_imagined, seqD, S1, S2, endR]
  unfold mtL
  rw [meanP_eq hF]
end
section
variable {R : List (Str × List Rw)} {fam : List (List Str)} {cs : List (Str × Th)}
theorem imagined_eqC (h : MW R fam cs) {w : Str} (hw : okS w) {st : Store} (tb : st[0]? = some tabC) : d_imagined [.dct (dctD R), .str w, famT fam, .lst (cs.map callD')] st = .ok (Dt.d (mtL R fam cs w)) [] st := by
  have hdn : ∀ v, okS v → (fun ds st => runD 4 b_imagined_thing_of (ds ++ [.dlk (dctC cs []), famT fam, .dct (dctD R)]) st) [.str v] st = .ok (Dt.d (mF R fam cs v)) [] st := fun v hv => by
    have e1 := heard_eq (own_ok (w := v) h.ro) h.fk st
    have e2 := own_get R v
    have e3 := getC0 cs v
    have E : enter 4 ([D.str v] ++ [.dlk (dctC cs []), famT fam, .dct (dctD R)]) = [.val (.str v), .val (.dlk (dctC cs [])), .val (famT fam), .val (.dct (dctD R))] := rfl
    simp only [runD, E]
    unfold mF imagF
    cases hc : calledP cs v with
    | none =>
      rw [hc] at e3
      simp only [Option.map_none] at e3
      simp [b_imagined_thing_of, D.key, e3, e2, e1]
      rfl
    | some t =>
      rw [hc] at e3
      simp only [Option.map_some] at e3
      simp [b_imagined_thing_of, D.key, e3]
  obtain ⟨t, hF, e⟩ := followedK (dn := fun ds st => runD 4 b_imagined_thing_of (ds ++ [.dlk (dctC cs []), famT fam, .dct (dctD R)]) st) (st := st) hdn (fun v hv => h.ok v) h.lat (by have := h.ll; omega) hw
  have ec := dc_calls (x0 := .val (.dct (dctD R))) (x1 := .val (.str w)) (x2 := .val (famT fam)) (x3 := .val (.lst (cs.map callD'))) (x4 := .no) (x5 := .no) (st := st) cs []
  have hz := sz _ (show cs.length ≤ 1000000 by have := h.cl; omega)
  have E : enter 8 [D.dct (dctD R), .str w, famT fam, .lst (cs.map callD')] = [.val (.dct (dctD R)), .val (.str w), .val (famT fam), .val (.lst (cs.map callD')), .no, .no, .no, .no] := rfl
  have S1 : setD (lkE (dcD (itD (vr 3)) (gT (gsCons (gN 6) (gsCons (gN 7) gsNil))) yesD (vr 6) (vr 7) [6, 7])) (gN 4) [.val (.dct (dctD R)), .val (.str w), .val (famT fam), .val (.lst (cs.map callD')), .no, .no, .no, .no] st = .nx [.val (.dct (dctD R)), .val (.str w), .val (famT fam), .val (.lst (cs.map callD')), .val (.dlk (dctC cs [])), .no, .no, .no] st := by
    simp [hz, ec]
  have S2 : ndRetD 0 "imagined" "imagined.<locals>.thing_of" 5 [4, 2, 0] 4 b_followed 4 b_imagined_thing_of (vr 1) [.val (.dct (dctD R)), .val (.str w), .val (famT fam), .val (.lst (cs.map callD')), .val (.dlk (dctC cs [])), .no, .no, .no] st = .rt (Dt.d t) [.val (.dct (dctD R)), .val (.str w), .val (famT fam), .val (.lst (cs.map callD')), .val (.dlk (dctC cs [])), .no, .no, .no] st := by
    have q : (5 : Nat) < 8 := by decide
    have C : capsD [.val (.dct (dctD R)), .val (.str w), .val (famT fam), .val (.lst (cs.map callD')), .val (.dlk (dctC cs [])), .no, .no, .no] [4, 2, 0] = some [.dlk (dctC cs []), famT fam, .dct (dctD R)] := rfl
    have V : vr 1 [.val (.dct (dctD R)), .val (.str w), .val (famT fam), .val (.lst (cs.map callD')), .val (.dlk (dctC cs [])), .no, .no, .no] st = .ok (.str w) [.val (.dct (dctD R)), .val (.str w), .val (famT fam), .val (.lst (cs.map callD')), .val (.dlk (dctC cs [])), .no, .no, .no] st := rfl
    simp only [ndRetD, tb, tabC, List.length_cons, List.length_nil, true_and, if_pos q, List.set_cons_succ, List.set_cons_zero, V, C, e]
  simp only [d_imagined, runD, E, b_imagined, seqD, S1, S2, endR]
  unfold mtL
  rw [meanP_eq hF]
end
def GivD (d : D) (R : List (Str × List Rw)) : Prop := d = .dlk (dctD R) ∨ (d = .dct [] ∧ R = [])
theorem GivD.dOf {d : D} {R : List (Str × List Rw)} (h : GivD d R) (st : Store) : dOf (lkD st d) = some (dctD R) := by
  rcases h with rfl | ⟨rfl, rfl⟩ <;> rfl
theorem imagined_any {R : List (Str × List Rw)} {fam : List (List Str)} {cs : List (Str × Th)} {d : D} (hd : GivD d R) (h : MW R fam cs) {w : Str} (hw : okS w) {st : Store} (tb : st[0]? = some tabC) : d_imagined [d, .str w, famT fam, .lst (cs.map callD')] st = .ok (Dt.d (mtL R fam cs w)) [] st := by
  rcases hd with rfl | ⟨rfl, rfl⟩
  · exact imagined_eq h hw tb
  · exact imagined_eqC h hw tb
def ThN (ws ths : List Str) (t : Th) : Prop := t = .non ∨ (∃ v ∈ ws, t = .later v) ∨ ∃ x ∈ ths, t = .nm x
theorem at_get {α : Type} {l : List α} {v : Nat} (h : v < l.length) : ∃ x, l[v]? = some x ∧ x ∈ l := ⟨l[v], List.getElem?_eq_getElem h, List.getElem_mem h⟩
theorem eqI {v : Nat} {j : Int} : pEq (.int v) (.int j) = some (.bl (decide ((v : Int) = j))) := pEq_dt (α := Int) trivial trivial
theorem lawthing_ok {st : Store} {l : Nat} {ws ths : List Str} {Q : D → Store → Prop} (hb : Bag st l) (w0 : 0 < ws.length) (w1 : ws.length ≤ 1000) (t0 : 0 < ths.length) (t1 : ths.length ≤ 1000)
    (k : ∀ (t : Th) (st' : Store), ThN ws ths t → Bag st' l → Fr l st st' → Q (Dt.d t) st') : DOk (d__law_thing [.ref l, .lst (ws.map .str), .lst (ths.map .str)] st) Q := by
  have zw : ws.length ≤ sizeLine := sz _ (by omega)
  have zt : ths.length ≤ sizeLine := sz _ (by omega)
  have E : enter 4 [.ref l, .lst (ws.map .str), .lst (ths.map .str)] = [.val (.ref l), .val (.lst (ws.map .str)), .val (.lst (ths.map .str)), .no] := rfl
  unfold d__law_thing
  refine DOk_run ?_
  rw [E]
  unfold b__law_thing
  simp
  refine COk.of (take_ok hb (many := 6) (by decide) (by decide) fun v st1 hv hb1 F1 => ?_)
  have e0 := eqI (v := v) (j := 0)
  have e1 := eqI (v := v) (j := 1)
  by_cases h0 : v = 0
  · subst h0
    simp [e0]
    exact k .non st1 (.inl rfl) hb1 F1
  · have n0 : ¬ ((v : Int) = 0) := by omega
    by_cases h1 : v = 1
    · subst h1
      simp [e0, e1, zw]
      refine COk.of (take_ok hb1 w0 (by omega) fun u st2 hu hb2 F2 => ?_)
      obtain ⟨x, hx1, hx2⟩ := at_get (l := ws) hu
      simp [hx1]
      exact k (.later x) st2 (.inr (.inl ⟨x, hx2, rfl⟩)) hb2 (F1.trans F2)
    · have n1 : ¬ ((v : Int) = 1) := by omega
      simp [e0, e1, n0, n1, h0, h1, zt]
      refine COk.of (take_ok hb1 t0 (by omega) fun u st2 hu hb2 F2 => ?_)
      obtain ⟨x, hx1, hx2⟩ := at_get (l := ths) hu
      simp [hx1]
      exact k (.nm x) st2 (.inr (.inr ⟨x, hx2, rfl⟩)) hb2 (F1.trans F2)
def HeI (st0 : Store) (l : Nat) (ms : List Str) (way : Nat) (p : List Str) (ρ : En) (st : Store) : Prop := ∃ (lot : List Str) (a4 : Sl), ρ = [.val (.ref l), .val (.lst (ms.map .str)), .val (.int way), .ml (lot.map .str), a4] ∧ lot.Sublist p ∧ (way = 2 → lot = []) ∧ Bag st l ∧ Fr l st0 st
theorem hearers_ok {st : Store} {l : Nat} {ms : List Str} {Q : D → Store → Prop} (hb : Bag st l) (m0 : 0 < ms.length) (m1 : ms.length ≤ 1000) (nd : ms.Nodup)
    (k : ∀ (lot : List Str) (st' : Store), lot.Nodup → (∀ x ∈ lot, x ∈ ms) → Bag st' l → Fr l st st' → Q (.tup ((srt lot).map .str)) st') : DOk (d__law_hearers [.ref l, .lst (ms.map .str)] st) Q := by
  have zm : ms.length ≤ sizeLine := sz _ (by omega)
  have E : enter 5 [.ref l, .lst (ms.map .str)] = [.val (.ref l), .val (.lst (ms.map .str)), .no, .no, .no] := rfl
  unfold d__law_hearers
  refine DOk_run ?_
  rw [E]
  unfold b__law_hearers
  simp
  refine COk.of (take_ok hb (many := 4) (by decide) (by decide) fun way st1 hv hb1 F1 => ?_)
  simp
  refine SOk_forD (V := Q) D.str (HeI st l ms way) ms [] _ _ ⟨[], .no, rfl, List.Sublist.refl _, fun _ => rfl, hb1, F1⟩ ?_ ?_
  · rintro p x q ρ st2 hpq ⟨lot, a4, rfl, hs, hw, hb2, F2⟩
    refine ⟨_, rfl, ?_⟩
    have hx : x ∈ ms := by rw [show ms = p ++ x :: q from hpq]; simp
    have hl : lot.length < sizeLine := by
      have h1 := hs.length_le
      have h2 := congrArg List.length hpq
      simp at h2
      exact Nat.lt_of_le_of_lt (show lot.length ≤ 1000 by omega) (by decide)
    have e3 := eqI (v := way) (j := 3)
    have e2 := eqI (v := way) (j := 2)
    have grow : ∀ st3, Bag st3 l → Fr l st st3 → way ≠ 2 → HeI st l ms way (p ++ [x]) [.val (.ref l), .val (.lst (ms.map .str)), .val (.int way), .ml ((lot ++ [x]).map .str), .val (.str x)] st3 := fun st3 b f h => ⟨lot ++ [x], _, rfl, hs.append (List.Sublist.refl _), fun z => absurd z h, b, f⟩
    have stay : ∀ st3, Bag st3 l → Fr l st st3 → HeI st l ms way (p ++ [x]) [.val (.ref l), .val (.lst (ms.map .str)), .val (.int way), .ml (lot.map .str), .val (.str x)] st3 := fun st3 b f => ⟨lot, _, rfl, hs.trans (List.sublist_append_left _ _), hw, b, f⟩
    unfold f__law_hearers_1
    by_cases w3 : way = 3
    · subst w3
      simp [e3, hl]
      have := grow st2 hb2 F2 (by omega)
      simpa using this
    · have n3 : ¬ ((way : Int) = 3) := by omega
      by_cases w2 : way < 2
      · have n2 : (way : Int) < 2 := by omega
        simp [e3, n3, w3, n2]
        refine COk.of (take_ok hb2 (many := 3) (by decide) (by decide) fun u st3 hu hb3 F3 => ?_)
        by_cases hu2 : way < u
        · have nu : (way : Int) < (u : Int) := by omega
          simp [nu, hu2, hl]
          have := grow st3 hb3 (F2.trans F3) (by omega)
          simpa using this
        · have nu : ¬ (way : Int) < (u : Int) := by omega
          simp [nu, hu2]
          exact stay st3 hb3 (F2.trans F3)
      · have n2 : ¬ (way : Int) < 2 := by omega
        simp [e3, n3, w3, n2]
        exact stay st2 hb2 F2
  · rintro ρ st2 ⟨lot, a4, rfl, hs, hw, hb2, F2⟩
    simp only [List.nil_append] at hs
    have e2 := eqI (v := way) (j := 2)
    by_cases w2 : way = 2
    · have hlot := hw w2
      subst hlot
      subst w2
      simp [e2, zm]
      refine COk.of (take_ok hb2 m0 (by omega) fun u st3 hu hb3 F3 => ?_)
      obtain ⟨x, hx1, hx2⟩ := at_get (l := ms) hu
      have so := sortOk_strs [x]
      have ss := sort_strs [x]
      have z0 : 0 < sizeLine := by decide
      simp only [List.map_cons, List.map_nil] at so ss
      simp [hx1, z0, so, ss]
      have := k [x] st3 (by simp) (by simpa using hx2) hb3 (F2.trans F3)
      simpa using this
    · have n2 : ¬ ((way : Int) = 2) := by omega
      have so := sortOk_strs lot
      have ss := sort_strs lot
      simp [e2, n2, w2, so, ss]
      exact k lot st2 (nd.sublist hs) (fun x hx => hs.subset hx) hb2 F2
structure RwN (ws ths ms : List Str) (r : Rw) : Prop where
  th : ThN ws ths r.1
  nd : r.2.Nodup
  so : r.2.Pairwise (fun a b => sLe a b = true)
  sub : ∀ x ∈ r.2, x ∈ ms
theorem frz_th (t : Th) (st : Store) : frz (Dt.d t) st = some (Dt.d t, st) := by cases t <;> simp [Dt.d, frz, frzs]
theorem frzs_str : ∀ (l : List Str) (st : Store), frzs (l.map .str) st = some (l.map .str, st)
  | [], _ => rfl
  | x :: l, st => by simp [frzs, frz, frzs_str l st]
theorem frz_row (r : Rw) (st : Store) : frz (rowD r) st = some (rowD r, st) := by
  have h1 := frz_th r.1 st
  have h2 := frzs_str r.2 st
  simp [rowD, frz, frzs, h1, h2]
theorem frzs_rows : ∀ (rs : List Rw) (st : Store), frzs (rs.map rowD) st = some (rs.map rowD, st)
  | [], _ => rfl
  | r :: rs, st => by
    have h1 := frz_row r st
    have h2 := frzs_rows rs st
    simp [frzs, h1, h2]
theorem frzKs_dctD : ∀ (R : List (Str × List Rw)) (st : Store), frzKs (dctD R) st = some (dctD R, st)
  | [], _ => rfl
  | p :: R, st => by
    have h1 := frzs_rows p.2 st
    have h2 := frzKs_dctD R st
    unfold dctD at h2 ⊢
    simp only [rowsD] at h2
    simp [frzKs, rowsD, frz, h1, h2]
theorem putD_dctD {R : List (Str × List Rw)} {w : Str} {rs : List Rw} (h : w ∉ R.map (·.1)) : putD (dctD R) (.inr w) (rowsD rs) = dctD (R ++ [(w, rs)]) := by
  unfold putD dctD
  rw [if_neg, List.map_append]
  · rfl
  · rw [List.any_map, List.any_eq_true]
    rintro ⟨q, hq, e⟩
    simp at e
    exact h (List.mem_map.mpr ⟨q, hq, e⟩)
abbrev rwR (l m : Nat) (ws ths ms : List Str) (most : Nat) (a6 a7 a8 a9 : Sl) : En := [.val (.ref l), .val (.lst (ws.map .str)), .val (.lst (ths.map .str)), .val (.lst (ms.map .str)), .val (.int most), .val (.ref m), a6, a7, a8, a9]
def OwI (st0 : Store) (l m : Nat) (ws ths ms : List Str) (most : Nat) (R : List (Str × List Rw)) (w : Str) (q : Nat) (ρ : En) (st : Store) : Prop := ∃ (rs : List Rw) (a8 a9 : Sl), ρ = rwR l m ws ths ms most (.val (.str w)) (.ml (rs.map rowD)) a8 a9 ∧ rs.length = q ∧ (∀ r ∈ rs, RwN ws ths ms r) ∧ Bag st l ∧ Fr l st0 st ∧ st[m]? = some (.dct (dctD R))
def RoI (st0 : Store) (l m : Nat) (ws ths ms : List Str) (most : Nat) (p : List Str) (ρ : En) (st : Store) : Prop := ∃ (R : List (Str × List Rw)) (a6 a7 a8 a9 : Sl), ρ = rwR l m ws ths ms most a6 a7 a8 a9 ∧ (R.map (·.1)).Sublist p ∧ (∀ q ∈ R, q.2.length ≤ most ∧ ∀ r ∈ q.2, RwN ws ths ms r) ∧ Bag st l ∧ Fr l st0 st ∧ st[m]? = some (.dct (dctD R))
theorem rows_ok {st : Store} {l most : Nat} {ws ths ms : List Str} {Q : D → Store → Prop} (hb : Bag st l) (w0 : 0 < ws.length) (w1 : ws.length ≤ 1000) (wnd : ws.Nodup) (t0 : 0 < ths.length) (t1 : ths.length ≤ 1000) (m0 : 0 < ms.length) (m1 : ms.length ≤ 1000) (mnd : ms.Nodup) (hmost : most ≤ 1000)
    (k : ∀ (R : List (Str × List Rw)) (st' : Store), (R.map (·.1)).Sublist ws → (∀ q ∈ R, q.2.length ≤ most ∧ ∀ r ∈ q.2, RwN ws ths ms r) → Bag st' l → Fr l st st' → Q (.dlk (dctD R)) st') : DOk (d__law_rows [.ref l, .lst (ws.map .str), .lst (ths.map .str), .lst (ms.map .str), .int most] st) Q := by
  have E : enter 10 [.ref l, .lst (ws.map .str), .lst (ths.map .str), .lst (ms.map .str), .int most] = [.val (.ref l), .val (.lst (ws.map .str)), .val (.lst (ths.map .str)), .val (.lst (ms.map .str)), .val (.int most), .no, .no, .no, .no, .no] := rfl
  have hll : l < st.length := by
    obtain ⟨c, hl, _⟩ := hb
    exact (List.getElem?_eq_some_iff.mp hl).1
  have hba : Bag (st ++ [.dct []]) l := by
    obtain ⟨c, hl, h⟩ := hb
    exact ⟨c, by rw [List.getElem?_append_left hll]; exact hl, h⟩
  unfold d__law_rows
  refine DOk_run ?_
  rw [E]
  unfold b__law_rows
  simp
  refine SOk_forD (V := Q) D.str (RoI st l st.length ws ths ms most) ws [] _ _ ⟨[], .no, .no, .no, .no, rfl, by simp, by simp, hba, Fr.app _ _ _, by simp [dctD]⟩ ?_ ?_
  · rintro p w q ρ st1 hpq ⟨R, a6, a7, a8, a9, rfl, hs, hr, hb1, F1, hd⟩
    refine ⟨_, rfl, ?_⟩
    have hnew : w ∉ R.map (·.1) := fun z => by
      have h1 := hs.subset z
      have h2 : (p ++ w :: q).Nodup := hpq ▸ wnd
      exact (List.nodup_append.mp h2).2.2 w h1 w (by simp) rfl
    have hpl : p.length + 1 ≤ 1000 := by
      have := congrArg List.length hpq
      simp at this
      omega
    have hz : (dctD R).length < sizeLine := by
      have h1 := hs.length_le
      unfold dctD
      rw [List.length_map]
      rw [List.length_map] at h1
      exact Nat.lt_of_le_of_lt (show R.length ≤ 1000 by omega) (by decide)
    unfold f__law_rows_2
    simp
    have cst : ((most : Int) + 1) = ((most + 1 : Nat) : Int) := by omega
    rw [cst]
    refine COk.of (take_ok hb1 (many := most + 1) (by omega) (by omega) fun v st2 hv hb2 F2 => ?_)
    have rg : Rg (v : Int) := .of (by omega) (by omega)
    have lm : l ≠ st.length := by omega
    have hd2 : st2[st.length]? = some (.dct (dctD R)) := by rw [F2.2 _ (Ne.symm lm) (List.getElem?_eq_some_iff.mp hd).1]; exact hd
    simp [rg]
    refine SOk_rng v (OwI st l st.length ws ths ms most R w) ⟨[], a8, a9, rfl, rfl, by simp, hb2, F1.trans F2, hd2⟩ ?_ ?_
    · rintro j ρ st3 hj ⟨rs, b8, b9, rfl, hl, hn, hb3, F3, hd3⟩
      refine ⟨_, rfl, ?_⟩
      have hzl : rs.length < sizeLine := Nat.lt_of_le_of_lt (show rs.length ≤ 1000 by omega) (by decide)
      unfold f__law_rows_1
      simp
      refine COk.of (lawthing_ok hb3 w0 w1 t0 t1 fun t st4 ht hb4 F4 => ?_)
      simp
      refine COk.of (hearers_ok hb4 m0 m1 mnd fun lot st5 lnd lsub hb5 F5 => ?_)
      have hd5 : st5[st.length]? = some (.dct (dctD R)) := by
        have h4 : st4[st.length]? = some (.dct (dctD R)) := by rw [F4.2 _ (Ne.symm lm) (List.getElem?_eq_some_iff.mp hd3).1]; exact hd3
        rw [F5.2 _ (Ne.symm lm) (List.getElem?_eq_some_iff.mp h4).1]; exact h4
      simp [hzl]
      refine ⟨rs ++ [(t, srt lot)], _, _, by simp [rowD]; exact ⟨rfl, rfl⟩, by simp [hl], fun r hr' => ?_, hb5, F3.trans (F4.trans F5), hd5⟩
      rcases List.mem_append.mp hr' with z | z
      · exact hn r z
      · rw [List.mem_singleton.mp z]
        exact ⟨ht, srt_nodup lnd, srt_pw lot, fun x hx => lsub x (srt_mem.mp hx)⟩
    · rintro ρ st3 ⟨rs, b8, b9, rfl, hl, hn, hb3, F3, hd3⟩
      have put : ∀ st4, Bag st4 l → Fr l st st4 → st4[st.length]? = some (.dct (dctD R)) → RoI st l st.length ws ths ms most (p ++ [w]) (rwR l st.length ws ths ms most (.val (.str w)) (.val (.lst (rs.map rowD))) b8 b9) (st4.set st.length (.dct (dctD (R ++ [(w, rs)])))) := fun st4 b f d => by
        have hml := (List.getElem?_eq_some_iff.mp d).1
        refine ⟨R ++ [(w, rs)], _, _, _, _, rfl, ?_, fun x hx => ?_, ?_, ?_, by rw [List.getElem?_set_self hml]⟩
        · rw [List.map_append]; exact hs.append (List.Sublist.refl _)
        · rcases List.mem_append.mp hx with z | z
          · exact hr x z
          · rw [List.mem_singleton.mp z]; exact ⟨by simp only; omega, hn⟩
        · obtain ⟨c, hc, h⟩ := b
          exact ⟨c, by rw [List.getElem?_set_ne (Ne.symm lm)]; exact hc, h⟩
        · refine ⟨by rw [List.length_set]; exact f.1, fun k h1 h2 => ?_⟩
          rw [List.getElem?_set_ne (by omega)]
          exact f.2 k h1 h2
      have pe := putD_dctD (rs := rs) hnew
      unfold rowsD at pe
      cases rs with
      | nil =>
        simp
        refine COk.of (take_ok hb3 (many := 2) (by decide) (by decide) fun u st4 hu hb4 F4 => ?_)
        have e0 := eqI (v := u) (j := 0)
        have hd4 : st4[st.length]? = some (.dct (dctD R)) := by rw [F4.2 _ (Ne.symm lm) (List.getElem?_eq_some_iff.mp hd3).1]; exact hd3
        by_cases h0 : u = 0
        · subst h0
          have := put st4 hb4 (F3.trans F4) hd4
          simp only [List.map_nil] at pe this
          simp [e0, hd4, D.key, hz, pe]
          exact this
        · have n0 : ¬ ((u : Int) = 0) := by omega
          simp [e0, n0, h0]
          exact ⟨R, _, _, _, _, rfl, hs.trans (List.sublist_append_left _ _), hr, hb4, F3.trans F4, hd4⟩
      | cons r rs =>
        have := put st3 hb3 F3 hd3
        simp only [List.map_cons] at pe this
        simp [hd3, D.key, hz, pe]
        exact this
  · rintro ρ st1 ⟨R, a6, a7, a8, a9, rfl, hs, hr, hb1, F1, hd⟩
    have fz := frzKs_dctD R st1
    have lm : l ≠ st.length := by omega
    simp [hd, fz]
    refine k R _ (by simpa using hs) hr ?_ ?_
    · obtain ⟨c, hc, h⟩ := hb1
      exact ⟨c, by rw [List.getElem?_set_ne (Ne.symm lm)]; exact hc, h⟩
    · refine ⟨by rw [List.length_set]; exact F1.1, fun j h1 h2 => ?_⟩
      rw [List.getElem?_set_ne (by omega)]
      exact F1.2 j h1 h2
@[simp] theorem COk_ok {d : D} {ρ ρ' : En} {st : Store} {P : D → En → Store → Prop} : COk (.ok d ρ' st) ρ P ↔ P d ρ st := Iff.rfl
theorem pIn_lst {n : Bool} {p : Str} {xs : List Str} (hp : okS p) (hx : ∀ x ∈ xs, okS x) : pInX n (.str p) (.lst (xs.map .str)) = some (.bl (if n then !decide (p ∈ xs) else decide (p ∈ xs))) := pInX_lst (α := Str) hp hx
inductive AnyD : D → Prop
  | non : AnyD .non
  | bl (b : Bool) : AnyD (.bl b)
  | int (i : Int) : AnyD (.int i)
  | str {s : Str} : okS s → s.length ≤ 1000 → AnyD (.str s)
  | lst {ds : List D} : ds.length ≤ 100 → (∀ d ∈ ds, AnyD d) → AnyD (.lst ds)
  | tup {ds : List D} : ds.length ≤ 60 → (∀ d ∈ ds, AnyD d) → AnyD (.tup ds)
  | dct (kvs : List (Key × D)) : AnyD (.dct kvs)
open Classical in
noncomputable def isNm : D → Bool
  | .str s => decide (NameS s)
  | _ => false
theorem nameS_iff (s : Str) : NameS s ↔ 1 ≤ s.length ∧ s.length ≤ 8 ∧ ∀ c ∈ s.cps.toList, c ∈ LET.cps.toList := ⟨fun h => ⟨h.lo, h.hi, h.low⟩, fun ⟨a, b, c⟩ => ⟨a, b, c⟩⟩
theorem bools_map {α : Type} (p : α → Bool) : ∀ l : List α, bools (l.map fun x => D.bl (p x)) = some (l.map p)
  | [] => rfl
  | x :: l => by simp [bools, bools_map p l]
theorem isNm_str {s : Str} : isNm (.str s) = (decide (1 ≤ s.length) && decide (s.length ≤ 8) && s.cps.toList.all fun c => decide (c ∈ LET.cps.toList)) := by
  unfold isNm
  rw [Bool.eq_iff_iff]
  simp only [decide_eq_true_eq, nameS_iff, Bool.and_eq_true, List.all_eq_true]
  exact ⟨fun ⟨a, b, c⟩ => ⟨⟨a, b⟩, c⟩, fun ⟨⟨a, b⟩, c⟩ => ⟨a, b, c⟩⟩
theorem is_name_any {d : D} (h : AnyD d) (st : Store) : d_is_name [d] st = .ok (.bl (isNm d)) [] st := by
  refine DOk.eq ?_
  unfold d_is_name
  refine DOk_run ?_
  unfold b_is_name
  cases h with
  | str ok hl =>
    rename_i s
    rw [isNm_str]
    have z1 : s.length ≤ sizeLine := by rw [sizeLine_eq]; omega
    have z2 : s.cps.size ≤ sizeLine := z1
    by_cases h1 : 1 ≤ s.length
    · by_cases h2 : s.length ≤ 8
      · have l1 : (1 : Int) ≤ (s.length : Int) := by omega
        have l2 : (s.length : Int) ≤ 8 := by omega
        simp [l1, l2, h1, h2, z1, z2]
        refine EOk_lcM (fun c => D.str ⟨#[c]⟩) (fun c => .bl (decide (c ∈ LET.cps.toList))) s.cps.toList (fun c hc => ⟨_, rfl, ?_⟩) ?_
        · have hi : pInX false (.str ⟨#[c]⟩) (.str ("abcdefghijklmnopqrstuvwxyz" : Str)) = some (.bl (decide (c ∈ LET.cps.toList))) := rfl
          simp [e_is_name_1, hi]
        · have := pAll_map s.cps.toList (fun c => decide (c ∈ LET.cps.toList))
          simp [this]
      · have l1 : (1 : Int) ≤ (s.length : Int) := by omega
        have l2 : ¬ (s.length : Int) ≤ 8 := by omega
        simp [l1, l2, h1, h2, z1, z2]
    · have l1 : ¬ (1 : Int) ≤ (s.length : Int) := by omega
      simp [l1, h1, z1, z2]
  | _ => simp [isNm, seen]
theorem lis_name_any {d : D} (h : AnyD d) (st : Store) : d__law_is_name [d] st = .ok (.bl (isNm d)) [] st := by
  refine DOk.eq ?_
  unfold d__law_is_name
  refine DOk_run ?_
  unfold b__law_is_name
  cases h with
  | str ok hl =>
    rename_i s
    rw [isNm_str]
    have z1 : s.length ≤ sizeLine := by rw [sizeLine_eq]; omega
    have z2 : s.cps.size ≤ sizeLine := z1
    by_cases h1 : 1 ≤ s.length
    · by_cases h2 : s.length ≤ 8
      · have l1 : ¬ (s.length : Int) < 1 := by omega
        have l2 : ¬ (8 : Int) < (s.length : Int) := by omega
        simp [l1, l2, h1, h2, z1, z2]
        refine EOk_lcP (fun c => D.str ⟨#[c]⟩) (fun c => !decide (c ∈ LET.cps.toList)) (fun c => D.str ⟨#[c]⟩) s.cps.toList [] (fun c hc => ⟨_, rfl, ?_⟩) ?_
        · have hi : pInX true (.str ⟨#[c]⟩) (.str ("abcdefghijklmnopqrstuvwxyz" : Str)) = some (.bl (!decide (c ∈ LET.cps.toList))) := rfl
          simp [t__law_is_name_1, hi]
        · simp
          rw [Bool.eq_iff_iff]
          simp [List.isEmpty_iff, List.filter_eq_nil_iff]
          exact ⟨fun h i hi => h _ (Array.getElem_mem hi), fun h a ha => by obtain ⟨i, hi, rfl⟩ := Array.getElem_of_mem ha; exact h i hi⟩
      · have l1 : ¬ (s.length : Int) < 1 := by omega
        have l2 : (8 : Int) < (s.length : Int) := by omega
        simp [l1, l2, h1, h2, z1, z2]
    · have l1 : (s.length : Int) < 1 := by omega
      simp [l1, h1, z1, z2]
  | _ => simp [isNm, seen]
open Classical in
noncomputable def grp56 : D → Option (List Str)
  | .tup ds => match strL ds with
    | some xs => if xs ≠ [] ∧ (∀ x ∈ xs, NameS x) ∧ sst xs = xs then some xs else none
    | none => none
  | _ => none
theorem strL_mapY : ∀ ys : List Str, strL (ys.map D.str) = some ys
  | [] => rfl
  | y :: ys => by simp [strL, strL_mapY ys]
theorem strL_inv : ∀ {ds : List D} {xs : List Str}, strL ds = some xs → ds = xs.map D.str
  | [], xs, h => by cases h; rfl
  | d :: ds, xs, h => by
    cases d with
    | str z =>
      simp only [strL, Option.map_eq_some_iff] at h
      obtain ⟨ys, e, rfl⟩ := h
      rw [strL_inv e]
      rfl
    | _ => simp [strL] at h
theorem all_nm : ∀ {ds : List D}, (ds.all isNm = true) → ∃ xs : List Str, ds = xs.map D.str ∧ ∀ x ∈ xs, NameS x
  | [], _ => ⟨[], rfl, fun x h => by cases h⟩
  | d :: ds, h => by
    rw [List.all_cons, Bool.and_eq_true] at h
    obtain ⟨xs, e, hx⟩ := all_nm h.2
    cases d with
    | str z =>
      have hz : NameS z := by have := h.1; unfold isNm at this; simpa using this
      exact ⟨z :: xs, by rw [e]; rfl, fun x hx' => by
        rcases List.mem_cons.mp hx' with rfl | hx'
        · exact hz
        · exact hx x hx'⟩
    | _ => cases h.1
open Classical in
theorem grp_not {ds : List D} (h : ds.all isNm = false) : grp56 (.tup ds) = none := by
  show (match strL ds with
    | some xs => if xs ≠ [] ∧ (∀ x ∈ xs, NameS x) ∧ sst xs = xs then some xs else none
    | none => none) = none
  cases e : strL ds with
  | none => rfl
  | some xs =>
    refine if_neg ?_
    rintro ⟨_, h2, _⟩
    rw [strL_inv e] at h
    have : ((xs.map D.str).all isNm) = true := List.all_eq_true.mpr fun d hd => by
      obtain ⟨x, hx, rfl⟩ := List.mem_map.mp hd
      unfold isNm
      simpa using h2 x hx
    rw [this] at h
    cases h
open Classical in
theorem grp_yes {xs : List Str} (h1 : xs ≠ []) (h2 : ∀ x ∈ xs, NameS x) : grp56 (.tup (xs.map .str)) = if sst xs = xs then some xs else none := by
  show (match strL (xs.map D.str) with
    | some xs => if xs ≠ [] ∧ (∀ x ∈ xs, NameS x) ∧ sst xs = xs then some xs else none
    | none => none) = _
  rw [strL_mapY]
  by_cases h : sst xs = xs
  · simp only [if_pos h]
    exact if_pos ⟨h1, h2, h⟩
  · simp only [if_neg h]
    exact if_neg fun ⟨_, _, h3⟩ => h h3
theorem pEqO_strs {a b : List Str} (ha : ∀ x ∈ a, okS x) (hb : ∀ x ∈ b, okS x) : pEqO (.lst (a.map .str)) (.lst (b.map .str)) = some (.bl (decide (a = b))) := by
  have sc : (b.map D.str).all isSc = true := List.all_eq_true.mpr fun d hd => by obtain ⟨x, _, rfl⟩ := List.mem_map.mp hd; rfl
  have one : ∀ x y : Str, okS x → okS y → eqAS (.str x) (.str y) = some (decide (x = y)) := fun x y hx hy => by
    have h : pEq (.str x) (.str y) = some (.bl (decide (x = y))) := pEq_dt (α := Str) hx hy
    unfold pEq at h
    unfold eqAS
    simp only [isSc, isCt, if_true, Bool.false_eq_true, if_false]
    cases e : pEqB (.str x) (.str y) with
    | none => rw [e] at h; cases h
    | some b => rw [e] at h; simpa using h
  have key : ∀ (a b : List Str), (∀ x ∈ a, okS x) → (∀ x ∈ b, okS x) → a.length = b.length → eqLS (a.map .str) (b.map .str) = some (decide (a = b)) := by
    intro a
    induction a with
    | nil => intro b _ _ hl; cases b with
      | nil => rfl
      | cons _ _ => cases hl
    | cons x a ih =>
      intro b ha hb hl
      cases b with
      | nil => cases hl
      | cons y b =>
        have h1 := one x y (ha x (List.mem_cons_self ..)) (hb y (List.mem_cons_self ..))
        have h2 := ih b (fun z hz => ha z (List.mem_cons_of_mem _ hz)) (fun z hz => hb z (List.mem_cons_of_mem _ hz)) (by simpa using hl)
        rw [List.map_cons, List.map_cons, eqLS, h1, h2]
        simp
  unfold pEqO pEqOB
  simp only
  rw [if_pos sc]
  by_cases hl : a.length = b.length
  · rw [if_pos (by simpa using hl), key a b ha hb hl]
    rfl
  · rw [if_neg (by simpa using hl)]
    have : a ≠ b := fun e => hl (by rw [e])
    simp [this]
theorem EOk_lcMi {g : DGx} {f : DEx} {vs : List Nat} {P : D → En → Store → Prop} {ρ : En} {st : Store} (r : D → D) (xs : List D)
    (h : ∀ x ∈ xs, ∃ ρ1, g x ρ = some ρ1 ∧ EOk (f ρ1 st) (k_lcb vs ρ st (r x))) (hd : P (.lst (xs.map r)) ρ st) : EOk (lcGo g yesD f vs xs [] ρ st) P := by
  have := EOk_lcM (fun d : D => d) r xs h hd
  rw [List.map_id'] at this
  exact this
theorem are_names_any {d : D} (h : AnyD d) (st : Store) : d_are_names [d] st = .ok (.bl (grp56 d).isSome) [] st := by
  refine DOk.eq ?_
  unfold d_are_names
  refine DOk_run ?_
  unfold b_are_names
  cases h with
  | tup hl ha =>
    rename_i ds
    have z1 : ds.length ≤ sizeLine := by rw [sizeLine_eq]; omega
    have e0 : pEqO (.int (ds.length : Int)) (.int 0) = some (.bl (decide (ds.length = 0))) := by
      have h : pEq (.int (ds.length : Int)) (.int 0) = some (.bl (decide ((ds.length : Int) = 0))) := pEq_dt (α := Int) trivial trivial
      have e : pEqO (.int (ds.length : Int)) (.int 0) = pEq (.int (ds.length : Int)) (.int 0) := rfl
      rw [e, h]
      congr 2
      exact decide_eq_decide.mpr (by omega)
    by_cases hn : ds.length = 0
    · have : ds = [] := List.eq_nil_of_length_eq_zero hn
      subst this
      have e00 : pEqO (.int 0) (.int 0) = some (.bl true) := by
        have h : pEq (.int 0) (.int 0) = some (.bl (decide ((0 : Int) = 0))) := pEq_dt (α := Int) trivial trivial
        exact h
      simp [e00, grp56, strL]
    · simp [e0, hn, z1]
      refine EOk_lcMi (fun d => .bl (isNm d)) ds (fun d hd => ⟨_, rfl, ?_⟩) ?_
      · simp [e_are_names_1, is_name_any (ha d hd)]
      · have := pAll_map ds isNm
        simp [this]
        by_cases hall : ds.all isNm = true
        · obtain ⟨xs, e, hx⟩ := all_nm hall
          subst e
          have hne : xs ≠ [] := fun e => hn (by rw [e]; rfl)
          rw [grp_yes hne hx]
          have l64 : xs.length < 64 := by simp at hl; omega
          have eq := pEqO_strs (a := xs) (b := sst xs) (fun x h => (hx x h).ok) (fun x h => (hx x (sst_mem.mp h)).ok)
          have hnm : ∀ x ∈ xs, isNm (.str x) = true := fun x h => by unfold isNm; simpa using hx x h
          simp [strL_mapY, l64, eq]
          try (refine ⟨fun h => ?_, fun _ => ?_⟩)
          by_cases h : sst xs = xs
          · simp [h]
            exact hnm
          · have h' : ¬ xs = sst xs := fun e => h e.symm
            simp [h, h']
        · have hall : ds.all isNm = false := by simpa using hall
          rw [grp_not hall]
          simp
          intro h
          have : ds.all isNm = true := List.all_eq_true.mpr h
          rw [hall] at this
          cases this
  | _ => simp [grp56]
theorem pGe_str (a b : Str) : pGeX (.str a) (.str b) = some (.bl (sLe b a)) := by
  simp [ordB, D.py, PySem.W.alike, PyData.depth]
  have : sLe b a = !PySem.W.dataLt (.str a) (.str b) := rfl
  rw [this, Bool.not_not]
theorem asc_pair {xs : List Str} (h : sst xs = xs) {k : Nat} (hk : k + 1 < xs.length) : sLe xs[k + 1] xs[k] = false := by
  have pw := sst_pw xs
  have nd := sst_nodup xs
  rw [h] at pw nd
  cases e : sLe xs[k + 1] xs[k] with
  | false => rfl
  | true =>
    have h1 := List.pairwise_iff_getElem.mp pw k (k + 1) (by omega) hk (by omega)
    have h2 := List.pairwise_iff_getElem.mp nd k (k + 1) (by omega) hk (by omega)
    exact absurd (sLe_anti _ _ h1 e) h2
theorem asc_all : ∀ {xs : List Str}, (∀ k (hk : k + 1 < xs.length), sLe xs[k + 1] xs[k] = false) → xs.Pairwise (fun a b => sLe b a = false)
  | [], _ => .nil
  | [x], _ => List.pairwise_singleton _ _
  | x :: y :: xs, h => by
    have ih := asc_all (xs := y :: xs) fun k hk => by
      have := h (k + 1) (by simpa using hk)
      simpa using this
    have h0 : sLe y x = false := by have := h 0 (by simp); simpa using this
    refine List.pairwise_cons.mpr ⟨fun z hz => ?_, ih⟩
    rcases List.mem_cons.mp hz with rfl | hz
    · exact h0
    · have h1 := (List.pairwise_cons.mp ih).1 z hz
      cases e : sLe z x with
      | false => rfl
      | true =>
        have t := sLe_total
        have xy : sLe x y = true := by
          have := t.total x y
          rw [h0] at this
          simpa using this
        have := t.trans z x y e xy
        rw [h1] at this
        cases this
theorem asc_sst {xs : List Str} (h : ∀ k (hk : k + 1 < xs.length), sLe xs[k + 1] xs[k] = false) : sst xs = xs := by
  have p := asc_all h
  refine sst_id ?_ ?_
  · refine p.imp fun {a b} hab e => ?_
    subst e
    have := sLe_total.total a a
    rw [hab] at this
    simp at this
  · refine p.imp fun {a b} hab => ?_
    have := sLe_total.total a b
    rw [hab] at this
    simpa using this
theorem lare_names_any {d : D} (h : AnyD d) (st : Store) : d__law_are_names [d] st = .ok (.bl (grp56 d).isSome) [] st := by
  refine DOk.eq ?_
  unfold d__law_are_names
  refine DOk_run ?_
  unfold b__law_are_names
  cases h with
  | tup hl ha =>
    rename_i ds
    have e0 : pEqO (.tup ds) (.tup []) = some (.bl ds.isEmpty) := rfl
    cases ds with
    | nil =>
      simp [e0, grp56, strL]
    | cons d0 ds0 =>
      have r1 : Rg ((((d0 :: ds0).length : Nat)) : Int) := .of (by omega) (by simp at hl ⊢; omega)
      generalize hds : d0 :: ds0 = ds at *
      have hne : ds ≠ [] := by rw [← hds]; simp
      have e1 : pEqO (.tup ds) (.tup []) = some (.bl false) := by rw [e0, ← hds]; rfl
      simp [e1, r1]
      refine SOk_rng ds.length (fun q ρ st' => st' = st ∧ ∃ x1, ρ = [.val (.tup ds), x1] ∧ (∀ j (hj : j < ds.length), j < q → isNm ds[j] = true) ∧ ∀ j (hj : j + 1 < ds.length), j + 1 < q → ∀ a b, ds[j] = .str a → ds[j + 1] = .str b → sLe b a = false) ⟨rfl, _, rfl, by omega, by omega⟩ ?_ ?_
      · rintro q ρ st' hq ⟨rfl, x1, rfl, h1, h2⟩
        refine ⟨_, rfl, ?_⟩
        unfold f__law_are_names_1
        have hq' : q < ds.length := hq
        have ix : ds[q]? = some ds[q] := List.getElem?_eq_getElem hq
        have nm := lis_name_any (ha ds[q] (List.getElem_mem hq)) st'
        simp [ix, nm]
        cases en : isNm ds[q] with
        | false =>
          have : ds.all isNm = false := by
            cases e : ds.all isNm with
            | false => rfl
            | true => rw [List.all_eq_true.mp e _ (List.getElem_mem hq)] at en; cases en
          simp [grp_not this]
        | true =>
          by_cases q0 : q = 0
          · subst q0
            simp
            intro j hj e
            subst e
            exact en
          · obtain ⟨p, rfl⟩ : ∃ p, q = p + 1 := ⟨q - 1, by omega⟩
            have hp := h1 p (by omega) (by omega)
            obtain ⟨z, hz⟩ : ∃ z, ds[p + 1] = .str z := by
              cases e : ds[p + 1] with
              | str z => exact ⟨z, rfl⟩
              | _ => rw [e] at en; cases en
            obtain ⟨y, hy⟩ : ∃ y, ds[p]'(by omega) = .str y := by
              cases e : ds[p]'(by omega) with
              | str z => exact ⟨z, rfl⟩
              | _ => rw [e] at hp; cases hp
            have ix1 : ds[p]? = some (.str y) := by rw [List.getElem?_eq_getElem (by omega), hy]
            have ix2 : ds[p + 1]? = some (.str z) := by rw [ix, hz]
            have cst1 : ((p : Int) + 1) = ((p + 1 : Nat) : Int) := by omega
            have ge : ordB (fun d e => !PySem.W.dataLt d e) (.str y) (.str z) = some (.bl (sLe z y)) := pGe_str y z
            have ix3 : atI ds ((p : Int) + 1) = some (.str z) := by rw [cst1, DL.atI_nat, ix2]
            simp [ix1, ix3, ge]
            cases es : sLe z y with
            | true =>
              have gn : grp56 (.tup ds) = none := by
                cases hall : ds.all isNm with
                | false => exact grp_not hall
                | true =>
                  obtain ⟨xs, e, hx⟩ := all_nm hall
                  subst e
                  rw [grp_yes (fun e => hne (by rw [e]; rfl)) hx]
                  refine if_neg fun as => ?_
                  have := asc_pair as (k := p) (by simpa using hq)
                  simp at hy hz
                  rw [hy, hz, es] at this
                  cases this
              simp [gn]
            | false =>
              simp [es]
              refine ⟨fun j hj hjq => ?_, fun j hj hjq a b ha' hb' => ?_⟩
              · by_cases e : j = p + 1
                · subst e; exact en
                · exact h1 j hj (by omega)
              · by_cases e : j = p
                · subst e
                  rw [hy] at ha'; rw [hz] at hb'
                  cases ha'; cases hb'
                  exact es
                · exact h2 j hj (by omega) a b ha' hb'
      · rintro ρ st' ⟨rfl, x1, rfl, h1, h2⟩
        have hall : ds.all isNm = true := List.all_eq_true.mpr fun d hd => by
          obtain ⟨j, hj, rfl⟩ := List.getElem_of_mem hd
          exact h1 j hj hj
        obtain ⟨xs, e, hx⟩ := all_nm hall
        subst e
        have hne' : xs ≠ [] := fun e => hne (by rw [e]; rfl)
        have as : sst xs = xs := asc_sst fun k hk => h2 k (by simpa using hk) (by simpa using hk) _ _ (by simp) (by simp)
        simp [grp_yes hne' hx, as]
  | _ => simp [grp56]
def isS (w : Str) : D → Bool
  | .str s => decide (s = w)
  | _ => false
def isI (k : Int) : D → Bool
  | .int j => decide (j = k)
  | .bl b => decide ((if b then (1 : Int) else 0) = k)
  | _ => false
theorem eqAS_str {d : D} (h : AnyD d) {w : Str} (hw : okS w) : eqAS d (.str w) = some (isS w d) := by
  have sw : SeqAt.shaped (.str w) = true := by
    unfold SeqAt.shaped
    rw [Bool.and_eq_true]
    exact ⟨okS_lay hw, decide_eq_true (by simp [PyData.depth])⟩
  cases h with
  | str ok hl =>
    rename_i s
    have ss : SeqAt.shaped (.str s) = true := by
      unfold SeqAt.shaped
      rw [Bool.and_eq_true]
      exact ⟨okS_lay ok, decide_eq_true (by simp [PyData.depth])⟩
    have e : PyData.eqv (.str s) (.str w) = decide (s = w) := Dt.eqv (α := Str) s w
    simp [eqAS, isSc, isCt, pEqB, D.py, ss, sw, isS, e]
  | _ => first | (simp [eqAS, isSc, isCt, pEqB, D.py, isS, sw, PyData.eqv]; rfl) | simp [eqAS, isSc, isCt, pEqB, D.py, isS, sw, PyData.eqv]
theorem eqAS_int {d : D} (h : AnyD d) (k : Int) : eqAS d (.int k) = some (isI k d) := by
  have sw : SeqAt.shaped (.int k) = true := rfl
  cases h with
  | str ok hl =>
    rename_i s
    have ss : SeqAt.shaped (.str s) = true := by
      unfold SeqAt.shaped
      rw [Bool.and_eq_true]
      exact ⟨okS_lay ok, decide_eq_true (by simp [PyData.depth])⟩
    simp [eqAS, isSc, isCt, pEqB, D.py, ss, sw, isI, PyData.eqv]
  | bl b => cases b <;> simp [eqAS, isSc, isCt, pEqB, D.py, isI, sw, PyData.eqv, show SeqAt.shaped (.bool true) = true from rfl, show SeqAt.shaped (.bool false) = true from rfl] <;> (rw [Bool.eq_iff_iff]; simp)
  | int i =>
    have si : SeqAt.shaped (.int i) = true := rfl
    simp [eqAS, isSc, isCt, pEqB, D.py, isI, sw, si, PyData.eqv]
    try (rw [Bool.eq_iff_iff]; simp)
  | non =>
    have si : SeqAt.shaped .none = true := rfl
    simp [eqAS, isSc, isCt, pEqB, D.py, isI, sw, si, PyData.eqv]
  | _ => simp [eqAS, isSc, isCt, isI]
theorem pEqO_sc {d e : D} {b : Bool} (hs : isSc e = true) (h : eqAS d e = some b) : pEqO d e = some (.bl b) ∧ pNeO d e = some (.bl (!b)) := by
  have key : pEqOB d e = some b := by
    unfold eqAS at h
    rw [if_pos hs] at h
    have g : pEqOB d e = if isCt d ∧ isSc e then some false else pEqB d e := by
      unfold pEqOB
      split
      · cases hs
      · cases hs
      · rfl
    rw [g]
    split at h
    · rename_i hc
      rw [if_pos ⟨hc, hs⟩]
      exact h
    · rename_i hc
      rw [if_neg fun x => hc x.1]
      split at h
      · exact h
      · cases h
  unfold pEqO pNeO
  rw [key]
  exact ⟨rfl, rfl⟩
theorem neO_str {d : D} (h : AnyD d) {w : Str} (hw : okS w) : pNeO d (.str w) = some (.bl (!isS w d)) := (pEqO_sc rfl (eqAS_str h hw)).2
theorem neO_int {d : D} (h : AnyD d) (k : Int) : pNeO d (.int k) = some (.bl (!isI k d)) := (pEqO_sc rfl (eqAS_int h k)).2
@[simp] def k_chb (p p' : D → D → Option D) (h : DEx) (P : D → En → Store → Prop) (d e : D) (ρ : En) (st : Store) : Prop := EOk (match p d e with
  | some (.bl true) => (h ρ st).bind fun z ρ st => match p' e z with
    | some y => .ok y ρ st
    | none => .bad
  | some (.bl false) => .ok (.bl false) ρ st
  | _ => .bad) P
@[simp] def k_cha (p p' : D → D → Option D) (g h : DEx) (P : D → En → Store → Prop) (d : D) (ρ : En) (st : Store) : Prop := EOk (g ρ st) (k_chb p p' h P d)
@[simp ↓] theorem EOk_chain {p p' : D → D → Option D} {f g h : DEx} {ρ : En} {st : Store} {P : D → En → Store → Prop} : EOk (chainD p p' f g h ρ st) P ↔ EOk (f ρ st) (k_cha p p' g h P) :=
  (EOk_bind _ _).trans ⟨fun z => z.mono fun _ _ _ => (EOk_bind _ _).mp, fun z => z.mono fun _ _ _ => (EOk_bind _ _).mpr⟩
def tupN (n : Nat) : D → Bool
  | .tup ds => decide (ds.length = n)
  | _ => false
def pT (q : D × D) : D := .tup [q.1, q.2]
theorem is_tup_any {d : D} (h : AnyD d) (n : Nat) (st : Store) : d_is_tuple_of [d, .int (n : Int)] st = .ok (.bl (tupN n d)) [] st := by
  refine DOk.eq ?_
  unfold d_is_tuple_of
  refine DOk_run ?_
  unfold b_is_tuple_of
  cases h with
  | tup hl ha => simp [tupN]; omega
  | _ => simp [tupN, seen]
def isNon : D → Bool
  | .non => true
  | _ => false
theorem pairs_of : ∀ {ds : List D}, ds.all (tupN 2) = true → (∀ d ∈ ds, AnyD d) → ∃ qs : List (D × D), ds = qs.map pT ∧ ∀ q ∈ qs, AnyD q.1 ∧ AnyD q.2
  | [], _, _ => ⟨[], rfl, fun q h => by cases h⟩
  | d :: ds, h, ha => by
    rw [List.all_cons, Bool.and_eq_true] at h
    obtain ⟨qs, e, hq⟩ := pairs_of h.2 fun x hx => ha x (List.mem_cons_of_mem _ hx)
    have h1 := h.1
    have hd := ha d (List.mem_cons_self ..)
    cases d with
    | tup es =>
      unfold tupN at h1
      match es, h1, hd with
      | [a, b], _, hd =>
        cases hd with
        | tup _ hab =>
          refine ⟨(a, b) :: qs, by rw [e]; rfl, fun q hq' => ?_⟩
          rcases List.mem_cons.mp hq' with rfl | hq'
          · exact ⟨hab a (by simp), hab b (by simp)⟩
          · exact hq q hq'
      | [], h1, _ => simp at h1
      | [_], h1, _ => simp at h1
      | _ :: _ :: _ :: _, h1, _ => simp at h1
    | _ => cases h1
theorem inO_strL (n : Bool) {p : Str} {xs : List Str} (hp : okS p) (hx : ∀ x ∈ xs, okS x) : pInO n (.str p) (.lst (xs.map .str)) = some (.bl (if n then !decide (p ∈ xs) else decide (p ∈ xs))) := by
  have : pInO n (.str p) (.lst (xs.map .str)) = pInX n (.str p) (.lst (xs.map .str)) := by
    unfold pInO
    simp only
    rw [if_neg fun h => by cases h.1]
  rw [this]
  exact pIn_lst hp hx

theorem isN_any (n : Bool) {d : D} (h : AnyD d) : pIs n d .non = some (.bl (if n then !isNon d else isNon d)) := by
  cases h <;> rfl
theorem pNeO_th {a b : Th} (ha : Dt.ok a) (hb : Dt.ok b) : pNeO (Dt.d a) (Dt.d b) = some (.bl (!decide (a = b))) := by
  have h : pNe (Dt.d a) (Dt.d b) = some (.bl (!decide (a = b))) := pNe_dt ha hb
  have key : ∀ d e : D, ¬ (isCt d = true ∧ isSc e = true) → (∀ ds es, ¬ (d = .lst ds ∧ e = .lst es)) → (∀ ds, ¬ (d = .tup ds ∧ e = .tup [])) → pNeO d e = pNe d e := fun d e h1 h2 h3 => by
    unfold pNeO pNe pEqOB
    split
    · exact absurd ⟨rfl, rfl⟩ (h2 _ _)
    · exact absurd ⟨rfl, rfl⟩ (h3 _)
    · rw [if_neg h1]
  cases a with
  | later w =>
    cases b with
    | later v => rw [← h]; exact key _ _ (fun x => by cases x.2) (fun _ _ x => by cases x.1) (fun _ x => by cases x.2)
    | nm v => rfl
    | non => rfl
  | nm w => rw [← h]; exact key _ _ (fun x => by cases x.1) (fun _ _ x => by cases x.1) (fun _ x => by cases x.1)
  | non => rw [← h]; exact key _ _ (fun x => by cases x.1) (fun _ _ x => by cases x.1) (fun _ x => by cases x.1)
theorem neO_nat (a b : Nat) : pNeO (.int (a : Int)) (.int (b : Int)) = some (.bl (!decide (a = b))) := by
  have h := neO_int (AnyD.int (a : Int)) (b : Int)
  rw [h]
  unfold isI
  congr 2
  exact congrArg _ (decide_eq_decide.mpr (by omega))
theorem grp_inv {g : D} {P : List Str} (h : grp56 g = some P) : g = .tup (P.map .str) ∧ P ≠ [] ∧ (∀ x ∈ P, NameS x) := by
  unfold grp56 at h
  split at h
  · rename_i ds
    split at h
    · rename_i xs e
      split at h
      · rename_i c
        cases h
        exact ⟨by rw [strL_inv e], c.1, c.2.1⟩
      · cases h
    · cases h
  · cases h
@[simp] theorem th56_later {w : Str} : Dt.d (Th.later w) = D.tup [.str "later", .str w] := rfl
@[simp] theorem th56_nm {w : Str} : Dt.d (Th.nm w) = D.str w := rfl
@[simp] theorem th56_non : Dt.d Th.non = D.non := rfl
noncomputable def famOne (ms : List Str) (d : D) : Bool := match grp56 d with
  | some P => P.all fun x => decide (x ∈ ms)
  | none => false
noncomputable def famB (ms : List Str) : D → Bool
  | .lst ds => (decide (1 ≤ ds.length) && decide (ds.length ≤ 64)) && ds.all (famOne ms)
  | _ => false
noncomputable def calOne : D → Bool
  | .tup [w, s] => isNm w && (isNon s || isNm s)
  | _ => false
noncomputable def calB : D → Bool
  | .lst ds => ds.all calOne
  | _ => false
theorem grp_len {d : D} (h : AnyD d) {P : List Str} (e : grp56 d = some P) : P.length ≤ 60 := by
  obtain ⟨rfl, _, _⟩ := grp_inv e
  cases h with
  | tup hl _ => simpa using hl
theorem is_family_any {d : D} (h : AnyD d) {ms : List Str} (hm : ∀ x ∈ ms, okS x) (st : Store) : d_is_family_of [d, .lst (ms.map .str)] st = .ok (.bl (famB ms d)) [] st := by
  refine DOk.eq ?_
  unfold d_is_family_of
  refine DOk_run ?_
  unfold b_is_family_of
  cases h with
  | lst hl ha =>
    rename_i ds
    have z1 : ds.length ≤ sizeLine := by rw [sizeLine_eq]; omega
    by_cases h1 : 1 ≤ ds.length
    · have l1 : (1 : Int) ≤ (ds.length : Int) := by omega
      by_cases h2 : ds.length ≤ 64
      · have l2 : (ds.length : Int) ≤ 64 := by omega
        have ef : famB ms (.lst ds) = ds.all (famOne ms) := by simp [famB, h1, h2]
        rw [ef]
        simp [l1, l2, h1, h2, z1]
        refine EOk_lcMi (fun d => .bl (famOne ms d)) ds (fun d hd => ⟨_, rfl, ?_⟩) ?_
        · have an := are_names_any (ha d hd) st
          unfold e_is_family_of_2
          cases hg : grp56 d with
          | none =>
            rw [hg] at an
            simp at an
            simp [an, famOne, hg]
          | some P =>
            rw [hg] at an
            simp at an
            have hP := grp_len (ha d hd) hg
            obtain ⟨rfl, _, hN⟩ := grp_inv hg
            have z2 : P.length ≤ sizeLine := by rw [sizeLine_eq]; omega
            have ef1 : famOne ms (.tup (P.map .str)) = P.all fun x => decide (x ∈ ms) := by simp [famOne, hg]
            rw [ef1]
            simp [an, z2]
            refine EOk_lcM D.str (fun p => .bl (decide (p ∈ ms))) P (fun p hp => ⟨_, rfl, ?_⟩) ?_
            · have pin := inO_strL false (hN p hp).ok hm
              simp at pin
              simp [e_is_family_of_1, pin]
            · have pa := pAll_map P (fun p => decide (p ∈ ms))
              simp only [k_EOk_lift1, pa, EOk_ok]
              simp
        · have pa := pAll_map ds (famOne ms)
          simp only [k_EOk_lift1, pa, EOk_ok]
          simp
      · have l2 : ¬ (ds.length : Int) ≤ 64 := by omega
        simp [l1, l2, h1, h2, z1, famB]
    · have l1 : ¬ (1 : Int) ≤ (ds.length : Int) := by omega
      simp [l1, h1, z1, famB]
  | _ => simp [famB, seen]
theorem calB_not {ds : List D} (h : ds.all (tupN 2) = false) : ds.all calOne = false := by
  rw [List.all_eq_false] at h ⊢
  obtain ⟨d, hd, hn⟩ := h
  refine ⟨d, hd, fun hc => hn ?_⟩
  unfold calOne at hc
  split at hc
  · rfl
  · cases hc
theorem are_calls_any {d : D} (h : AnyD d) (st : Store) : d_are_calls [d] st = .ok (.bl (calB d)) [] st := by
  refine DOk.eq ?_
  unfold d_are_calls
  refine DOk_run ?_
  unfold b_are_calls
  cases h with
  | lst hl ha =>
    rename_i ds
    have z1 : ds.length ≤ sizeLine := by rw [sizeLine_eq]; omega
    have ec : calB (.lst ds) = ds.all calOne := rfl
    rw [ec]
    simp [z1]
    refine EOk_lcMi (fun d => .bl (tupN 2 d)) ds (fun d hd => ⟨_, rfl, ?_⟩) ?_
    · have := is_tup_any (ha d hd) 2 st
      simp at this
      simp [e_are_calls_2, this]
    · have pa := pAll_map ds (tupN 2)
      cases hall : ds.all (tupN 2) with
      | false =>
        rw [hall] at pa
        simp only [k_EOk_lift1, pa, EOk_ok, k_EOk_not]
        simp [calB_not hall]
      | true =>
        rw [hall] at pa
        obtain ⟨qs, rfl, hq⟩ := pairs_of hall ha
        have z3 : qs.length ≤ sizeLine := by rw [List.length_map] at z1; exact z1
        simp only [List.map_map] at pa
        simp only [List.map_map, k_EOk_lift1, pa, EOk_ok, k_EOk_not]
        simp [z3]
        refine EOk_lcM pT (fun q => .bl (calOne (pT q))) qs (fun q hq' => ⟨_, rfl, ?_⟩) ?_
        · obtain ⟨a1, a2⟩ := hq q hq'
          have n1 := is_name_any a1 st
          have n2 := is_name_any a2 st
          have isn := isN_any false a2
          simp only [Bool.false_eq_true, if_false] at isn
          have ec1 : calOne (pT q) = (isNm q.1 && (isNon q.2 || isNm q.2)) := rfl
          rw [ec1]
          cases h1 : isNm q.1 with
          | false =>
            rw [h1] at n1
            simp [e_are_calls_1, n1]
          | true =>
            rw [h1] at n1
            cases h2 : isNon q.2 with
            | true =>
              rw [h2] at isn
              simp [-pIs, e_are_calls_1, n1, isn]
            | false =>
              rw [h2] at isn
              simp [-pIs, e_are_calls_1, n1, isn, n2]
        · have pa2 := pAll_map qs (fun q => calOne (pT q))
          simp only [k_EOk_lift1, pa2, EOk_ok]
          simp [Function.comp_def]
  | _ => simp [calB, seen]
def famOf : D → List (List Str)
  | .lst ds => ds.map fun d => match d with
    | .tup es => (strL es).getD []
    | _ => []
  | _ => []
def callOf : D → Str × Th
  | .tup [.str w, .str s] => (w, .nm s)
  | .tup [.str w, _] => (w, .non)
  | _ => ("", .non)
def callsOf : D → List (Str × Th)
  | .lst ds => ds.map callOf
  | _ => []
def CallA (c : Str × Th) : Prop := NameS c.1 ∧ (c.2 = .non ∨ ∃ x, NameS x ∧ c.2 = .nm x)
theorem nm_str {d : D} (h : isNm d = true) : ∃ z, d = .str z ∧ NameS z := by
  cases d with
  | str z => exact ⟨z, rfl, by unfold isNm at h; simpa using h⟩
  | _ => cases h
theorem fam_inv {ms : List Str} {d : D} (ha : AnyD d) (h : famB ms d = true) : d = famT (famOf d) ∧ FamK (famOf d) := by
  cases ha with
  | lst hl ha =>
    rename_i ds
    unfold famB at h
    rw [Bool.and_eq_true, Bool.and_eq_true] at h
    have hall := List.all_eq_true.mp h.2
    have one : ∀ d ∈ ds, ∃ P : List Str, d = .tup (P.map .str) ∧ P.length ≤ 60 ∧ ∀ x ∈ P, NameS x := fun d hd => by
      have := hall d hd
      unfold famOne at this
      cases hg : grp56 d with
      | none => rw [hg] at this; cases this
      | some P => exact ⟨P, (grp_inv hg).1, grp_len (ha d hd) hg, (grp_inv hg).2.2⟩
    refine ⟨?_, ?_, ?_, ?_⟩
    · unfold famT famOf
      rw [List.map_map]
      congr 1
      conv => lhs; rw [← List.map_id ds]
      refine List.map_congr_left fun d hd => ?_
      obtain ⟨P, rfl, _, _⟩ := one d hd
      simp [strL_mapY]
    · simp [famOf]; omega
    · intro g hg
      obtain ⟨d, hd, rfl⟩ := List.mem_map.mp hg
      obtain ⟨P, rfl, hP, _⟩ := one d hd
      simp [strL_mapY]; omega
    · intro g hg
      obtain ⟨d, hd, rfl⟩ := List.mem_map.mp hg
      obtain ⟨P, rfl, _, hN⟩ := one d hd
      simp [strL_mapY]
      exact fun x hx => (hN x hx).ok
  | _ => cases h
theorem call_inv {d : D} (h : calOne d = true) : d = callD' (callOf d) ∧ CallA (callOf d) := by
  unfold calOne at h
  split at h
  · rename_i w s
    rw [Bool.and_eq_true] at h
    obtain ⟨z, rfl, hz⟩ := nm_str h.1
    cases s with
    | non => exact ⟨rfl, hz, .inl rfl⟩
    | str y =>
      have h2 : isNm (.str y) = true := by simpa [isNon] using h.2
      obtain ⟨y', e, hy⟩ := nm_str h2
      cases e
      exact ⟨rfl, hz, .inr ⟨y, hy, rfl⟩⟩
    | _ => simp [isNon, isNm] at h
  · cases h
theorem cal_inv {d : D} (ha : AnyD d) (h : calB d = true) : d = .lst ((callsOf d).map callD') ∧ (∀ c ∈ callsOf d, CallA c) ∧ (callsOf d).length ≤ 100 := by
  cases ha with
  | lst hl ha =>
    rename_i ds
    have hall := List.all_eq_true.mp h
    refine ⟨?_, ?_, ?_⟩
    · unfold callsOf
      rw [List.map_map]
      congr 1
      conv => lhs; rw [← List.map_id ds]
      exact List.map_congr_left fun d hd => (call_inv (hall d hd)).1
    · intro c hc
      obtain ⟨d, hd, rfl⟩ := List.mem_map.mp hc
      exact (call_inv (hall d hd)).2
    · simpa [callsOf] using hl
  | _ => cases h
structure RowsA (R : List (Str × List Rw)) : Prop where
  ro : ∀ p ∈ R, RsOk p.2
  ll : (latR R).length ≤ 1000
theorem RowsA.mw {R : List (Str × List Rw)} (h : RowsA R) {fam : List (List Str)} {cs : List (Str × Th)} (hf : FamK fam) (hc : ∀ c ∈ cs, CallA c) (hl : cs.length ≤ 100) : MW R fam cs :=
  ⟨h.ro, h.ll, hf, fun c m => by
    obtain ⟨h1, h2⟩ := hc c m
    rcases h2 with e | ⟨x, hx, e⟩
    · exact ⟨h1.ok, by rw [e]; exact trivial, fun v z => by rw [e] at z; cases z⟩
    · exact ⟨h1.ok, by rw [e]; exact hx.ok, fun v z => by rw [e] at z; cases z⟩, hl⟩
noncomputable def meanNe (R S : List (Str × List Rw)) (w : Str) (f c : D) : Bool := !decide (mtL R (famOf f) (callsOf c) w = mtL S (famOf f) (callsOf c) w)
noncomputable def partA (R S : List (Str × List Rw)) (ms : List Str) (w f c : D) : Bool := match w with
  | .str w => isNm (.str w) && (famB ms f && (calB c && meanNe R S w f c))
  | _ => false
noncomputable def futA (R S : List (Str × List Rw)) (ms : List Str) : D → Bool
  | .tup [a, w, f, c] => isS "future" a && partA R S ms w f c
  | _ => false
theorem futA_not {R S : List (Str × List Rw)} {ms : List Str} {es : List D} (h : es.length ≠ 4) : futA R S ms (.tup es) = false := by
  unfold futA
  split
  · rename_i e
    cases e
    exact absurd rfl h
  · rfl
theorem partA_nm {R S : List (Str × List Rw)} {ms : List Str} {w f c : D} (h : isNm w = false) : partA R S ms w f c = false := by
  unfold partA
  split
  · rw [h]; rfl
  · rfl
theorem future_holds_any {R S : List (Str × List Rw)} {ms : List Str} {d1 d2 x : D} {st : Store} (g1 : GivD d1 R) (g2 : GivD d2 S) (hR : RowsA R) (hS : RowsA S) (hm : ∀ x ∈ ms, okS x) (hx : AnyD x) (tb : st[0]? = some tabC) :
    d_future_holds [d1, d2, .lst (ms.map .str), x] st = .ok (.bl (futA R S ms x)) [] st := by
  refine DOk.eq ?_
  unfold d_future_holds
  refine DOk_run ?_
  unfold b_future_holds
  have t4 := is_tup_any hx 4 st
  simp at t4
  cases ht : tupN 4 x with
  | false =>
    have : futA R S ms x = false := by
      cases x with
      | tup es => exact futA_not (by unfold tupN at ht; simpa using ht)
      | _ => rfl
    rw [ht] at t4
    simp [t4, this]
  | true =>
    rw [ht] at t4
    obtain ⟨a, w, f, c, rfl⟩ : ∃ a w f c, x = .tup [a, w, f, c] := by
      cases x with
      | tup es =>
        unfold tupN at ht
        match es, ht with
        | [a, w, f, c], _ => exact ⟨a, w, f, c, rfl⟩
        | [], ht => simp at ht
        | [_], ht => simp at ht
        | [_, _], ht => simp at ht
        | [_, _, _], ht => simp at ht
        | _ :: _ :: _ :: _ :: _ :: _, ht => simp at ht
      | _ => cases ht
    obtain ⟨ia, iw, jf, ic⟩ : AnyD a ∧ AnyD w ∧ AnyD f ∧ AnyD c := by
      cases hx with
      | tup _ h => exact ⟨h _ (by simp), h _ (by simp), h _ (by simp), h _ (by simp)⟩
    have ne := neO_str ia (w := "future") (by unfold okS; decide)
    have ef : futA R S ms (.tup [a, w, f, c]) = (isS "future" a && partA R S ms w f c) := rfl
    rw [ef]
    cases hr : isS "future" a with
    | false =>
      rw [hr] at ne
      simp at ne
      simp [t4, ne]
    | true =>
      rw [hr] at ne
      simp at ne
      have n1 := is_name_any iw st
      cases hn : isNm w with
      | false =>
        rw [hn] at n1
        simp [t4, ne, cutD, HT.sIx, n1, partA_nm hn]
      | true =>
        rw [hn] at n1
        obtain ⟨word, rfl, hw⟩ := nm_str hn
        have n2 := is_family_any jf hm st
        have n3 := are_calls_any ic st
        have ep : partA R S ms (.str word) f c = (famB ms f && (calB c && meanNe R S word f c)) := by
          show (isNm (.str word) && _) = _
          rw [hn]; rfl
        rw [ep]
        cases h1 : famB ms f with
        | false =>
          rw [h1] at n2
          simp [t4, ne, cutD, HT.sIx, n1, n2]
        | true =>
          rw [h1] at n2
          cases h2 : calB c with
          | false =>
            rw [h2] at n3
            simp [t4, ne, cutD, HT.sIx, n1, n2, n3]
          | true =>
            rw [h2] at n3
            obtain ⟨e1, fk⟩ := fam_inv jf h1
            obtain ⟨e2, ca, cl⟩ := cal_inv ic h2
            have m1 := hR.mw fk ca cl
            have m2 := hS.mw fk ca cl
            have i1 := imagined_any g1 m1 hw.ok tb
            have i2 := imagined_any g2 m2 hw.ok tb
            rw [← e1, ← e2] at i1 i2
            have nt := pNeO_th (m1.mtok word) (m2.mtok word)
            simp [t4, ne, cutD, HT.sIx, n1, n2, n3, i1, i2, nt, meanNe]
theorem lfams {ms : List Str} {x0 x1 x3 x4 x5 x6 x7 x8 : Sl} {ds : List D} {st : Store} {V : D → Store → Prop} (hm : ∀ x ∈ ms, okS x) (ha : ∀ d ∈ ds, AnyD d) (hV : ds.all (famOne ms) = false → V (.bl false) st) :
    SOk (forD (gN 6) f__law_future_good_3 ds [x0, x1, .val (.lst (ms.map .str)), x3, x4, x5, x6, x7, x8] st) (fun ρ st' => st' = st ∧ ds.all (famOne ms) = true ∧ ∃ y6 y7 y8, ρ = [x0, x1, .val (.lst (ms.map .str)), x3, x4, x5, y6, y7, y8]) V := by
  refine SOk_at ds (fun q ρ st' => st' = st ∧ (ds.take q).all (famOne ms) = true ∧ ∃ y6 y7 y8, ρ = [x0, x1, .val (.lst (ms.map .str)), x3, x4, x5, y6, y7, y8]) ⟨rfl, by simp, _, _, _, rfl⟩ ?_ ?_
  · rintro q d ρ st' hq ⟨rfl, hA, y6, y7, y8, rfl⟩
    have hmem := List.mem_of_getElem? hq
    have hta : ds.take (q + 1) = ds.take q ++ [d] := by rw [List.take_add_one, hq]; rfl
    have fail : famOne ms d = false → V (.bl false) st' := fun h => hV (List.all_eq_false.mpr ⟨d, hmem, by rw [h]; simp⟩)
    have good : famOne ms d = true → (ds.take (q + 1)).all (famOne ms) = true := fun h => by rw [hta, List.all_append, hA]; simp [h]
    refine ⟨_, rfl, ?_⟩
    have an := lare_names_any (ha d hmem) st'
    unfold f__law_future_good_3
    cases hg : grp56 d with
    | none =>
      rw [hg] at an
      simp at an
      simp [an]
      exact fail (by simp [famOne, hg])
    | some P =>
      rw [hg] at an
      simp at an
      have hP := grp_len (ha d hmem) hg
      have ef1 : famOne ms d = P.all fun x => decide (x ∈ ms) := by simp [famOne, hg]
      rw [ef1] at fail good
      obtain ⟨rfl, _, hN⟩ := grp_inv hg
      have z2 : P.length ≤ sizeLine := by rw [sizeLine_eq]; omega
      simp [an, z2]
      refine EOk_lcP D.str (fun p => !decide (p ∈ ms)) D.str P [] (fun p hp => ⟨_, rfl, ?_⟩) ?_
      · have pin := inO_strL true (hN p hp).ok hm
        simp at pin
        simp [t__law_future_good_2, pin]
      · cases hh : P.all (fun p => decide (p ∈ ms)) with
        | true =>
          have hf : P.filter (fun p => !decide (p ∈ ms)) = [] := List.filter_eq_nil_iff.mpr fun p hpP => by
            have := List.all_eq_true.mp hh p hpP
            simpa using this
          rw [hf]
          have := good hh
          simp
          exact List.all_eq_true.mp this
        | false =>
          have hf : 0 < (P.filter (fun p => !decide (p ∈ ms))).length := by
            rw [List.all_eq_false] at hh
            obtain ⟨p, hp1, hp2⟩ := hh
            exact List.length_pos_of_mem (List.mem_filter.mpr ⟨hp1, by simpa using hp2⟩)
          have := fail hh
          generalize P.filter (fun p => !decide (p ∈ ms)) = fl at hf
          simp [hf]
          exact this
  · rintro ρ st' ⟨rfl, hA, y6, y7, y8, rfl⟩
    rw [List.take_length] at hA
    exact ⟨rfl, hA, _, _, _, rfl⟩
theorem lcalls {x0 x1 x2 x3 x4 x5 x6 x7 x8 : Sl} {ds : List D} {st : Store} {V : D → Store → Prop} (ha : ∀ d ∈ ds, AnyD d) (hV : ds.all calOne = false → V (.bl false) st) :
    SOk (forD (gN 7) f__law_future_good_1 ds [x0, x1, x2, x3, x4, x5, x6, x7, x8] st) (fun ρ st' => st' = st ∧ ds.all calOne = true ∧ ∃ y6 y7 y8, ρ = [x0, x1, x2, x3, x4, x5, y6, y7, y8]) V := by
  refine SOk_at ds (fun q ρ st' => st' = st ∧ (ds.take q).all calOne = true ∧ ∃ y6 y7 y8, ρ = [x0, x1, x2, x3, x4, x5, y6, y7, y8]) ⟨rfl, by simp, _, _, _, rfl⟩ ?_ ?_
  · rintro q d ρ st' hq ⟨rfl, hA, y6, y7, y8, rfl⟩
    have hmem := List.mem_of_getElem? hq
    have hta : ds.take (q + 1) = ds.take q ++ [d] := by rw [List.take_add_one, hq]; rfl
    have fail : calOne d = false → V (.bl false) st' := fun h => hV (List.all_eq_false.mpr ⟨d, hmem, by rw [h]; simp⟩)
    have good : calOne d = true → (∀ x ∈ ds.take (q + 1), calOne x = true) := fun h => List.all_eq_true.mp (by rw [hta, List.all_append, hA]; simp [h])
    have ia := ha d hmem
    refine ⟨_, rfl, ?_⟩
    unfold f__law_future_good_1
    cases ia with
    | tup hl2 ha2 =>
      rename_i es
      have n3 := neO_nat es.length 2
      by_cases h2 : es.length = 2
      · match es, h2, ha2, fail, good, n3 with
        | [w, s], _, ha2, fail, good, n3 =>
          have iw : AnyD w := ha2 w (by simp)
          have is : AnyD s := ha2 s (by simp)
          simp at n3
          have n1 := lis_name_any iw st'
          have n2 := lis_name_any is st'
          have isn := isN_any true is
          simp only [if_true] at isn
          have ec1 : calOne (.tup [w, s]) = (isNm w && (isNon s || isNm s)) := rfl
          rw [ec1] at fail good
          cases h1 : isNm w with
          | false =>
            rw [h1] at n1 fail
            have := fail rfl
            simp [n3, n1]
            exact this
          | true =>
            rw [h1] at n1 fail good
            cases h2 : isNon s with
            | true =>
              rw [h2] at isn good
              have := good rfl
              simp [-pIs, n3, n1, isn]
              exact this
            | false =>
              rw [h2] at isn good fail
              cases h3 : isNm s with
              | true =>
                rw [h3] at n2 good
                have := good rfl
                simp [-pIs, n3, n1, isn, n2]
                exact this
              | false =>
                rw [h3] at n2 fail
                have := fail rfl
                simp [-pIs, n3, n1, isn, n2]
                exact this
      · have : calOne (.tup es) = false := by
          unfold calOne
          split
          · rename_i e
            cases e
            exact absurd rfl h2
          · rfl
        have := fail this
        simp [h2] at n3
        simp [n3]
        exact this
    | _ =>
      have := fail rfl
      simp
      exact this
  · rintro ρ st' ⟨rfl, hA, y6, y7, y8, rfl⟩
    rw [List.take_length] at hA
    exact ⟨rfl, hA, _, _, _, rfl⟩
theorem law_future_good_any {R S : List (Str × List Rw)} {ms : List Str} {d1 d2 x : D} {st : Store} (g1 : GivD d1 R) (g2 : GivD d2 S) (hR : RowsA R) (hS : RowsA S) (hm : ∀ x ∈ ms, okS x) (hx : AnyD x) :
    d__law_future_good [d1, d2, .lst (ms.map .str), x] st = .ok (.bl (futA R S ms x)) [] st := by
  refine DOk.eq ?_
  unfold d__law_future_good
  refine DOk_run ?_
  unfold b__law_future_good
  cases hx with
  | tup hl ha =>
    rename_i es
    have n3 := neO_nat es.length 4
    by_cases h4 : es.length = 4
    · match es, h4, ha, n3 with
      | [a, w, f, c], hl4, ha, n3 =>
        have ia : AnyD a := ha a (by simp)
        have iw : AnyD w := ha w (by simp)
        have jf : AnyD f := ha f (by simp)
        have ic : AnyD c := ha c (by simp)
        simp at n3
        have ne := neO_str ia (w := "future") (by unfold okS; decide)
        have ef : futA R S ms (.tup [a, w, f, c]) = (isS "future" a && partA R S ms w f c) := rfl
        rw [ef]
        cases hr : isS "future" a with
        | false =>
          rw [hr] at ne
          simp at ne
          simp [n3, ne]
        | true =>
          rw [hr] at ne
          simp at ne
          have n1 := lis_name_any iw st
          cases hn : isNm w with
          | false =>
            rw [hn] at n1
            simp [n3, ne, n1, partA_nm hn]
          | true =>
            rw [hn] at n1
            obtain ⟨word, rfl, hw⟩ := nm_str hn
            have ep : partA R S ms (.str word) f c = (famB ms f && (calB c && meanNe R S word f c)) := by
              show (isNm (.str word) && _) = _
              rw [hn]; rfl
            rw [ep]
            cases jf with
            | @lst fs hf60 hfa =>
              have zf : fs.length ≤ sizeLine := by rw [sizeLine_eq]; omega
              by_cases h1 : 1 ≤ fs.length
              · have l1 : ¬ (fs.length : Int) < 1 := by omega
                by_cases h2 : fs.length ≤ 64
                · have l2 : ¬ (64 : Int) < (fs.length : Int) := by omega
                  have eb : famB ms (.lst fs) = fs.all (famOne ms) := by simp [famB, h1, h2]
                  rw [eb]
                  cases ic with
                  | @lst cs hc60 hca =>
                    have ec : calB (.lst cs) = cs.all calOne := rfl
                    rw [ec]
                    simp [n3, ne, n1, l1, l2, h1, h2]
                    refine SOk.mono (lfams hm hfa ?_) ?_ (fun _ _ h => h)
                    · intro hb
                      simp [hb]
                    · rintro ρ st' ⟨rfl, hb, y6, y7, y8, rfl⟩
                      simp
                      refine SOk.mono (lcalls hca ?_) ?_ (fun _ _ h => h)
                      · intro hc
                        simp [hb, hc]
                      · rintro ρ st' ⟨rfl, hc, z6, z7, z8, rfl⟩
                        obtain ⟨e1, fk⟩ := fam_inv (.lst hf60 hfa) (by rw [eb]; exact hb)
                        obtain ⟨e2, ca, cl⟩ := cal_inv (.lst hc60 hca) (by rw [ec]; exact hc)
                        have m1 := hR.mw fk ca cl
                        have m2 := hS.mw fk ca cl
                        have i1 := lawmeaning_eq m1 hw.ok (st := st') (g1.dOf st')
                        have i2 := lawmeaning_eq m2 hw.ok (st := st') (g2.dOf st')
                        rw [← e1, ← e2] at i1 i2
                        have nt := pNeO_th (m1.mtok word) (m2.mtok word)
                        simp [i1, i2, nt, meanNe, hb, hc]
                  | _ => simp [n3, ne, n1, l1, l2, h1, h2, calB]
                · have l2 : (64 : Int) < (fs.length : Int) := by omega
                  simp [n3, ne, n1, l1, l2, h1, h2, famB]
              · have l1 : (fs.length : Int) < 1 := by omega
                simp [n3, ne, n1, l1, h1, famB]
            | _ => simp [n3, ne, n1, famB]
    · simp [h4] at n3
      simp [n3, futA_not h4]
  | _ => simp [futA, seen]
@[simp] def k_sbE2 (i : Nat) (N : En → Store → Prop) (V : D → Store → Prop) (d j : D) (ρ : En) (st : Store) : Prop := SOk (match mutAt i (kSet j) [d] ρ st with
    | .ok _ ρ st => .nx ρ st
    | _ => .bad) N V
@[simp] def k_sbE1 (i : Nat) (g : DEx) (N : En → Store → Prop) (V : D → Store → Prop) (d : D) (ρ : En) (st : Store) : Prop := holdsL i ρ st = true ∧ EOk (g ρ st) (k_sbE2 i N V d)
@[simp ↓] theorem SOk_subSetE {i : Nat} {g f : DEx} {ρ : En} {st : Store} {N : En → Store → Prop} {V : D → Store → Prop} : SOk (subSetE i g f ρ st) N V ↔ EOk (f ρ st) (k_sbE1 i g N V) := by
  have key : ∀ (d : D) (ρ : En) (st : Store), SOk (match holdsL i ρ st with
      | true => thenF g (fun j ρ st => match mutAt i (kSet j) [d] ρ st with
        | .ok _ ρ st => .nx ρ st
        | _ => .bad) ρ st
      | false => .bad) N V ↔ k_sbE1 i g N V d ρ st := fun d ρ st => by
    unfold k_sbE1
    cases holdsL i ρ st with
    | true => exact (SOk_thenF _).trans ⟨fun h => ⟨rfl, h⟩, fun h => h.2⟩
    | false => exact ⟨fun h => h.elim, fun h => by cases h.1⟩
  refine (SOk_thenF _).trans ⟨fun z => z.mono fun d ρ st z => (key d ρ st).mp z, fun z => z.mono fun d ρ st z => (key d ρ st).mpr z⟩
theorem getAt {xs : List D} {u n : Nat} (h : u < n) (hl : xs.length = n) : ∃ d, xs[u]? = some d ∧ d ∈ xs :=
  ⟨xs[u]'(by omega), List.getElem?_eq_getElem (by omega), List.getElem_mem _⟩
def plainL : List D := [.non, .bl true, .bl false, .int 0, .int 1, .int (-1), .int (10 ^ 20), .str "", .str "a", .str "reason", .str "future", .str "later", .str "A", .str "sun ", .str "abcdefghi"]
theorem anyS {s : Str} (h : okS s) (hl : s.length ≤ 1000 := by decide) : AnyD (.str s) := .str h hl
theorem plainL_any : ∀ d ∈ plainL, AnyD d := by
  intro d hd
  unfold plainL at hd
  simp only [List.mem_cons, List.not_mem_nil, or_false] at hd
  rcases hd with rfl | rfl | rfl | rfl | rfl | rfl | rfl | rfl | rfl | rfl | rfl | rfl | rfl | rfl | rfl
  · exact .non
  · exact .bl _
  · exact .bl _
  · exact .int _
  · exact .int _
  · exact .int _
  · exact .int _
  all_goals exact anyS (by unfold okS; decide)
theorem any_ok : ∀ (n k : Nat) {st : Store} {l : Nat} {Q : D → Store → Prop}, k < n → k ≤ 100 → Bag st l → (∀ (d : D) (st' : Store), AnyD d → Bag st' l → Fr l st st' → Q d st') → DOk (d__law_any n [.ref l, .int (k : Int)] st) Q
  | 0, k, _, _, _, h, _, _, _ => absurd h (by omega)
  | n + 1, k, st, l, Q, hk, hk2, hb, K => by
    show DOk (runD 6 (b__law_any (d__law_any n)) _ st) Q
    refine DOk_run ?_
    have p20 : CPow2 10 20 := ⟨by decide, by decide, Nat.lt_of_lt_of_le (by decide : Int.natAbs 10 < 2 ^ 8) (Nat.pow_le_pow_right (by decide) (by decide))⟩
    have ek : ((k : Int) = 0) ↔ k = 0 := by omega
    unfold b__law_any
    simp [p20]
    have epl : [D.non, .bl true, .bl false, .int 0, .int 1, .int (-1), .int (100000000000000000000), .str "", .str "a", .str "reason", .str "future", .str "later", .str "A", .str "sun ", .str "abcdefghi"] = plainL := rfl
    rw [epl]
    have pl := plainL_any
    have pll : plainL.length = 15 := rfl
    generalize plainL = PL at pl pll
    refine COk.of (take_ok hb (many := 4) (by decide) (by decide) fun way st2 hway hb2 F2 => ?_)
    have ew : ((way : Int) = 0) ↔ way = 0 := by omega
    by_cases h0 : k = 0 ∨ way = 0
    · have : (k : Int) = 0 ∨ (k : Int) ≠ 0 ∧ (way : Int) = 0 := by omega
      have fin : ∀ (ρ : En), ρ[0]? = some (.val (.ref l)) → ρ[2]? = some (.val (.lst PL)) → SOk (retD (lift2 pIx (vr 2) (callD d__law_take (aCons (vr 0) (aCons (cst (.int 15)) aNil)))) ρ st2) (fun _ _ => False) Q := by
        intro ρ r0 r2
        simp [r0, r2]
        refine COk.of (take_ok hb2 (many := 15) (by decide) (by decide) fun u st3 hu hb3 F3 => ?_)
        obtain ⟨d, e, m⟩ := getAt hu pll
        simp [e]
        exact K d st3 (pl d m) hb3 (F2.trans F3)
      have f1 := fin [.val (.ref l), .val (.int (k : Int)), .val (.lst PL), .val (.int (way : Int)), .no, .no] rfl rfl
      rcases this with h | ⟨h, h'⟩
      · simp [h] at f1 ⊢
        exact f1
      · simp [h, h'] at f1 ⊢
        exact f1
    · have n1 : ¬ (k : Int) = 0 := by omega
      have n2 : ¬ (way : Int) = 0 := by omega
      have n1' : ¬ k = 0 := by omega
      have n2' : ¬ way = 0 := by omega
      simp [n1, n2, n1', n2']
      refine COk.of (take_ok hb2 (many := 5) (by decide) (by decide) fun m st3 hm hb3 F3 => ?_)
      have r1 : Rg (m : Int) := .of (by omega) (by omega)
      simp [r1]
      refine SOk_rng m (fun q ρ st' => Bag st' l ∧ Fr l st st' ∧ ∃ ds x5, ds.length = q ∧ (∀ d ∈ ds, AnyD d) ∧ ρ = [.val (.ref l), .val (.int (k : Int)), .val (.lst PL), .val (.int (way : Int)), .ml ds, x5]) ⟨hb3, F2.trans F3, [], _, rfl, (fun d h => by cases h), rfl⟩ ?_ ?_
      · rintro q ρ st' hq ⟨hb4, F4, ds, x5, hl, ha, rfl⟩
        refine ⟨_, rfl, ?_⟩
        unfold f__law_any_1
        have ek1 : (k : Int) - 1 = ((k - 1 : Nat) : Int) := by omega
        have z : ds.length < sizeLine := by rw [sizeLine_eq]; omega
        simp [ek1]
        refine COk.of (any_ok n (k - 1) (by omega) (by omega) hb4 fun d st5 hd hb5 F5 => ?_)
        rw [hl] at z
        simp [z, hl]
        exact ⟨hb5, F4.trans F5, fun e he => he.elim (ha e) fun he => by rw [he]; exact hd⟩
      · rintro ρ st' ⟨hb4, F4, ds, x5, hl, ha, rfl⟩
        have z : ds.length ≤ sizeLine := by rw [sizeLine_eq]; omega
        by_cases w1 : way = 1
        · subst w1
          simp
          exact K _ st' (.lst (by omega) ha) hb4 F4
        · have w1' : ¬ (way : Int) = 1 := by omega
          by_cases w2 : way = 2
          · subst w2
            simp [z]
            exact K _ st' (.tup (by omega) ha) hb4 F4
          · have w2' : ¬ (way : Int) = 2 := by omega
            simp [w1', w2']
            exact K _ st' (.dct _) hb4 F4
theorem slT_any {rs : List D} (lo hi : Option Int) : ∃ ds : List D, kSlT (.tup rs) lo hi = some (.tup ds) ∧ ds.length ≤ rs.length ∧ ∀ d ∈ ds, d ∈ rs := by
  unfold kSlT
  simp only
  split
  · exact ⟨rs, rfl, Nat.le_refl _, fun d h => h⟩
  · refine ⟨_, rfl, cutD_len _ _ _, fun d h => ?_⟩
    unfold cutD at h
    exact List.mem_of_mem_drop (List.mem_of_mem_take h)
theorem any_tail {rs : List D} (h : ∀ d ∈ rs, AnyD d) (hl : rs.length = 4) : addKT (.tup rs) (.tup [.non]) = some (.tup (rs ++ [.non])) ∧ AnyD (.tup (rs ++ [.non])) := by
  constructor
  · unfold addKT
    simp only
    rw [if_pos (by simp [hl]; rw [sizeLine_eq]; omega)]
  · refine .tup (by simp [hl]) fun d hd => ?_
    rcases List.mem_append.mp hd with hd | hd
    · exact h d hd
    · rw [List.mem_singleton.mp hd]; exact .non
theorem rep_any {G : D} (h : AnyD G) (m : Nat) (hm : m ≤ 65) : mulK (.lst [G]) (.int (m : Int)) = some (.lst (List.replicate m [G]).flatten) ∧ AnyD (.lst (List.replicate m [G]).flatten) := by
  have r : Rs (m : Int) := .of (by omega) (by omega)
  constructor
  · unfold mulK
    simp only
    rw [if_pos ⟨r, by simp; rw [sizeLine_eq]; omega⟩]
    simp
  · refine .lst (by simp [List.length_flatten]; omega) fun d hd => ?_
    obtain ⟨l, hl, hd⟩ := List.mem_flatten.mp hd
    rw [List.eq_of_mem_replicate hl] at hd
    rw [List.mem_singleton.mp hd]
    exact h
theorem any4 {a b c d : D} (ha : AnyD a) (hb : AnyD b) (hc : AnyD c) (hd : AnyD d) : ∀ x ∈ [a, b, c, d], AnyD x := fun x hx => by
  simp only [List.mem_cons, List.not_mem_nil, or_false] at hx
  rcases hx with rfl | rfl | rfl | rfl
  · exact ha
  · exact hb
  · exact hc
  · exact hd
theorem things_ok {st : Store} {l : Nat} {Q : D → Store → Prop} {word : Str} {G C : D} (hb : Bag st l) (hw : NameS word) (hG : AnyD G) (hC : AnyD C) (K : ∀ (ts : List D) (st' : Store), (∀ d ∈ ts, AnyD d) → ts.length ≤ 100 → Bag st' l → Fr l st st' → Q (.lst ts) st') : DOk (d__law_things [.ref l, .tup [.str "future", .str word, .lst [G], .lst [C]]] st) Q := by
  have aw : AnyD (.str word) := .str hw.ok (by have := hw.hi; omega)
  have ar : AnyD (.str "future") := anyS (by unfold okS; decide)
  have aG : AnyD (.lst [G]) := .lst (by simp) fun d hd => by rw [List.mem_singleton.mp hd]; exact hG
  have aC : AnyD (.lst [C]) := .lst (by simp) fun d hd => by rw [List.mem_singleton.mp hd]; exact hC
  have aR := any4 ar aw aG aC
  obtain ⟨et, at6⟩ := any_tail aR rfl
  obtain ⟨ks, eks, hkl, hkm⟩ := slT_any (rs := [D.str "future", .str word, .lst [G], .lst [C]]) none (some 3)
  unfold d__law_things
  refine DOk_run ?_
  unfold b__law_things
  have r3 : Rg (3 : Int) := .of (by decide) (by decide)
  simp [r3]
  refine SOk_rng 3 (fun q ρ st' => Bag st' l ∧ Fr l st st' ∧ ∃ ds x3, ds.length = q ∧ (∀ d ∈ ds, AnyD d) ∧ ρ = [.val (.ref l), .val (.tup [D.str "future", .str word, .lst [G], .lst [C]]), .ml ds, x3, .no, .no, .no]) ⟨hb, .refl _ _, [], _, rfl, (fun d h => by cases h), rfl⟩ ?_ ?_
  · rintro q ρ st' hq ⟨hb4, F4, ds, x3, hl, ha, rfl⟩
    refine ⟨_, rfl, ?_⟩
    unfold f__law_things_3
    have z : q < sizeLine := by rw [sizeLine_eq]; omega
    simp
    refine COk.of (any_ok 8 3 (by omega) (by omega) hb4 fun d st5 hd hb5 F5 => ?_)
    simp [z, hl]
    exact ⟨hb5, F4.trans F5, fun e he => he.elim (ha e) fun he => by rw [he]; exact hd⟩
  · rintro ρ st1 ⟨hb1, F1, ds, x3, hl, ha, rfl⟩
    obtain ⟨a, b, c, rfl⟩ : ∃ a b c, ds = [a, b, c] := by
      match ds, hl with
      | [a, b, c], _ => exact ⟨a, b, c, rfl⟩
    have aA := ha a (by simp)
    have aB := ha b (by simp)
    have aCc := ha c (by simp)
    simp
    refine COk.of (take_ok hb1 (many := 2) (by decide) (by decide) fun m st2 hm hb2 F2 => ?_)
    have em : (1 : Int) + (m : Int) = ((1 + m : Nat) : Int) := by omega
    have rm : Rg ((1 + m : Nat) : Int) := .of (by omega) (by omega)
    simp [-Int.natCast_add, em, rm]
    refine SOk_rng (1 + m) (fun q ρ st' => Bag st' l ∧ Fr l st st' ∧ ∃ ps x3, ps.length = 4 ∧ (∀ d ∈ ps, AnyD d) ∧ ρ = [.val (.ref l), .val (.tup [D.str "future", .str word, .lst [G], .lst [C]]), .ml [a, b, c], x3, .ml ps, .no, .no]) ⟨hb2, F1.trans F2, _, _, rfl, aR, rfl⟩ ?_ ?_
    · rintro q ρ st' hq ⟨hb4, F4, ps, x3, hl, ha, rfl⟩
      refine ⟨_, rfl, ?_⟩
      unfold f__law_things_2
      simp
      refine COk.of (any_ok 8 3 (by omega) (by omega) hb4 fun d st5 hd hb5 F5 => ?_)
      simp
      refine COk.of (take_ok hb5 (many := 3) (by decide) (by decide) fun j st6 hj hb6 F6 => ?_)
      have ej : (1 : Int) + (j : Int) = ((1 + j : Nat) : Int) := by omega
      have ix : ixN ps.length ((1 + j : Nat) : Int) = some (1 + j) := by
        rw [ixN_nat, if_pos (by omega)]
      simp [-Int.natCast_add, ej, ix]
      refine ⟨hb6, (F4.trans F5).trans F6, hl, fun x hx => ?_⟩
      rcases List.mem_or_eq_of_mem_set hx with hx | hx
      · exact ha x hx
      · rw [hx]; exact hd
    · rintro ρ st' ⟨hb4, F4, ps, x3, hl5, ha5, rfl⟩
      have zp : ps.length ≤ sizeLine := by rw [sizeLine_eq]; omega
      simp
      refine COk.of (any_ok 8 4 (by omega) (by omega) hb4 fun d st5 hd hb5 F5 => ?_)
      simp [zp]
      refine SOk_at [D.int 0, D.int 1, D.int 2, D.int 64, D.int 65] (fun q ρ st' => st' = st5 ∧ ∃ fs x6, fs.length = 6 + q ∧ (∀ d ∈ fs, AnyD d) ∧ ρ = [.val (.ref l), .val (.tup [D.str "future", .str word, .lst [G], .lst [C]]), .ml [a, b, c], x3, .val (.lst ps), .ml fs, x6]) ⟨rfl, _, _, rfl, ?_, rfl⟩ ?_ ?_
      · intro x hx
        simp only [List.mem_cons, List.not_mem_nil, or_false] at hx
        rcases hx with rfl | rfl | rfl | rfl | rfl | rfl
        · exact hd
        · exact .tup (by simp) (any4 ar aA aB aCc)
        · exact .tup (by omega) ha5
        · exact .lst (by omega) ha5
        · exact .tup (by simp) aR
        · exact .lst (by simp) aR
      · rintro q dd ρ st' hq ⟨rfl, fs, x6, hl6, ha6, rfl⟩
        have hqq : q < 5 := by have := (List.getElem?_eq_some_iff.mp hq).1; simpa using this
        obtain ⟨m, rfl, hm65⟩ : ∃ m : Nat, dd = .int (m : Int) ∧ m ≤ 65 := by
          have := List.mem_of_getElem? hq
          simp only [List.mem_cons, List.not_mem_nil, or_false] at this
          rcases this with rfl | rfl | rfl | rfl | rfl
          · exact ⟨0, rfl, by omega⟩
          · exact ⟨1, rfl, by omega⟩
          · exact ⟨2, rfl, by omega⟩
          · exact ⟨64, rfl, by omega⟩
          · exact ⟨65, rfl, by omega⟩
        obtain ⟨mk, am⟩ := rep_any hG m hm65
        refine ⟨_, rfl, ?_⟩
        unfold f__law_things_1
        have z : fs.length < sizeLine := by rw [sizeLine_eq]; omega
        simp [-mulK, mk, z]
        refine ⟨by omega, fun x hx => ?_⟩
        rcases hx with hx | rfl
        · exact ha6 x hx
        · exact .tup (by simp) (any4 ar aw (by simpa using am) aC)
      · rintro ρ st' ⟨rfl, fs, x6, hl6, ha6, rfl⟩
        have hl6' : fs.length = 11 := hl6
        have ea : ∀ gs : List D, gs.length = 6 → addK (.lst fs) (.lst gs) = some (.lst (fs ++ gs)) := fun gs hg => by
          simp [addK]
          rw [sizeLine_eq]; omega
        simp [-kSlT, -addK, eks, et, ea]
        refine K _ st' (fun x hx => ?_) (by simp [hl6']) hb5 (F4.trans F5)
        rcases List.mem_append.mp hx with hx | hx
        · exact ha6 x hx
        · simp only [List.mem_cons, List.not_mem_nil, or_false] at hx
          rcases hx with rfl | rfl | rfl | rfl | rfl | rfl
          · exact .tup (by simp at hkl; omega) fun y hy => aR y (hkm y hy)
          · exact at6
          · exact .tup (by simp) fun y hy => by rw [List.mem_singleton.mp hy]; exact ar
          · exact ar
          · exact .non
          · exact .tup (by simp) (any4 ar aw aG (.lst (by simp) fun d h => by cases h))
theorem flat_len : ∀ {R : List (Str × List Rw)}, (∀ p ∈ R, p.2.length ≤ 6) → (R.flatMap (·.2)).length ≤ 6 * R.length
  | [], _ => by simp
  | p :: R, h => by
    have h1 := h p (by simp)
    have h2 := flat_len (R := R) fun q hq => h q (by simp [hq])
    simp only [List.flatMap_cons, List.length_append, List.length_cons]
    omega
theorem Fr.zero {l : Nat} {st st' : Store} (F : Fr l st st') (hl : 0 < l) (tb : st[0]? = some tabC) : st'[0]? = some tabC := by
  rw [F.2 0 (by omega) (List.getElem?_eq_some_iff.mp tb).1]; exact tb
theorem rwn_ok {ws ths ms : List Str} {r : Rw} (hw : ∀ x ∈ ws, NameS x) (ht : ∀ x ∈ ths, NameS x) (hm : ∀ x ∈ ms, NameS x) (h : RwN ws ths ms r) : RwOk r := by
  refine ⟨?_, fun x hx => (hm x (h.sub x hx)).ok⟩
  rcases h.th with e | ⟨v, hv, e⟩ | ⟨x, hx, e⟩
  · rw [e]; exact trivial
  · rw [e]; exact (hw v hv).ok
  · rw [e]; exact (ht x hx).ok
theorem rowsA_of {R : List (Str × List Rw)} (hl : R.length ≤ 5) (h : ∀ p ∈ R, p.2.length ≤ 6 ∧ ∀ r ∈ p.2, RwOk r) : RowsA R := by
  refine ⟨fun p hp => ⟨by have := (h p hp).1; omega, (h p hp).2⟩, ?_⟩
  have := flat_len fun p hp => (h p hp).1
  unfold latR
  refine Nat.le_trans (List.length_filterMap_le _ _) ?_
  omega
def W64 (ns : List Int) (i l : Nat) (F : List Str) (a4 a5 : Sl) (R S : List (Str × List Rw)) (a8 a9 a10 : Sl) (y11 y12 y13 : Sl) : En := [.val (.lsk (ns.map .int)), .val (.int i), .val (.ref l), .val (.lst (F.map .str)), a4, a5, .val (.dlk (dctD R)), .val (.dlk (dctD S)), a8, a9, a10, y11, y12, y13]
def TInv (ns : List Int) (q : Nat) (ρ : En) (st : Store) : Prop := st[0]? = some tabC ∧ ∃ x1 x2 x3 x4 x5 x6 x7 x8 x9 x10 x11 x12 x13, ρ = [.val (.lsk (ns.map .int)), x1, x2, x3, x4, x5, x6, x7, x8, x9, x10, x11, x12, x13]
theorem k64_one {ns : List Int} {i l : Nat} {F : List Str} {R S : List (Str × List Rw)} {t : D} {a4 a5 a8 a9 a10 y12 y13 : Sl} {st : Store} {V : D → Store → Prop} (hR : RowsA R) (hS : RowsA S) (hm : ∀ x ∈ F, okS x) (ht : AnyD t) (tb : st[0]? = some tabC) :
    SOk (f_law_2 (W64 ns i l F a4 a5 R S a8 a9 a10 (.val t) y12 y13) st) (fun ρ st' => st' = st ∧ ∃ z12 z13, ρ = W64 ns i l F a4 a5 R S a8 a9 a10 (.val t) z12 z13) V := by
  unfold f_law_2 W64
  simp
  refine SOk_at [D.dlk (dctD R), D.dct []] (fun q ρ st' => st' = st ∧ ∃ z12 z13, ρ = W64 ns i l F a4 a5 R S a8 a9 a10 (.val t) z12 z13) ⟨rfl, _, _, rfl⟩ ?_ ?_
  · rintro q dd ρ st' hq ⟨rfl, z12, z13, rfl⟩
    refine ⟨_, rfl, ?_⟩
    obtain ⟨R', g1, hR'⟩ : ∃ R' : List (Str × List Rw), GivD dd R' ∧ RowsA R' := by
      have := List.mem_of_getElem? hq
      simp only [List.mem_cons, List.not_mem_nil, or_false] at this
      rcases this with rfl | rfl
      · exact ⟨R, .inl rfl, hR⟩
      · exact ⟨[], .inr ⟨rfl, rfl⟩, ⟨(fun p h => by cases h), by simp [latR]⟩⟩
    have r1 := future_holds_any (st := st') g1 (.inl rfl) hR' hS hm ht tb
    have r2 := law_future_good_any (st := st') g1 (.inl rfl) hR' hS hm ht
    have ne : pNe (.bl (futA R' S F t)) (.bl (futA R' S F t)) = some (.bl false) := by
      cases futA R' S F t <;> rfl
    unfold f_law_1 W64
    simp [-dOf, -lkD, r1, r2, ne]
  · rintro ρ st' ⟨rfl, z12, z13, rfl⟩
    exact ⟨rfl, _, _, rfl⟩
theorem k64_turn {ns : List Int} {i : Nat} {st : Store} {x2 x3 x4 x5 x6 x7 x8 x9 x10 x11 x12 x13 : Sl} {V : D → Store → Prop} (hi : i < 100) (hn : ns.length ≤ 63) (tb : st[0]? = some tabC) : SOk (f_law_3 [.val (.lsk (ns.map .int)), .val (.int i), x2, x3, x4, x5, x6, x7, x8, x9, x10, x11, x12, x13] st) (TInv ns (i + 1)) V := by
  have hl0 : 0 < st.length := (List.getElem?_eq_some_iff.mp tb).1
  unfold f_law_3
  simp
  refine COk.of (bag_ok (by omega) hn fun st1 hb1 F1 => ?_)
  have tb1 := F1.zero hl0 tb
  generalize st.length = l at *
  simp
  refine COk.of (take_ok hb1 (many := 6) (by decide) (by decide) fun m1 st2 hm1 hb2 F2 => ?_)
  have e1 : (1 : Int) + m1 = ((1 + m1 : Nat) : Int) := by omega
  simp [-Int.natCast_add]
  rw [e1]
  refine COk.of (names_ok hb2 (many := 1 + m1) (by omega) fun folk st3 hfl hfn hf hb3 F3 => ?_)
  simp
  refine COk.of (take_ok hb3 (many := 3) (by decide) (by decide) fun m2 st4 hm2 hb4 F4 => ?_)
  have e2 : (1 : Int) + m2 = ((1 + m2 : Nat) : Int) := by omega
  simp [-Int.natCast_add]
  rw [e2]
  refine COk.of (names_ok hb4 (many := 1 + m2) (by omega) fun ws st5 hwl hwn hw hb5 F5 => ?_)
  simp
  refine COk.of (take_ok hb5 (many := 3) (by decide) (by decide) fun m3 st6 hm3 hb6 F6 => ?_)
  have e3 : (1 : Int) + m3 = ((1 + m3 : Nat) : Int) := by omega
  simp [-Int.natCast_add]
  rw [e3]
  refine COk.of (names_ok hb6 (many := 1 + m3) (by omega) fun ths st7 htl htn ht hb7 F7 => ?_)
  simp
  refine COk.of (rows_ok hb7 (most := 5) (by omega) (by omega) hwn (by omega) (by omega) (by omega) (by omega) hfn (by decide) fun R st8 hs hr hb8 F8 => ?_)
  have hRl := hs.length_le
  rw [List.length_map] at hRl
  have hR : RowsA R := rowsA_of (by omega) fun p hp => ⟨by have := (hr p hp).1; omega, fun r hr' => rwn_ok hw ht hf ((hr p hp).2 r hr')⟩
  simp
  refine COk.of (rows_ok hb8 (most := 5) (by omega) (by omega) hwn (by omega) (by omega) (by omega) (by omega) hfn (by decide) fun S st9 hs2 hr2 hb9 F9 => ?_)
  have hSl := hs2.length_le
  rw [List.length_map] at hSl
  have hS : RowsA S := rowsA_of (by omega) fun p hp => ⟨by have := (hr2 p hp).1; omega, fun r hr' => rwn_ok hw ht hf ((hr2 p hp).2 r hr')⟩
  simp
  refine COk.of (some_ok hb9 (by omega) (by omega) hfn fun g st10 hgn hg hg0 hgl hb10 F10 => ?_)
  have hg' : ∀ x ∈ g, NameS x := fun x hx => hf x (hg x hx)
  have zg : g.length ≤ sizeLine := by rw [sizeLine_eq]; omega
  have hs' : ∀ x ∈ srt g, NameS x := fun x hx => hg' x (srt_mem.mp hx)
  have hsl : (srt g).length = g.length := (srt_perm g).length_eq
  simp [sortOk_strs, sort_strs, zg, hsl]
  refine COk.of (take_ok hb10 (many := ws.length) (by omega) (by omega) fun u st11 hu hb11 F11 => ?_)
  obtain ⟨cw, ecw, mcw⟩ := at_get (l := ws) hu
  have r0 : Rs (u : Int) := .of (by omega) (by omega)
  have ix : pIx (.lst (ws.map .str)) (.int (u : Int)) = some (.str cw) := by
    simp [ecw, r0]
  have zt : ths.length + 1 ≤ sizeLine := by rw [sizeLine_eq]; omega
  have et1 : ((ths.length : Int) + 1) = ((ths.length + 1 : Nat) : Int) := by omega
  simp [-pIx, ix, zt, -Int.natCast_add, et1]
  refine COk.of (take_ok hb11 (many := ths.length + 1) (by omega) (by omega) fun v st12 hv hb12 F12 => ?_)
  obtain ⟨ct, ect, act⟩ : ∃ c : D, pIx (.lst (ths.map .str ++ [.non])) (.int (v : Int)) = some c ∧ AnyD c := by
    have r1 : Rs (v : Int) := .of (by omega) (by omega)
    obtain ⟨c, ec, mc⟩ := getAt (xs := ths.map D.str ++ [.non]) (n := ths.length + 1) hv (by simp)
    refine ⟨c, by simp [ec, r1], ?_⟩
    rcases List.mem_append.mp mc with mc | mc
    · obtain ⟨x, hx, rfl⟩ := List.mem_map.mp mc
      exact .str (ht x hx).ok (by have := (ht x hx).hi; omega)
    · rw [List.mem_singleton.mp mc]; exact .non
  simp [-pIx, ect]
  refine COk.of (take_ok hb12 (many := ws.length) (by omega) (by omega) fun u2 st13 hu2 hb13 F13 => ?_)
  obtain ⟨w, ew, mw⟩ := at_get (l := ws) hu2
  have r2 : Rs (u2 : Int) := .of (by omega) (by omega)
  have ix2 : pIx (.lst (ws.map .str)) (.int (u2 : Int)) = some (.str w) := by
    simp [ew, r2]
  simp [-pIx, ix2]
  have aG : AnyD (.tup ((srt g).map .str)) := .tup (by simp; omega) fun d hd => by
    obtain ⟨x, hx, rfl⟩ := List.mem_map.mp hd
    exact .str (hs' x hx).ok (by have := (hs' x hx).hi; omega)
  have aC : AnyD (.tup [.str cw, ct]) := .tup (by simp) fun d hd => by
    simp only [List.mem_cons, List.not_mem_nil, or_false] at hd
    rcases hd with rfl | rfl
    · exact .str (hw cw mcw).ok (by have := (hw cw mcw).hi; omega)
    · exact act
  refine COk.of (things_ok hb13 (hw w mw) aG aC fun ts st14 hts htl hb14 F14 => ?_)
  have tb14 : st14[0]? = some tabC := (((((((((((((F2.trans F3).trans F4).trans F5).trans F6).trans F7).trans F8).trans F9).trans F10).trans F11).trans F12).trans F13).trans F14)).zero hl0 tb1
  have zts : ts.length ≤ sizeLine := by rw [sizeLine_eq]; omega
  simp [zts]
  refine SOk_at ts (fun q ρ st' => st' = st14 ∧ ∃ y11 y12 y13, ρ = W64 ns i l folk (.val (.lst (ws.map .str))) (.val (.lst (ths.map .str))) R S (.val (.tup ((srt g).map .str))) (.val (.lst [.tup [.str cw, ct]])) (.val (.str w)) y11 y12 y13) ⟨rfl, x11, x12, x13, rfl⟩ ?_ ?_
  · rintro q t ρ st' hq ⟨rfl, y11, y12, y13, rfl⟩
    refine ⟨_, rfl, SOk.mono (k64_one (V := V) (y12 := y12) (y13 := y13) hR hS (fun x hx => (hf x hx).ok) (hts t (List.mem_of_getElem? hq)) tb14) (fun ρ st h => ?_) (fun _ _ h => h)⟩
    obtain ⟨e, z12, z13, e2⟩ := h
    exact ⟨e, _, z12, z13, e2⟩
  · rintro ρ st' ⟨rfl, y11, y12, y13, rfl⟩
    exact ⟨tb14, _, _, _, _, _, _, _, _, _, _, _, _, _, rfl⟩
theorem hd : ∀ ns : List Int, ns.length ≤ 63 → ∃ st, d_law [.lsk (ns.map .int)] [.tab "imagined" "imagined.<locals>.thing_of"] = .ok (.bl true) [] st := fun ns hl => by
  have : DOk (d_law [.lsk (ns.map .int)] [.tab "imagined" "imagined.<locals>.thing_of"]) fun d _ => d = .bl true := by
    unfold d_law
    refine DOk_run ?_
    unfold b_law
    obtain ⟨m, hm, em⟩ : ∃ m : Nat, m ≤ 6 ∧ (if (1 : Int) < (if (6 : Int) < (ns.length : Int) then 6 else (ns.length : Int)) then (if (6 : Int) < (ns.length : Int) then 6 else (ns.length : Int)) else 1) = (m : Int) := by
      by_cases h : (6 : Int) < (ns.length : Int)
      · exact ⟨6, by omega, by simp [h]⟩
      · by_cases h1 : (1 : Int) < (ns.length : Int)
        · exact ⟨ns.length, by omega, by rw [if_neg h, if_pos h1]⟩
        · exact ⟨1, by omega, by rw [if_neg h, if_neg h1]; rfl⟩
    have r1 : Rg (m : Int) := .of (by omega) (by omega)
    simp [em, r1]
    refine SOk_rng m (TInv ns) ⟨rfl, .no, .no, .no, .no, .no, .no, .no, .no, .no, .no, .no, .no, .no, rfl⟩ ?_ ?_
    · rintro q ρ st' hq ⟨tb, x1, x2, x3, x4, x5, x6, x7, x8, x9, x10, x11, x12, x13, rfl⟩
      exact ⟨_, rfl, k64_turn (by omega) hl tb⟩
    · rintro ρ st' ⟨tb, x1, x2, x3, x4, x5, x6, x7, x8, x9, x10, x11, x12, x13, rfl⟩
      simp
  obtain ⟨d, st, e, rfl⟩ := this
  exact ⟨st, e⟩
theorem all_mk {l : PySem.W.OpenLaw} {w : World} {K : PySem.W.Frag} {h : Heap} {mg : Str → Option Value} {fa : Addr} (hd : ∀ ns : List Int, ns.length ≤ 63 → ∃ st, d_law [.lsk (ns.map .int)] [.tab "imagined" "imagined.<locals>.thing_of"] = .ok (.bl true) [] st) (X : K.In h) (G : h.Ns mainGlobals mg) (hfa : mg "law" = some (.ref fa))
    {f0 : Addr} {od0 an0 : Option Addr} {sl0 : Array (Option Value)} {oc0 kV0 dc0 pm0 cd0 ct0 : Value}
    {f1 : Addr} {od1 an1 : Option Addr} {sl1 : Array (Option Value)} {oc1 kV1 dc1 pm1 cd1 ct1 : Value}
    {f2 : Addr} {od2 an2 : Option Addr} {sl2 : Array (Option Value)} {oc2 kV2 dc2 pm2 cd2 ct2 : Value}
    {f3 : Addr} {od3 an3 : Option Addr} {sl3 : Array (Option Value)} {oc3 kV3 dc3 pm3 cd3 ct3 : Value}
    {f4 : Addr} {od4 an4 : Option Addr} {sl4 : Array (Option Value)} {oc4 kV4 dc4 pm4 cd4 ct4 : Value}
    {f5 : Addr} {od5 an5 : Option Addr} {sl5 : Array (Option Value)} {oc5 kV5 dc5 pm5 cd5 ct5 : Value}
    {f6 : Addr} {od6 an6 : Option Addr} {sl6 : Array (Option Value)} {oc6 kV6 dc6 pm6 cd6 ct6 : Value}
    {f7 : Addr} {od7 an7 : Option Addr} {sl7 : Array (Option Value)} {oc7 kV7 dc7 pm7 cd7 ct7 : Value}
    {f8 : Addr} {od8 an8 : Option Addr} {sl8 : Array (Option Value)} {oc8 kV8 dc8 pm8 cd8 ct8 : Value}
    {f9 : Addr} {od9 an9 : Option Addr} {sl9 : Array (Option Value)} {oc9 kV9 dc9 pm9 cd9 ct9 : Value}
    {f10 : Addr} {od10 an10 : Option Addr} {sl10 : Array (Option Value)} {oc10 kV10 dc10 pm10 cd10 ct10 : Value}
    {f11 : Addr} {od11 an11 : Option Addr} {sl11 : Array (Option Value)} {oc11 kV11 dc11 pm11 cd11 ct11 : Value}
    {f12 : Addr} {od12 an12 : Option Addr} {sl12 : Array (Option Value)} {oc12 kV12 dc12 pm12 cd12 ct12 : Value}
    {f13 : Addr} {od13 an13 : Option Addr} {sl13 : Array (Option Value)} {oc13 kV13 dc13 pm13 cd13 ct13 : Value}
    {f14 : Addr} {od14 an14 : Option Addr} {sl14 : Array (Option Value)} {oc14 kV14 dc14 pm14 cd14 ct14 : Value}
    {f15 : Addr} {od15 an15 : Option Addr} {sl15 : Array (Option Value)} {oc15 kV15 dc15 pm15 cd15 ct15 : Value}
    {f16 : Addr} {od16 an16 : Option Addr} {sl16 : Array (Option Value)} {oc16 kV16 dc16 pm16 cd16 ct16 : Value}
    {f17 : Addr} {od17 an17 : Option Addr} {sl17 : Array (Option Value)} {oc17 kV17 dc17 pm17 ct17 : Value}
    {c17 P17 : Addr} {oo17 : Option Addr} {vs17 : Array Value} {os17 : Array (Option Value)}
    {T17 : Addr} {tc17 : Value} {td17 : Option Addr} {tn17 : Nat} {ts17 : Array (Option Value)}
    {tv17_0 : Addr}
    {qc17_0 : Option Addr} {qn17_0 : Nat} {qs17_0 : Array (Option Value)}
    {f18 : Addr} {od18 an18 : Option Addr} {sl18 : Array (Option Value)} {oc18 kV18 dc18 pm18 cd18 ct18 : Value}
    {f19 : Addr} {od19 an19 : Option Addr} {sl19 : Array (Option Value)} {oc19 kV19 dc19 pm19 cd19 ct19 : Value}
    {f20 : Addr} {od20 an20 : Option Addr} {sl20 : Array (Option Value)} {oc20 kV20 dc20 pm20 cd20 ct20 : Value}
    {f21 : Addr} {od21 an21 : Option Addr} {sl21 : Array (Option Value)} {oc21 kV21 dc21 pm21 cd21 ct21 : Value}
    {f22 : Addr} {od22 an22 : Option Addr} {sl22 : Array (Option Value)} {oc22 kV22 dc22 pm22 cd22 ct22 : Value}
    {f23 : Addr} {od23 an23 : Option Addr} {sl23 : Array (Option Value)} {oc23 kV23 dc23 pm23 cd23 ct23 : Value}
    {f24 : Addr} {od24 an24 : Option Addr} {sl24 : Array (Option Value)} {oc24 kV24 dc24 pm24 cd24 ct24 : Value}
    {u_LETTERS : _}
    {u_MOST_LETTERS : _}
    {u_MOST_SETS : _}
    (a0 : PySem.W.nsIn K mainGlobals "_law_bag" = some (some (.ref f0)))
    (l0 : K.lookup f0 = some ⟨oc0, od0, .func (PySem.W.fnOf "_law_bag" "_law_bag" (defArgs s__law_bag) (defBody s__law_bag) (defScope s__law_bag) .none kV0 dc0 pm0 an0 cd0 ct0), sl0⟩)
    (c0_ : PySem.W.codeIn K cd0 "_law_bag" = true)
    (k0 : PySem.W.keepIn K (.ref f0) = true)
    (a1 : PySem.W.nsIn K mainGlobals "_law_take" = some (some (.ref f1)))
    (l1 : K.lookup f1 = some ⟨oc1, od1, .func (PySem.W.fnOf "_law_take" "_law_take" (defArgs s__law_take) (defBody s__law_take) (defScope s__law_take) .none kV1 dc1 pm1 an1 cd1 ct1), sl1⟩)
    (c1_ : PySem.W.codeIn K cd1 "_law_take" = true)
    (k1 : PySem.W.keepIn K (.ref f1) = true)
    (a2 : PySem.W.nsIn K mainGlobals "_law_names" = some (some (.ref f2)))
    (l2 : K.lookup f2 = some ⟨oc2, od2, .func (PySem.W.fnOf "_law_names" "_law_names" (defArgs s__law_names) (defBody s__law_names) (defScope s__law_names) .none kV2 dc2 pm2 an2 cd2 ct2), sl2⟩)
    (c2_ : PySem.W.codeIn K cd2 "_law_names" = true)
    (k2 : PySem.W.keepIn K (.ref f2) = true)
    (a3 : PySem.W.nsIn K mainGlobals "_law_thing" = some (some (.ref f3)))
    (l3 : K.lookup f3 = some ⟨oc3, od3, .func (PySem.W.fnOf "_law_thing" "_law_thing" (defArgs s__law_thing) (defBody s__law_thing) (defScope s__law_thing) .none kV3 dc3 pm3 an3 cd3 ct3), sl3⟩)
    (c3_ : PySem.W.codeIn K cd3 "_law_thing" = true)
    (k3 : PySem.W.keepIn K (.ref f3) = true)
    (a4 : PySem.W.nsIn K mainGlobals "_law_hearers" = some (some (.ref f4)))
    (l4 : K.lookup f4 = some ⟨oc4, od4, .func (PySem.W.fnOf "_law_hearers" "_law_hearers" (defArgs s__law_hearers) (defBody s__law_hearers) (defScope s__law_hearers) .none kV4 dc4 pm4 an4 cd4 ct4), sl4⟩)
    (c4_ : PySem.W.codeIn K cd4 "_law_hearers" = true)
    (k4 : PySem.W.keepIn K (.ref f4) = true)
    (a5 : PySem.W.nsIn K mainGlobals "_law_rows" = some (some (.ref f5)))
    (l5 : K.lookup f5 = some ⟨oc5, od5, .func (PySem.W.fnOf "_law_rows" "_law_rows" (defArgs s__law_rows) (defBody s__law_rows) (defScope s__law_rows) .none kV5 dc5 pm5 an5 cd5 ct5), sl5⟩)
    (c5_ : PySem.W.codeIn K cd5 "_law_rows" = true)
    (k5 : PySem.W.keepIn K (.ref f5) = true)
    (a6 : PySem.W.nsIn K mainGlobals "_law_some" = some (some (.ref f6)))
    (l6 : K.lookup f6 = some ⟨oc6, od6, .func (PySem.W.fnOf "_law_some" "_law_some" (defArgs s__law_some) (defBody s__law_some) (defScope s__law_some) .none kV6 dc6 pm6 an6 cd6 ct6), sl6⟩)
    (c6_ : PySem.W.codeIn K cd6 "_law_some" = true)
    (k6 : PySem.W.keepIn K (.ref f6) = true)
    (a7 : PySem.W.nsIn K mainGlobals "_law_any" = some (some (.ref f7)))
    (l7 : K.lookup f7 = some ⟨oc7, od7, .func (PySem.W.fnOf "_law_any" "_law_any" (defArgs s__law_any) (defBody s__law_any) (defScope s__law_any) .none kV7 dc7 pm7 an7 cd7 ct7), sl7⟩)
    (c7_ : PySem.W.codeIn K cd7 "_law_any" = true)
    (k7 : PySem.W.keepIn K (.ref f7) = true)
    (a8 : PySem.W.nsIn K mainGlobals "_law_things" = some (some (.ref f8)))
    (l8 : K.lookup f8 = some ⟨oc8, od8, .func (PySem.W.fnOf "_law_things" "_law_things" (defArgs s__law_things) (defBody s__law_things) (defScope s__law_things) .none kV8 dc8 pm8 an8 cd8 ct8), sl8⟩)
    (c8_ : PySem.W.codeIn K cd8 "_law_things" = true)
    (k8 : PySem.W.keepIn K (.ref f8) = true)
    (a9 : PySem.W.nsIn K mainGlobals "is_tuple_of" = some (some (.ref f9)))
    (l9 : K.lookup f9 = some ⟨oc9, od9, .func (PySem.W.fnOf "is_tuple_of" "is_tuple_of" (defArgs s_is_tuple_of) (defBody s_is_tuple_of) (defScope s_is_tuple_of) .none kV9 dc9 pm9 an9 cd9 ct9), sl9⟩)
    (c9_ : PySem.W.codeIn K cd9 "is_tuple_of" = true)
    (k9 : PySem.W.keepIn K (.ref f9) = true)
    (a10 : PySem.W.nsIn K mainGlobals "is_name" = some (some (.ref f10)))
    (l10 : K.lookup f10 = some ⟨oc10, od10, .func (PySem.W.fnOf "is_name" "is_name" (defArgs s_is_name) (defBody s_is_name) (defScope s_is_name) .none kV10 dc10 pm10 an10 cd10 ct10), sl10⟩)
    (c10_ : PySem.W.codeIn K cd10 "is_name" = true)
    (k10 : PySem.W.keepIn K (.ref f10) = true)
    (a11 : PySem.W.nsIn K mainGlobals "are_names" = some (some (.ref f11)))
    (l11 : K.lookup f11 = some ⟨oc11, od11, .func (PySem.W.fnOf "are_names" "are_names" (defArgs s_are_names) (defBody s_are_names) (defScope s_are_names) .none kV11 dc11 pm11 an11 cd11 ct11), sl11⟩)
    (c11_ : PySem.W.codeIn K cd11 "are_names" = true)
    (k11 : PySem.W.keepIn K (.ref f11) = true)
    (a12 : PySem.W.nsIn K mainGlobals "is_family_of" = some (some (.ref f12)))
    (l12 : K.lookup f12 = some ⟨oc12, od12, .func (PySem.W.fnOf "is_family_of" "is_family_of" (defArgs s_is_family_of) (defBody s_is_family_of) (defScope s_is_family_of) .none kV12 dc12 pm12 an12 cd12 ct12), sl12⟩)
    (c12_ : PySem.W.codeIn K cd12 "is_family_of" = true)
    (k12 : PySem.W.keepIn K (.ref f12) = true)
    (a13 : PySem.W.nsIn K mainGlobals "are_calls" = some (some (.ref f13)))
    (l13 : K.lookup f13 = some ⟨oc13, od13, .func (PySem.W.fnOf "are_calls" "are_calls" (defArgs s_are_calls) (defBody s_are_calls) (defScope s_are_calls) .none kV13 dc13 pm13 an13 cd13 ct13), sl13⟩)
    (c13_ : PySem.W.codeIn K cd13 "are_calls" = true)
    (k13 : PySem.W.keepIn K (.ref f13) = true)
    (a14 : PySem.W.nsIn K mainGlobals "is_hit" = some (some (.ref f14)))
    (l14 : K.lookup f14 = some ⟨oc14, od14, .func (PySem.W.fnOf "is_hit" "is_hit" (defArgs s_is_hit) (defBody s_is_hit) (defScope s_is_hit) .none kV14 dc14 pm14 an14 cd14 ct14), sl14⟩)
    (c14_ : PySem.W.codeIn K cd14 "is_hit" = true)
    (k14 : PySem.W.keepIn K (.ref f14) = true)
    (a15 : PySem.W.nsIn K mainGlobals "thing_heard" = some (some (.ref f15)))
    (l15 : K.lookup f15 = some ⟨oc15, od15, .func (PySem.W.fnOf "thing_heard" "thing_heard" (defArgs s_thing_heard) (defBody s_thing_heard) (defScope s_thing_heard) .none kV15 dc15 pm15 an15 cd15 ct15), sl15⟩)
    (c15_ : PySem.W.codeIn K cd15 "thing_heard" = true)
    (k15 : PySem.W.keepIn K (.ref f15) = true)
    (a16 : PySem.W.nsIn K mainGlobals "followed" = some (some (.ref f16)))
    (l16 : K.lookup f16 = some ⟨oc16, od16, .func (PySem.W.fnOf "followed" "followed" (defArgs s_followed) (defBody s_followed) (defScope s_followed) .none kV16 dc16 pm16 an16 cd16 ct16), sl16⟩)
    (c16_ : PySem.W.codeIn K cd16 "followed" = true)
    (k16 : PySem.W.keepIn K (.ref f16) = true)
    (a17 : PySem.W.nsIn K mainGlobals "imagined" = some (some (.ref f17)))
    (l17 : K.lookup f17 = some ⟨oc17, od17, .func (PySem.W.fnOf "imagined" "imagined" (defArgs s_imagined) (defBody s_imagined) (defScope s_imagined) (.ref T17) kV17 dc17 pm17 an17 (.ref c17) ct17), sl17⟩)
    (c17_ : PySem.W.codeIn K (.ref c17) "imagined" = true)
    (k17 : PySem.W.keepIn K (.ref f17) = true)
    (t17 : K.lookup T17 = some ⟨tc17, td17, .seq #[.ref tv17_0] tn17, ts17⟩)
    (x17 : K.lookup c17 = some ⟨.type "code", oo17, .fields vs17, os17⟩)
    (y17 : vs17.toList.getD 11 .none = .ref P17)
    (z17 : PySem.W.codeHdIn K c17 P17 = true)
    (w17 : K.lookup P17 = none)
    (h17 : h.get? P17 = some { cls := .none, data := .fields #[] })
    (q17_0 : K.lookup tv17_0 = some ⟨.type "tuple", qc17_0, .seq #[] qn17_0, qs17_0⟩)
    (a18 : PySem.W.nsIn K mainGlobals "future_holds" = some (some (.ref f18)))
    (l18 : K.lookup f18 = some ⟨oc18, od18, .func (PySem.W.fnOf "future_holds" "future_holds" (defArgs s_future_holds) (defBody s_future_holds) (defScope s_future_holds) .none kV18 dc18 pm18 an18 cd18 ct18), sl18⟩)
    (c18_ : PySem.W.codeIn K cd18 "future_holds" = true)
    (k18 : PySem.W.keepIn K (.ref f18) = true)
    (a19 : PySem.W.nsIn K mainGlobals "_law_is_name" = some (some (.ref f19)))
    (l19 : K.lookup f19 = some ⟨oc19, od19, .func (PySem.W.fnOf "_law_is_name" "_law_is_name" (defArgs s__law_is_name) (defBody s__law_is_name) (defScope s__law_is_name) .none kV19 dc19 pm19 an19 cd19 ct19), sl19⟩)
    (c19_ : PySem.W.codeIn K cd19 "_law_is_name" = true)
    (k19 : PySem.W.keepIn K (.ref f19) = true)
    (a20 : PySem.W.nsIn K mainGlobals "_law_are_names" = some (some (.ref f20)))
    (l20 : K.lookup f20 = some ⟨oc20, od20, .func (PySem.W.fnOf "_law_are_names" "_law_are_names" (defArgs s__law_are_names) (defBody s__law_are_names) (defScope s__law_are_names) .none kV20 dc20 pm20 an20 cd20 ct20), sl20⟩)
    (c20_ : PySem.W.codeIn K cd20 "_law_are_names" = true)
    (k20 : PySem.W.keepIn K (.ref f20) = true)
    (a21 : PySem.W.nsIn K mainGlobals "_law_heard" = some (some (.ref f21)))
    (l21 : K.lookup f21 = some ⟨oc21, od21, .func (PySem.W.fnOf "_law_heard" "_law_heard" (defArgs s__law_heard) (defBody s__law_heard) (defScope s__law_heard) .none kV21 dc21 pm21 an21 cd21 ct21), sl21⟩)
    (c21_ : PySem.W.codeIn K cd21 "_law_heard" = true)
    (k21 : PySem.W.keepIn K (.ref f21) = true)
    (a22 : PySem.W.nsIn K mainGlobals "_law_meaning" = some (some (.ref f22)))
    (l22 : K.lookup f22 = some ⟨oc22, od22, .func (PySem.W.fnOf "_law_meaning" "_law_meaning" (defArgs s__law_meaning) (defBody s__law_meaning) (defScope s__law_meaning) .none kV22 dc22 pm22 an22 cd22 ct22), sl22⟩)
    (c22_ : PySem.W.codeIn K cd22 "_law_meaning" = true)
    (k22 : PySem.W.keepIn K (.ref f22) = true)
    (a23 : PySem.W.nsIn K mainGlobals "_law_future_good" = some (some (.ref f23)))
    (l23 : K.lookup f23 = some ⟨oc23, od23, .func (PySem.W.fnOf "_law_future_good" "_law_future_good" (defArgs s__law_future_good) (defBody s__law_future_good) (defScope s__law_future_good) .none kV23 dc23 pm23 an23 cd23 ct23), sl23⟩)
    (c23_ : PySem.W.codeIn K cd23 "_law_future_good" = true)
    (k23 : PySem.W.keepIn K (.ref f23) = true)
    (a24 : PySem.W.nsIn K mainGlobals "law" = some (some (.ref f24)))
    (l24 : K.lookup f24 = some ⟨oc24, od24, .func (PySem.W.fnOf "law" "law" (defArgs s_law) (defBody s_law) (defScope s_law) .none kV24 dc24 pm24 an24 cd24 ct24), sl24⟩)
    (c24_ : PySem.W.codeIn K cd24 "law" = true)
    (k24 : PySem.W.keepIn K (.ref f24) = true)
    (z_abs : PySem.W.nsIn K mainGlobals "abs" = some none)
    (z_all : PySem.W.nsIn K mainGlobals "all" = some none)
    (z_any : PySem.W.nsIn K mainGlobals "any" = some none)
    (z_bool : PySem.W.nsIn K mainGlobals "bool" = some none)
    (z_isinstance : PySem.W.nsIn K mainGlobals "isinstance" = some none)
    (z_len : PySem.W.nsIn K mainGlobals "len" = some none)
    (z_list : PySem.W.nsIn K mainGlobals "list" = some none)
    (z_max : PySem.W.nsIn K mainGlobals "max" = some none)
    (z_min : PySem.W.nsIn K mainGlobals "min" = some none)
    (z_range : PySem.W.nsIn K mainGlobals "range" = some none)
    (z_reversed : PySem.W.nsIn K mainGlobals "reversed" = some none)
    (z_set : PySem.W.nsIn K mainGlobals "set" = some none)
    (z_sorted : PySem.W.nsIn K mainGlobals "sorted" = some none)
    (z_str : PySem.W.nsIn K mainGlobals "str" = some none)
    (z_tuple : PySem.W.nsIn K mainGlobals "tuple" = some none)
    (y_LETTERS : PySem.W.nsIn K mainGlobals "LETTERS" = some (some (.str "abcdefghijklmnopqrstuvwxyz" u_LETTERS)))
    (y_MOST_LETTERS : PySem.W.nsIn K mainGlobals "MOST_LETTERS" = some (some (.int 8 u_MOST_LETTERS)))
    (y_MOST_SETS : PySem.W.nsIn K mainGlobals "MOST_SETS" = some (some (.int 64 u_MOST_SETS))) :
    LawT l w K 11 "_law_script" mg fa h := by
  have e := hfa.symm.trans (PySem.W.mg_of X G a24)
  cases e
  have T : Fx K mg := ⟨PySem.W.mg_none_of X G z_abs, PySem.W.mg_none_of X G z_all, PySem.W.mg_none_of X G z_any, PySem.W.mg_none_of X G z_bool, PySem.W.mg_none_of X G z_isinstance, PySem.W.mg_none_of X G z_len, PySem.W.mg_none_of X G z_list, PySem.W.mg_none_of X G z_max, PySem.W.mg_none_of X G z_min, PySem.W.mg_none_of X G z_range, PySem.W.mg_none_of X G z_reversed, PySem.W.mg_none_of X G z_set, PySem.W.mg_none_of X G z_sorted, PySem.W.mg_none_of X G z_str, PySem.W.mg_none_of X G z_tuple, ⟨_, PySem.W.mg_of X G y_LETTERS⟩, ⟨_, PySem.W.mg_of X G y_MOST_LETTERS⟩, ⟨_, PySem.W.mg_of X G y_MOST_SETS⟩⟩
  have F0 := fun_mk (st := s__law_bag) l0 c0_ k0
  have D0 : Dfn K mg "_law_bag" ["_law_script", "_law_at"] s__law_bag := ⟨_, _, F0, PySem.W.mg_of X G a0, (F0.binds (ps := ["_law_script", "_law_at"]) fun _ _ _ _ _ _ us hl => match us, hl with | [_, _], _ => rfl)⟩
  have F1 := fun_mk (st := s__law_take) l1 c1_ k1
  have D1 : Dfn K mg "_law_take" ["_law_bag_here", "_law_many"] s__law_take := ⟨_, _, F1, PySem.W.mg_of X G a1, (F1.binds (ps := ["_law_bag_here", "_law_many"]) fun _ _ _ _ _ _ us hl => match us, hl with | [_, _], _ => rfl)⟩
  have F2 := fun_mk (st := s__law_names) l2 c2_ k2
  have D2 : Dfn K mg "_law_names" ["_law_bag_here", "_law_many"] s__law_names := ⟨_, _, F2, PySem.W.mg_of X G a2, (F2.binds (ps := ["_law_bag_here", "_law_many"]) fun _ _ _ _ _ _ us hl => match us, hl with | [_, _], _ => rfl)⟩
  have F3 := fun_mk (st := s__law_thing) l3 c3_ k3
  have D3 : Dfn K mg "_law_thing" ["_law_bag_here", "_law_words", "_law_things_here"] s__law_thing := ⟨_, _, F3, PySem.W.mg_of X G a3, (F3.binds (ps := ["_law_bag_here", "_law_words", "_law_things_here"]) fun _ _ _ _ _ _ us hl => match us, hl with | [_, _, _], _ => rfl)⟩
  have F4 := fun_mk (st := s__law_hearers) l4 c4_ k4
  have D4 : Dfn K mg "_law_hearers" ["_law_bag_here", "_law_members"] s__law_hearers := ⟨_, _, F4, PySem.W.mg_of X G a4, (F4.binds (ps := ["_law_bag_here", "_law_members"]) fun _ _ _ _ _ _ us hl => match us, hl with | [_, _], _ => rfl)⟩
  have F5 := fun_mk (st := s__law_rows) l5 c5_ k5
  have D5 : Dfn K mg "_law_rows" ["_law_bag_here", "_law_words", "_law_things_here", "_law_members", "_law_most"] s__law_rows := ⟨_, _, F5, PySem.W.mg_of X G a5, (F5.binds (ps := ["_law_bag_here", "_law_words", "_law_things_here", "_law_members", "_law_most"]) fun _ _ _ _ _ _ us hl => match us, hl with | [_, _, _, _, _], _ => rfl)⟩
  have F6 := fun_mk (st := s__law_some) l6 c6_ k6
  have D6 : Dfn K mg "_law_some" ["_law_bag_here", "_law_things_here"] s__law_some := ⟨_, _, F6, PySem.W.mg_of X G a6, (F6.binds (ps := ["_law_bag_here", "_law_things_here"]) fun _ _ _ _ _ _ us hl => match us, hl with | [_, _], _ => rfl)⟩
  have F7 := fun_mk (st := s__law_any) l7 c7_ k7
  have D7 : Dfn K mg "_law_any" ["_law_bag_here", "_law_deep"] s__law_any := ⟨_, _, F7, PySem.W.mg_of X G a7, (F7.binds (ps := ["_law_bag_here", "_law_deep"]) fun _ _ _ _ _ _ us hl => match us, hl with | [_, _], _ => rfl)⟩
  have F8 := fun_mk (st := s__law_things) l8 c8_ k8
  have D8 : Dfn K mg "_law_things" ["_law_bag_here", "_law_right"] s__law_things := ⟨_, _, F8, PySem.W.mg_of X G a8, (F8.binds (ps := ["_law_bag_here", "_law_right"]) fun _ _ _ _ _ _ us hl => match us, hl with | [_, _], _ => rfl)⟩
  have F9 := fun_mk (st := s_is_tuple_of) l9 c9_ k9
  have D9 : Dfn K mg "is_tuple_of" ["thing", "many"] s_is_tuple_of := ⟨_, _, F9, PySem.W.mg_of X G a9, (F9.binds (ps := ["thing", "many"]) fun _ _ _ _ _ _ us hl => match us, hl with | [_, _], _ => rfl)⟩
  have F10 := fun_mk (st := s_is_name) l10 c10_ k10
  have D10 : Dfn K mg "is_name" ["thing"] s_is_name := ⟨_, _, F10, PySem.W.mg_of X G a10, (F10.binds (ps := ["thing"]) fun _ _ _ _ _ _ us hl => match us, hl with | [_], _ => rfl)⟩
  have F11 := fun_mk (st := s_are_names) l11 c11_ k11
  have D11 : Dfn K mg "are_names" ["thing"] s_are_names := ⟨_, _, F11, PySem.W.mg_of X G a11, (F11.binds (ps := ["thing"]) fun _ _ _ _ _ _ us hl => match us, hl with | [_], _ => rfl)⟩
  have F12 := fun_mk (st := s_is_family_of) l12 c12_ k12
  have D12 : Dfn K mg "is_family_of" ["thing", "members"] s_is_family_of := ⟨_, _, F12, PySem.W.mg_of X G a12, (F12.binds (ps := ["thing", "members"]) fun _ _ _ _ _ _ us hl => match us, hl with | [_, _], _ => rfl)⟩
  have F13 := fun_mk (st := s_are_calls) l13 c13_ k13
  have D13 : Dfn K mg "are_calls" ["thing"] s_are_calls := ⟨_, _, F13, PySem.W.mg_of X G a13, (F13.binds (ps := ["thing"]) fun _ _ _ _ _ _ us hl => match us, hl with | [_], _ => rfl)⟩
  have F14 := fun_mk (st := s_is_hit) l14 c14_ k14
  have D14 : Dfn K mg "is_hit" ["hearers", "family"] s_is_hit := ⟨_, _, F14, PySem.W.mg_of X G a14, (F14.binds (ps := ["hearers", "family"]) fun _ _ _ _ _ _ us hl => match us, hl with | [_, _], _ => rfl)⟩
  have F15 := fun_mk (st := s_thing_heard) l15 c15_ k15
  have D15 : Dfn K mg "thing_heard" ["rows", "family"] s_thing_heard := ⟨_, _, F15, PySem.W.mg_of X G a15, (F15.binds (ps := ["rows", "family"]) fun _ _ _ _ _ _ us hl => match us, hl with | [_, _], _ => rfl)⟩
  have F16 := fun_mk (st := s_followed) l16 c16_ k16
  have D16 : Dfn K mg "followed" ["word", "thing_of"] s_followed := ⟨_, _, F16, PySem.W.mg_of X G a16, (F16.binds (ps := ["word", "thing_of"]) fun _ _ _ _ _ _ us hl => match us, hl with | [_, _], _ => rfl)⟩
  have F17 : FunD K "imagined" "imagined" (defArgs s_imagined) (defBody s_imagined) (defScope s_imagined) [.ref tv17_0] [] f17 _ := ⟨⟨_, _, _, _, _, _, _, _, _, _, rfl, l17, c17_, .inr ⟨by simp, T17, _, [.ref tv17_0], _, rfl, t17, rfl, .cons rfl (.nil)⟩, .inl rfl⟩, k17⟩
  obtain ⟨_, KB17_3⟩ := F17.kbindsD (ps := ["rows", "word", "family", "calls"]) 3 ["calls"] (fun us _ ws => us ++ ws) (by simp) (fun r1 _ r2 => r1.append r2) fun _ _ _ _ _ _ _ us its ws l1 l2 l3 => match us, l1, its, l2, ws, l3 with | [_, _, _], _, [_], _, [_], _ => ⟨_, rfl, rfl⟩
  have D17_k3 : Dfk K mg "imagined" ["rows", "word", "family", "calls"] s_imagined 3 ["calls"] := ⟨_, _, funD_v F17, PySem.W.mg_of X G a17, k17, KB17_3⟩
  have F18 := fun_mk (st := s_future_holds) l18 c18_ k18
  have D18 : Dfn K mg "future_holds" ["one", "other", "members", "thing"] s_future_holds := ⟨_, _, F18, PySem.W.mg_of X G a18, (F18.binds (ps := ["one", "other", "members", "thing"]) fun _ _ _ _ _ _ us hl => match us, hl with | [_, _, _, _], _ => rfl)⟩
  have F19 := fun_mk (st := s__law_is_name) l19 c19_ k19
  have D19 : Dfn K mg "_law_is_name" ["_law_thing_here"] s__law_is_name := ⟨_, _, F19, PySem.W.mg_of X G a19, (F19.binds (ps := ["_law_thing_here"]) fun _ _ _ _ _ _ us hl => match us, hl with | [_], _ => rfl)⟩
  have F20 := fun_mk (st := s__law_are_names) l20 c20_ k20
  have D20 : Dfn K mg "_law_are_names" ["_law_thing_here"] s__law_are_names := ⟨_, _, F20, PySem.W.mg_of X G a20, (F20.binds (ps := ["_law_thing_here"]) fun _ _ _ _ _ _ us hl => match us, hl with | [_], _ => rfl)⟩
  have F21 := fun_mk (st := s__law_heard) l21 c21_ k21
  have D21 : Dfn K mg "_law_heard" ["_law_rows_here", "_law_family"] s__law_heard := ⟨_, _, F21, PySem.W.mg_of X G a21, (F21.binds (ps := ["_law_rows_here", "_law_family"]) fun _ _ _ _ _ _ us hl => match us, hl with | [_, _], _ => rfl)⟩
  have F22 := fun_mk (st := s__law_meaning) l22 c22_ k22
  have D22 : Dfn K mg "_law_meaning" ["_law_rows_here", "_law_word", "_law_family", "_law_anew"] s__law_meaning := ⟨_, _, F22, PySem.W.mg_of X G a22, (F22.binds (ps := ["_law_rows_here", "_law_word", "_law_family", "_law_anew"]) fun _ _ _ _ _ _ us hl => match us, hl with | [_, _, _, _], _ => rfl)⟩
  have F23 := fun_mk (st := s__law_future_good) l23 c23_ k23
  have D23 : Dfn K mg "_law_future_good" ["_law_one", "_law_other", "_law_members", "_law_thing_here"] s__law_future_good := ⟨_, _, F23, PySem.W.mg_of X G a23, (F23.binds (ps := ["_law_one", "_law_other", "_law_members", "_law_thing_here"]) fun _ _ _ _ _ _ us hl => match us, hl with | [_, _, _, _], _ => rfl)⟩
  have FL := fun_mk (st := s_law) l24 c24_ k24
  refine ⟨PySem.W.fnOf "law" "law" (defArgs s_law) (defBody s_law) (defScope s_law) .none kV24 dc24 pm24 an24 cd24 ct24, [(c17, P17)], List.forall_mem_cons.mpr ⟨h17, List.forall_mem_nil _⟩, List.forall_mem_cons.mpr ⟨w17, List.forall_mem_nil _⟩, List.forall_mem_cons.mpr ⟨PySem.W.codeHd_of_K X z17, List.forall_mem_nil _⟩, fun s v => .of_eq rfl, fun base _ _ TB => ?_⟩
  have TD_imagined : TabD K mg base "imagined" := ⟨_, _, _, _, _, _, _, PySem.W.mg_of X G a17, l17, rfl, z17, TB (c17, P17) (by simp)⟩
  have C__law_bag := ok__law_bag (P := l.prog) (wd := w) (base := base) T D0 
  have C__law_take := ok__law_take (P := l.prog) (wd := w) (base := base) T D1 
  have C__law_names := ok__law_names (P := l.prog) (wd := w) (base := base) T D2 C__law_take
  have C__law_thing := ok__law_thing (P := l.prog) (wd := w) (base := base) T D3 C__law_take
  have C__law_hearers := ok__law_hearers (P := l.prog) (wd := w) (base := base) T D4 C__law_take
  have C__law_rows := ok__law_rows (P := l.prog) (wd := w) (base := base) T D5 C__law_take C__law_hearers C__law_thing
  have C__law_some := ok__law_some (P := l.prog) (wd := w) (base := base) T D6 C__law_take
  have C__law_any := ok__law_any (P := l.prog) (wd := w) (base := base) T D7 C__law_take 8
  have C__law_things := ok__law_things (P := l.prog) (wd := w) (base := base) T D8 C__law_any C__law_take
  have C_is_tuple_of := ok_is_tuple_of (P := l.prog) (wd := w) (base := base) T D9 
  have C_is_name := ok_is_name (P := l.prog) (wd := w) (base := base) T D10 
  have C_are_names := ok_are_names (P := l.prog) (wd := w) (base := base) T D11 C_is_name
  have C_is_family_of := ok_is_family_of (P := l.prog) (wd := w) (base := base) T D12 C_are_names
  have C_are_calls := ok_are_calls (P := l.prog) (wd := w) (base := base) T D13 C_is_name C_is_tuple_of
  have C_is_hit := ok_is_hit (P := l.prog) (wd := w) (base := base) T D14 
  have C_thing_heard := ok_thing_heard (P := l.prog) (wd := w) (base := base) T D15 C_is_hit
  have C_followed := ok_followed (P := l.prog) (wd := w) (base := base) T D16 
  have C_imagined_atk3 := okk_imagined (P := l.prog) (wd := w) (base := base) T TD_imagined D17_k3 C_thing_heard C_followed
  have C_future_holds := ok_future_holds (P := l.prog) (wd := w) (base := base) T D18 C_imagined_atk3 C_is_name C_is_family_of C_are_calls C_is_tuple_of
  have C__law_is_name := ok__law_is_name (P := l.prog) (wd := w) (base := base) T D19 
  have C__law_are_names := ok__law_are_names (P := l.prog) (wd := w) (base := base) T D20 C__law_is_name
  have C__law_heard := ok__law_heard (P := l.prog) (wd := w) (base := base) T D21 
  have C__law_meaning := ok__law_meaning (P := l.prog) (wd := w) (base := base) T D22 C__law_heard
  have C__law_future_good := ok__law_future_good (P := l.prog) (wd := w) (base := base) T D23 C__law_meaning C__law_is_name C__law_are_names
  exact lawT_of (ts := [(P17, "imagined", "imagined.<locals>.thing_of")]) (ok_law (P := l.prog) (wd := w) (base := base) T C__law_things C__law_future_good C_future_holds C__law_take C__law_some C__law_rows C__law_names C__law_bag (PySem.W.mg_of X G a24) FL) (by simp) (by
    intro t ht
    simp only [List.mem_cons, List.not_mem_nil, or_false] at ht
    rcases ht with rfl <;> first | exact tabOf_mk (PySem.W.mg_of X G a17) l17 rfl z17) hd
end LW
open PySem PySem.W PyProof.Rows
set_option maxRecDepth 100000 in
set_option maxHeartbeats 0 in
theorem PySem.Challenge.cw_allheard_k64_futures_of_any_object_holds : PySem.Challenge.rw_allheard_k64_futures_of_any_object.Holds := by
  refine LW.headQ.2 ?_
  unfold LW.headQ
  dsimp only
  k_fill
  refine DL.law_walkT (l := PySem.Challenge.rw_allheard_k64_futures_of_any_object) (k := 11) (x := "_law_script") rfl rfl ⟨rfl, by decide, by decide⟩ (fun w h Y => PySem.W.km_in_of Y) ?F
  case F =>
    intro w mg fa h Y KX G hmg
    refine' LW.all_mk LW.hd KX G hmg ?a0 ?l0 ?c0_ ?k0 ?a1 ?l1 ?c1_ ?k1 ?a2 ?l2 ?c2_ ?k2 ?a3 ?l3 ?c3_ ?k3 ?a4 ?l4 ?c4_ ?k4 ?a5 ?l5 ?c5_ ?k5 ?a6 ?l6 ?c6_ ?k6 ?a7 ?l7 ?c7_ ?k7 ?a8 ?l8 ?c8_ ?k8 ?a9 ?l9 ?c9_ ?k9 ?a10 ?l10 ?c10_ ?k10 ?a11 ?l11 ?c11_ ?k11 ?a12 ?l12 ?c12_ ?k12 ?a13 ?l13 ?c13_ ?k13 ?a14 ?l14 ?c14_ ?k14 ?a15 ?l15 ?c15_ ?k15 ?a16 ?l16 ?c16_ ?k16 ?a17 ?l17 ?c17_ ?k17 ?t17 ?x17 ?y17 ?z17 ?w17 ?h17 ?q17_0 ?a18 ?l18 ?c18_ ?k18 ?a19 ?l19 ?c19_ ?k19 ?a20 ?l20 ?c20_ ?k20 ?a21 ?l21 ?c21_ ?k21 ?a22 ?l22 ?c22_ ?k22 ?a23 ?l23 ?c23_ ?k23 ?a24 ?l24 ?c24_ ?k24 ?z_abs ?z_all ?z_any ?z_bool ?z_isinstance ?z_len ?z_list ?z_max ?z_min ?z_range ?z_reversed ?z_set ?z_sorted ?z_str ?z_tuple ?y_LETTERS ?y_MOST_LETTERS ?y_MOST_SETS
    (case a0 => k_is)
    (case l0 => k_is)
    (case c0_ => k_is)
    (case k0 => k_is)
    (case a1 => k_is)
    (case l1 => k_is)
    (case c1_ => k_is)
    (case k1 => k_is)
    (case a2 => k_is)
    (case l2 => k_is)
    (case c2_ => k_is)
    (case k2 => k_is)
    (case a3 => k_is)
    (case l3 => k_is)
    (case c3_ => k_is)
    (case k3 => k_is)
    (case a4 => k_is)
    (case l4 => k_is)
    (case c4_ => k_is)
    (case k4 => k_is)
    (case a5 => k_is)
    (case l5 => k_is)
    (case c5_ => k_is)
    (case k5 => k_is)
    (case a6 => k_is)
    (case l6 => k_is)
    (case c6_ => k_is)
    (case k6 => k_is)
    (case a7 => k_is)
    (case l7 => k_is)
    (case c7_ => k_is)
    (case k7 => k_is)
    (case a8 => k_is)
    (case l8 => k_is)
    (case c8_ => k_is)
    (case k8 => k_is)
    (case a9 => k_is)
    (case l9 => k_is)
    (case c9_ => k_is)
    (case k9 => k_is)
    (case a10 => k_is)
    (case l10 => k_is)
    (case c10_ => k_is)
    (case k10 => k_is)
    (case a11 => k_is)
    (case l11 => k_is)
    (case c11_ => k_is)
    (case k11 => k_is)
    (case a12 => k_is)
    (case l12 => k_is)
    (case c12_ => k_is)
    (case k12 => k_is)
    (case a13 => k_is)
    (case l13 => k_is)
    (case c13_ => k_is)
    (case k13 => k_is)
    (case a14 => k_is)
    (case l14 => k_is)
    (case c14_ => k_is)
    (case k14 => k_is)
    (case a15 => k_is)
    (case l15 => k_is)
    (case c15_ => k_is)
    (case k15 => k_is)
    (case a16 => k_is)
    (case l16 => k_is)
    (case c16_ => k_is)
    (case k16 => k_is)
    (case a17 => k_is)
    (case l17 => k_is)
    (case c17_ => k_is)
    (case k17 => k_is)
    (case t17 => k_is)
    (case x17 => k_is)
    (case y17 => rfl)
    (case z17 => kernel_rfl)
    (case w17 => kernel_rfl)
    (case h17 => exact PySem.W.km_tabs_of Y _ (by k_mem))
    (case q17_0 => k_is)
    (case a18 => k_is)
    (case l18 => k_is)
    (case c18_ => k_is)
    (case k18 => k_is)
    (case a19 => k_is)
    (case l19 => k_is)
    (case c19_ => k_is)
    (case k19 => k_is)
    (case a20 => k_is)
    (case l20 => k_is)
    (case c20_ => k_is)
    (case k20 => k_is)
    (case a21 => k_is)
    (case l21 => k_is)
    (case c21_ => k_is)
    (case k21 => k_is)
    (case a22 => k_is)
    (case l22 => k_is)
    (case c22_ => k_is)
    (case k22 => k_is)
    (case a23 => k_is)
    (case l23 => k_is)
    (case c23_ => k_is)
    (case k23 => k_is)
    (case a24 => k_is)
    (case l24 => k_is)
    (case c24_ => k_is)
    (case k24 => k_is)
    (case z_abs => k_is)
    (case z_all => k_is)
    (case z_any => k_is)
    (case z_bool => k_is)
    (case z_isinstance => k_is)
    (case z_len => k_is)
    (case z_list => k_is)
    (case z_max => k_is)
    (case z_min => k_is)
    (case z_range => k_is)
    (case z_reversed => k_is)
    (case z_set => k_is)
    (case z_sorted => k_is)
    (case z_str => k_is)
    (case z_tuple => k_is)
    (case y_LETTERS => k_is)
    (case y_MOST_LETTERS => k_is)
    (case y_MOST_SETS => k_is)
#print axioms PySem.Challenge.cw_allheard_k64_futures_of_any_object_holds

