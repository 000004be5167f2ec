import PyProof.Rows.All
import Wide.All
import OpenK.AllK
import Wide.FinOn
import Lean
import PySem.Challenge.RW_nt0366_01
open PySem PySem.W PyProof.Rows
set_option Elab.async false
namespace Mine
set_option maxRecDepth 100000
set_option maxHeartbeats 8000000
noncomputable def kp : List Nat := [1,2,3,4,5,6,7,8,9,10,11,12,13,14,15,16,17,18,19,20,21,22,23,24,25,26,27,28,29,30,31,32,33,35,36,37,38,39,40,41,42,43,44,45,46,47,48,49,50,51,52,54,55,56,57,58,59,60,61,62,64,65,66,67,68,69,70,71,72,73,74,75,76]
noncomputable def vw : Program := view PySem.Challenge.rw_nt0366_01.row.prog kp
noncomputable def loo : List PySem.Str := [PySem.Str.ofString "AHEAD", PySem.Str.ofString "MONTHS", PySem.Str.ofString "WEEK_DAYS", PySem.Str.ofString "KEPT_IN_ESCAPE"]
noncomputable def lv : List (PySem.Str × WData) := [(PySem.Str.ofString "KEPT_IN_ESCAPE", WData.str ⟨#[65, 66, 67, 68, 69, 70, 71, 72, 73, 74, 75, 76, 77, 78, 79, 80, 81, 82, 83, 84, 85, 86, 87, 88, 89, 90, 97, 98, 99, 100, 101, 102, 103, 104, 105, 106, 107, 108, 109, 110, 111, 112, 113, 114, 115, 116, 117, 118, 119, 120, 121, 122, 48, 49, 50, 51, 52, 53, 54, 55, 56, 57, 64, 42, 95, 43, 45, 46, 47]⟩)]

noncomputable def goT (p : Program) (w : World) (n₀ : Nat) (ann : Option Value) : Nat → SharedT → Thread → Option SharedT
  | 0, _, _ => none
  | n + 1, s, t => match through t with
    | true => some s
    | false => match PySem.W.Fast.tw6613529449190102663 n₀ ann t with
      | false => none
      | true => match PySem.W.Fast.tw10156331382660048174 (PySem.W.Fast.tw11892475500146522536 PySem.W.Fast.tw14364793385576792824) p w s t with
        | some (s', t') => goT p w n₀ ann n s' t'
        | none => none
theorem goT_of {p : Program} {w : World} {n₀ : Nat} {ann : Option Value} : ∀ {n : Nat} {s s' : SharedT} {t : Thread}, goT p w n₀ ann n s t = some s' → topRun treeTable p w n₀ ann n s.abs t = some s'.abs
  | 0, _, _, _, h => nomatch h
  | n + 1, s, s', t, h => by
    unfold goT at h
    rw [← PySem.W.Fast.te6613529449190102663, ← PySem.W.Fast.te10156331382660048174, ← PySem.W.Fast.te11892475500146522536, ← PySem.W.Fast.te14364793385576792824] at h
    unfold topRun
    cases ht : through t with
    | true => rw [ht] at h; cases h; rfl
    | false =>
      rw [ht] at h
      cases hk : stepOk n₀ ann t with
      | false => rw [hk] at h; cases h
      | true =>
        rw [hk] at h
        cases hs : stepT (denote treeTable) p w s t with
        | none => rw [hs] at h; cases h
        | some r =>
          obtain ⟨s₂, t₂⟩ := r
          rw [hs] at h
          rw [stepT_spec hs]
          exact goT_of h
noncomputable def insAll : List Obj → Nat → BT → BT
  | [], _, t => t
  | o :: r, i, t => insAll r (i + 1) (t.ins i o)
noncomputable def bootT (P : Params) : BT := insAll (boot_heap P).objs.toList 0 .nil
theorem boot_tree (P : Params) : absHeap (bootT P) 11 (boot_heap P).life = boot_heap P := rfl
noncomputable def s0 (w : World) (os : OsState) : SharedT := ⟨bootT w.params, 11, (boot_heap w.params).life, #[], boot_drawn, boot_toks, os⟩
namespace Top
noncomputable def pp : Program := PySem.Challenge.rw_nt0366_01.row.prog
noncomputable def rr (w : World) (os : OsState) : Option SharedT := goT pp w 11 (some (.ref 6)) 2500 (s0 w os) (topStub pp)
noncomputable def mds : List PySem.Str := Fast.tw5923862056798008813 pp.main.body
noncomputable def xt (s : Shared) : Bool := xlAt vw lv s && recOk [] s
noncomputable def lw : List PySem.Str := Fast.tw821141287760084731 vw loo
noncomputable def okA (w : World) (s : Shared) : Bool := staticsOk mds (boot_heap w.params) s.heap && namesBound pp s.heap && gensDone s && laidKept (boot_heap w.params) s.heap
noncomputable def okB (s : Shared) : Bool := Fast.tw14722251495701143533 s.heap mds && s.heap.isNs mainGlobals && s.heap.isNs builtinsNs
noncomputable def okC (s : Shared) : Bool := xt s && (if true then s.gens.size == 0 else !leftWithCleanup s.gens)
noncomputable def okK (s : Shared) : Bool := Fast.tw10880121769531294198 s.heap lw (R.mapR (fun x => x.name) (Fast.tw3399658132070893891 vw)) (R.mapR (fun x => x.fst) (Fast.tw7409074990110511671 vw)) (R.mapR (fun x => x.name) (Fast.tw13664370479719496447 vw lw))
noncomputable def see1 (s : Shared) : Seen := Fast.tw5160383126252970620 (R.mapR (fun x => x.name) (Fast.tw3399658132070893891 vw)) (Fast.tw5991557255702980513 vw) [] { s with gens := #[] }
noncomputable def unf : Option Obj → Option Obj
  | some { cls := _, dict := _, data := Data.freed, slots := _ } => none
  | o => o
noncomputable def getT (s : SharedT) (a : Addr) : Option Obj := match Nat.blt a s.n with | true => unf (some ((s.tree.get a).getD default)) | false => none
theorem get_abs (s : SharedT) : s.abs.heap.get? = getT s := by
  funext a
  show unf ((absHeap s.tree s.n s.life).objs[a]?) = _
  rw [absHeap_at]
  unfold getT
  cases h : Nat.blt a s.n with
  | true => rw [if_pos (show a < s.n from Nat.le_of_ble_eq_true h)]
  | false => rw [if_neg (fun q : a < s.n => by rw [show Nat.blt a s.n = true from Nat.ble_eq.mpr q] at h; cases h)]; rfl
noncomputable abbrev LookA := Bool × (Option PySem.Str × List (PySem.Str × Value)) × Bool × Bool × (List (Option FnShape) × Bool) × List (Option (PlainShape × Bool)) × List (Option (List (Option FnShape) × Bool) × Option (PlainShape × Bool))
noncomputable def lookA (w : World) (s : Shared) : LookA := (okA w s, s.heap.bltView, okB s, okC s, Fast.tw16090120013241838585 vw (Fast.tw3247288618530077131 vw) s, Fast.tw11698064438423848299 vw loo s, Fast.tw7369524293546568484 vw loo s)
noncomputable def goodA : LookA := (true, bltViewBooted, true, true, (R.mapR (fun d => some d.1.shape) (Fast.tw3247288618530077131 vw), true), plainGoodD vw loo, clsGoodW vw loo)
theorem run_b (w : World) (os : OsState) : (rr w os).map (fun s => (see1 s.abs, Fast.tw10994771534591457954 vw s.abs.heap)) = some (⟨R.mapR (fun d => some d.shape) (Fast.tw3399658132070893891 vw), true, [], true, true, true, 0⟩, true) := by kernel_rfl
theorem run_c (w : World) (os : OsState) : (rr w os).map (fun s => (okK s.abs, Fast.tw479339242167458305 vw s.abs)) = some (true, true) := by kernel_rfl
theorem run_d (w : World) (os : OsState) : (rr w os).map (fun s => (Fast.tw2386780881361962483 vw lw s.abs, Fast.tw7317090234206586261 vw s.abs)) = some (R.mapR (fun c => some (Fast.tw12515865711710729776 c).plainShape) (Fast.tw210736558901404530 vw lw), (R.mapR (fun d => some d.1.shape) (Fast.tw694669760492028198 vw), true)) := by kernel_rfl
theorem good1 : (⟨R.mapR (fun d => some d.shape) (Fast.tw3399658132070893891 vw), true, [], true, true, true, 0⟩ : Seen) = expectedOf vw := by rw [← R.mapR_eq, ← Fast.te3399658132070893891]; rfl
theorem good5 : (R.mapR (fun d => some d.1.shape) (Fast.tw3247288618530077131 vw), true) = pinGoodD (drecsOf vw) := by rw [← R.mapR_eq, ← Fast.te3247288618530077131]; rfl
theorem good6 : R.mapR (fun c => some (Fast.tw12515865711710729776 c).plainShape) (Fast.tw210736558901404530 vw lw) = plainGoodE vw (looseW vw loo) := by unfold lw; rw [← R.mapR_eq, ← Fast.te210736558901404530, ← Fast.te821141287760084731, ← Fast.te12515865711710729776]; rfl
theorem good8 : (R.mapR (fun d => some d.1.shape) (Fast.tw694669760492028198 vw), true) = wideGood vw := by rw [← R.mapR_eq, ← Fast.te694669760492028198]; rfl
theorem all_seen {w : World} {os : OsState} {s : SharedT} (r : rr w os = some s) (a : lookA w s.abs = goodA) : okA w s.abs = true ∧ openSeen vw loo (importedModules pp.main.body) xt true s.abs = openGood vw loo := by
  have b := run_b w os
  have c := run_c w os
  have d := run_d w os
  rw [r, Option.map_some, Option.some.injEq] at b c d
  simp only [lookA, goodA, Prod.mk.injEq] at a b c d
  obtain ⟨a0, a2, a3, a4, a5, a7, a9⟩ := a
  obtain ⟨b1, b2⟩ := b
  obtain ⟨c1, c2⟩ := c
  obtain ⟨d6, d8⟩ := d
  refine ⟨a0, ?_⟩
  rw [Fast.te4187177175401517315, Fast.te5923862056798008813]
  show (see1 s.abs, s.abs.heap.bltView, (okK s.abs && Fast.tw14722251495701143533 s.abs.heap mds && s.abs.heap.isNs mainGlobals && s.abs.heap.isNs builtinsNs && Fast.tw10994771534591457954 vw s.abs.heap && xt s.abs && (if true then s.abs.gens.size == 0 else !leftWithCleanup s.abs.gens)), Fast.tw479339242167458305 vw s.abs, Fast.tw16090120013241838585 vw (Fast.tw3247288618530077131 vw) s.abs, Fast.tw2386780881361962483 vw lw s.abs, Fast.tw11698064438423848299 vw loo s.abs, Fast.tw7317090234206586261 vw s.abs, Fast.tw7369524293546568484 vw loo s.abs) = (expectedOf vw, bltViewBooted, true, true, pinGoodD (drecsOf vw), plainGoodE vw (looseW vw loo), plainGoodD vw loo, wideGood vw, clsGoodW vw loo)
  obtain ⟨x1, x2⟩ := Bool.and_eq_true_iff.mp a3
  obtain ⟨x1, x3⟩ := Bool.and_eq_true_iff.mp x1
  obtain ⟨y1, y2⟩ := Bool.and_eq_true_iff.mp a4
  rw [b1, a2, c1, x1, x3, x2, b2, y1, y2, c2, a5, d6, a7, d8, a9, good1, good5, good6, good8]
  rfl
theorem left_core {p q : Program} {N M : Nat} (e : opening p = plainProg p.main.scope.names) (hN : Nat.ble 600 N = true) (f : ∀ s, fenceModules? p s = some s) (le : Nat.ble M N = true) {loose : List PySem.Str} {Xt : Shared → Bool} {α : Type} {Yf : Shared → α} {Ya : World → α}
    (h : ∀ w os, ∃ s', goT p w 11 (some (.ref 6)) M (s0 w os) (topStub p) = some s' ∧ (staticsOk (importedModules p.main.body) (boot_heap w.params) s'.abs.heap && namesBound p s'.abs.heap && gensDone s'.abs && laidKept (boot_heap w.params) s'.abs.heap) = true ∧ openSeen q loose (importedModules p.main.body) Xt true s'.abs = openGood q loose ∧ Yf s'.abs = Ya w) : LeftO p q loose Xt Yf Ya N := fun w => by
  obtain ⟨⟨hh, gs, d, k, os⟩, e1, e'⟩ := Option.map_eq_some_iff.mp (boot_open e hN f w)
  obtain ⟨rfl, rfl, rfl, rfl⟩ : hh = boot_heap w.params ∧ gs = #[] ∧ d = boot_drawn ∧ k = boot_toks := by simpa using e'
  obtain ⟨s', r1, l1, l2, l3⟩ := h w os
  have r := topRun_mono (N - M) _ _ _ _ (goT_of r1)
  rw [show M + (N - M) = N by have := Nat.le_of_ble_eq_true le; omega] at r
  have z : (s0 w os).abs = ⟨boot_heap w.params, #[], boot_drawn, boot_toks, os⟩ := by
    show Shared.mk (absHeap (bootT w.params) 11 (boot_heap w.params).life) _ _ _ _ = _
    rw [boot_tree]; rfl
  rw [z] at r
  have t : topFrom treeTable p w N ⟨boot_heap w.params, #[], boot_drawn, boot_toks, os⟩ = some s'.abs := by
    unfold topFrom
    show (match (boot_heap w.params).isNs mainGlobals && true with | true => _ | false => _) = _
    rw [show (boot_heap w.params).isNs mainGlobals = true from by kernel_rfl]
    show (topRun treeTable p w 11 ((boot_heap w.params).nsMap mainGlobals "__annotations__") N _ _).bind _ = _
    rw [show (boot_heap w.params).nsMap mainGlobals "__annotations__" = some (.ref 6) from by kernel_rfl, r]
    show (match staticsOk (importedModules p.main.body) (boot_heap w.params) s'.abs.heap && namesBound p s'.abs.heap && gensDone s'.abs && laidKept (boot_heap w.params) s'.abs.heap with | true => _ | false => _) = _
    rw [l1]
  unfold openEnds
  rw [e1]
  show ((topFrom _ _ _ _ _).map _) = _
  rw [t, Option.map_some, l2, l3]
theorem left_run {K : Params → Frag} {as : List Addr} (h : ∀ w, (fun os => (rr w os).map (fun s => (lookA w s.abs, as.map (getT s)))) = fun _ => some (goodA, (K w.params).map fun p => some p.2)) : LeftO pp vw loo xt (fun s => as.map s.heap.get?) (fun w => (K w.params).map fun p => some p.2) 4872 :=
  left_core (M := 2500) (by rfl) (by decide) (fun _ => by rfl) (by decide) fun w os => by
    obtain ⟨s', r1, l⟩ := Option.map_eq_some_iff.mp (congrFun (h w) os)
    obtain ⟨l0, l3⟩ := Prod.mk.inj l
    obtain ⟨l1, l2⟩ := all_seen r1 l0
    refine ⟨s', r1, ?_, l2, ?_⟩
    · rw [Fast.te5923862056798008813]
      exact l1
    · rw [get_abs]
      exact l3
-- the looks at the text, each for itself
noncomputable def ll : OpenLaw := PySem.Challenge.rw_nt0366_01
theorem filt3 {p : PySem.Str → Bool} {a b c : PySem.Str} (ha : p a = false) (hb : p b = false) (hc : p c = false) : [a, b, c].filter p = [] := by simp [ha, hb, hc]
theorem lk1 : sreFenced pp.main = true := by rw [Fast.te11788848310118352699]; kernel_rfl
theorem lk2 : ((moduleNames pp.main.body).isEmpty || lookedIntoSs (moduleNames pp.main.body) pp.main.body) = true := by rw [Fast.te9807087744658564304]; kernel_rfl
theorem lk3 : namesResolve pp = true := by rw [Fast.te8377067652309620493]; kernel_rfl
theorem lk4 : pp.boundNames.all (fun n => !worldNames.contains n) = true := by rw [Fast.te18344453789297297638, Fast.te14412699480532031325]; kernel_rfl
theorem lk5s : (!(importedModules pp.main.body).all cThrough.contains) = false := by rw [Fast.te5923862056798008813]; kernel_rfl
theorem lk5a : readsOut pp pp.main.body "vars" = false := by rw [Fast.te13343964577679436407]; kernel_rfl
theorem lk5b : readsOut pp pp.main.body "dir" = false := by rw [Fast.te13343964577679436407]; kernel_rfl
theorem lk5c : readsOut pp pp.main.body "locals" = false := by rw [Fast.te13343964577679436407]; kernel_rfl
theorem lk5 : noRoadLSs { strict := !(importedModules pp.main.body).all cThrough.contains, foot := none, bare := (["vars", "dir", "locals"] : List PySem.Str).filter (readsOut pp pp.main.body) } pp.main.body = true := by rw [lk5s, filt3 lk5a lk5b lk5c, Fast.te8326940854005059898]; kernel_rfl
theorem lk6 : (namesMeet pp pp.main.body fun _ n => attrL n) = true := by rw [Fast.te17119622794617984870, Fast.te17868728402115742887]; kernel_rfl
theorem looks : looksOpen ll.row.prog = true := by
  show looksOpen pp = true
  unfold looksOpen
  rw [lk1, lk2, lk3, lk4, lk5, lk6]
  rfl
theorem part : ll.row.partSaid = true := by
  unfold OpenRow.partSaid
  rw [looks]
  decide +kernel
theorem row : ll.row.wellSaid = true := by
  unfold OpenRow.wellSaid
  rw [part]
  decide +kernel
theorem w2 : decide (ll.foot ≤ (behindTheImports ll.prog).length) = true := by decide +kernel
theorem w3 : ll.footing.all footLine = true := by rw [Fast.te10501279942588096481]; kernel_rfl
theorem w4 : noClassBlock ll.prog ll.footing = true := by rw [Fast.te8179353310426384613]; kernel_rfl
theorem w7 : noRoadLSs { strict := true, foot := some ll.bound', writes := ll.writes, may := ll.may } ll.footing = true := by rw [Fast.te8326940854005059898, Fast.te797321630700447069]; kernel_rfl
theorem w8 : defStands ll.about ll.above = true := by rw [Fast.te9558739934217749035]; kernel_rfl
theorem w9 : ll.namesIt = true := by rw [Fast.te16286561074155671207]; kernel_rfl
theorem w11 : ll.bound'.all (fun n => !builtinNamed n || ll.about == [n] || !ll.reads n) = true := by rw [Fast.te797321630700447069, Fast.te6984425678791042302, Fast.named_eq]; kernel_rfl
theorem w13 : (ll.prog.main.body.flatMap importedNames).all (fun n => !ll.reads n || (drawsOf n ll.prog.main.body).all fun mn => mn.2 != ("attrgetter" : PySem.Str) && mn.2 != ("methodcaller" : PySem.Str)) = true := by decide +kernel
theorem w14 : namesMeet ll.prog ll.footing (fun sc n => (!(["type", "isinstance", "issubclass", "getattr", "hasattr"] : List PySem.Str).contains n || sc.names.lookup n == some .globalImplicit) &&
    (ll.may != some n || sc.kind == .module || sc.names.lookup n == some .globalImplicit)) = true := by rw [Fast.te17119622794617984870]; kernel_rfl
theorem w17 : ll.own.all (fun n => !builtinNamed n) = true := by rw [Fast.te10792542408131684335, Fast.named_eq]; kernel_rfl
theorem w18 : namesMeet ll.prog ll.above (fun _ n => !ll.own.contains n) = true := by rw [Fast.te17119622794617984870, Fast.te10792542408131684335]; kernel_rfl
theorem w19 : (namesMeet ll.prog ll.footing fun sc n => sc.kind == .module || sc.names.lookup n != some .globalExplicit) = true := by rw [Fast.te17119622794617984870]; kernel_rfl
theorem well : ll.wellSaid = true := by
  unfold OpenLaw.wellSaid
  rw [row, w2, w3, w4, w7, w8, w9, w11, w13, w14, w17, w18, w19]
  decide +kernel
theorem holds0 : TablesWhole.holds = ⟨fun sc n _ => (List.lookup n sc.names).isSome, fun _ _ _ ok => ok, fun _ => true, true, false, fun a b => a && b⟩ := rfl
theorem whole : pp.tablesWhole = true := by
  unfold Program.tablesWhole TablesWhole.wProgram
  rw [holds0, Fast.te6116379765354995101, Fast.sDec_eq]; kernel_rfl
end Top
local macro_rules | `(tactic| o_law) => `(tactic| refine holds_law Top.well fun said => ?_)
local macro_rules | `(tactic| o_head $H) => `(tactic| (
  refine holds_open (q := Mine.vw) (loose := Mine.loo) (Xt := Top.xt) (XP := XL Mine.vw Mine.lv) (Yf := Hook.obs $H) (Ya := Hook.val $H) (YP := Hook.says $H) (N := 4872) ?hl (Hook.of $H) (Hook.keeps $H) (fun s e => xl_of s (Bool.and_eq_true_iff.mp e).1) XL.keeps (by rfl) (by rfl) (by rfl) (fun s e => recFacts_of (Bool.and_eq_true_iff.mp e).2) (by rfl) Top.row (by decide +kernel) ⟨rfl, rfl, rfl, rfl, rfl, Top.whole⟩ ?hw ?hc;
  (case hl => exact Top.left_run fun w => by kernel_rfl)))
open_top hd for PySem.Challenge.rw_nt0366_01
end Mine
namespace Mine
set_option maxRecDepth 100000
set_option maxHeartbeats 8000000
noncomputable def S (l : List Nat) : PySem.Str := ⟨l.toArray⟩
noncomputable abbrev Led := List (Addr × Obj)
noncomputable def KF (_ : OpenLaw) (_ : Params → Frag) : Prop := True
theorem kfill : KF PySem.Challenge.rw_nt0366_01 Mine.hd.heap_1 := by k_fill; trivial
/-- a call of the def at address f, from any frame of a def: n frames deep at most; the answer and the ledger as Ok says -/
structure Claim (w : World) (f : Addr) (n : Nat) (vs : List Value) (news : Led) (pre : Prop) (Ok : Value → Led → Prop) : Prop where
  out : pre → ∀ (prog p : Program) (loose : List PySem.Str) (mean : ExcName → Option Value) (mg mb : PySem.Str → Option Value)
    (dp un : Nat) (gd : Option (List Code)) (cn : PySem.Str) (cs : PySem.Scope) (a : Addr) (ccd : Value) (cl : List (PySem.Str × Addr)) (outer : List Env) (A₀ : Around) (base h₀ : Heap) (L : Addr) (m : PySem.Str → Option Value) (h : Heap) (gs : Array GenState) (dr : Drawn) (tk : Nat) (os : OsState) (Q E : Value → Shared → Prop),
    Below A₀ base outer h₀ → Fr h₀ L h m → (Mine.hd.heap_1 w.params).In h₀ → News h₀ L h news → Top p loose mean mg mb h₀ → cs.kind = .function →
    dp + n < recursionLimit → un + 8 * n < cLine →
    (∀ r news' h' tk', Fr h₀ L h' m → News h₀ L h' news' → Ok r news' → Q r ⟨h', gs, dr, tk', os⟩) →
      wpAny (model prog w) (ktrTop dp un gd cn cs L a ccd cl outer) (call (.ref f) vs) Q E ⟨h, gs, dr, tk, os⟩
section
variable {pre : Prop} {w : World} {f : Addr} {n : Nat} {vs : List Value} {news : Led}
    {prog p : Program} {loose : List PySem.Str} {mean : ExcName → Option Value} {mg mb : PySem.Str → Option Value}
    {dp un : Nat} {gd : Option (List Code)} {cn : PySem.Str} {cs : PySem.Scope} {a : Addr} {ccd : Value} {cl : List (PySem.Str × Addr)} {outer : List Env} {A₀ : Around} {base h₀ : Heap} {L : Addr} {m : PySem.Str → Option Value} {h : Heap} {gs : Array GenState} {dr : Drawn} {tk : Nat} {os : OsState} {Q E : Value → Shared → Prop}
theorem Claim.use {Ok : Value → Led → Prop} (C : Claim w f n vs news pre Ok)
    (B : Below A₀ base outer h₀) (F : Fr h₀ L h m) (X : (Mine.hd.heap_1 w.params).In h₀) (N : News h₀ L h news) (T : Top p loose mean mg mb h₀) (hp : pre) (hk : cs.kind = .function) (hd : dp + n < recursionLimit) (hu : un + 8 * n < cLine)
    (k : ∀ r news' h' tk', Fr h₀ L h' m → News h₀ L h' news' → Ok r news' → Q r ⟨h', gs, dr, tk', os⟩) :
      wpAny (model prog w) (ktrTop dp un gd cn cs L a ccd cl outer) (call (.ref f) vs) Q E ⟨h, gs, dr, tk, os⟩ :=
  C.out hp prog p loose mean mg mb dp un gd cn cs a ccd cl outer A₀ base h₀ L m h gs dr tk os Q E B F X N T hk hd hu k
end
noncomputable def OkI (x : Int) (news : Led) (r : Value) (news' : Led) : Prop := (∀ q ∈ news, q ∈ news') ∧ ∃ t, r = .int x t
noncomputable def OkB (x : Bool) (news : Led) (r : Value) (news' : Led) : Prop := (∀ q ∈ news, q ∈ news') ∧ r = .bool x
noncomputable def OkS (x : PySem.Str) (b : Nat) (news : Led) (r : Value) (news' : Led) : Prop := (∀ q ∈ news, q ∈ news') ∧ x.length ≤ b ∧ ∃ t, r = .str x t
noncomputable abbrev tupO (vs : List Value) : Obj := { cls := .type "tuple", data := .seq vs.toArray }
noncomputable def OkT (xs : List Int) (news : Led) (r : Value) (news' : Led) : Prop := (∀ q ∈ news, q ∈ news') ∧ ∃ x vs, r = .ref x ∧ (x, tupO vs) ∈ news' ∧ IntsAre vs xs
noncomputable def OkN (o : Option Int) (news : Led) (r : Value) (news' : Led) : Prop := (∀ q ∈ news, q ∈ news') ∧ match o with | some x => ∃ t, r = .int x t | none => r = .none
/-- the reader's dict: the text, the place, is it wrong -/
noncomputable abbrev rdD (l : List Nat) (tT : Tok) (i : Int) (tA : Tok) (b : Bool) (h1 h2 h3 : Int) (k1 k2 k3 : Tok) : Obj :=
  dictOf [⟨h1, .str (PySem.Str.ofString "text") k1, .str (S l) tT⟩, ⟨h2, .str (PySem.Str.ofString "at") k2, .int i tA⟩, ⟨h3, .str (PySem.Str.ofString "is_wrong") k3, .bool b⟩] 3
noncomputable abbrev rdL (x dx : Addr) (l : List Nat) (tT : Tok) (i : Int) (tA : Tok) (b : Bool) (h1 h2 h3 : Int) (k1 k2 k3 : Tok) (rest : Led) : Led :=
  (x, instObj 328 dx) :: (dx, rdD l tT i tA b h1 h2 h3 k1 k2 k3) :: rest
noncomputable def OkR (x dx : Addr) (l : List Nat) (tT : Tok) (h1 h2 h3 : Int) (k1 k2 k3 : Tok) (rest : Led) (n : Nat) (b : Bool) (V : Value → Prop) (r : Value) (news' : Led) : Prop :=
  V r ∧ ∃ tA, rdL x dx l tT (n : Int) tA b h1 h2 h3 k1 k2 k3 rest = news'
section
variable {h₀ h' : Heap} {L : Addr} {m : PySem.Str → Option Value} {news news' : Led} {gs : Array GenState} {dr : Drawn} {os : OsState} {Q : Value → Shared → Prop} {tk' : Nat}
theorem retI {x y : Int} {t : Tok} (hret : ∀ r news' h' tk', Fr h₀ L h' m → News h₀ L h' news' → OkI x news r news' → Q r ⟨h', gs, dr, tk', os⟩)
    (F : Fr h₀ L h' m) (N : News h₀ L h' news') (hs : ∀ p ∈ news, p ∈ news') (e : y = x) : Q (.int y t) ⟨h', gs, dr, tk', os⟩ :=
  hret _ _ _ _ F (fun p hp => N p (hs p hp)) ⟨fun _ h => h, t, by rw [e]⟩
theorem retB {x y : Bool} (hret : ∀ r news' h' tk', Fr h₀ L h' m → News h₀ L h' news' → OkB x news r news' → Q r ⟨h', gs, dr, tk', os⟩)
    (F : Fr h₀ L h' m) (N : News h₀ L h' news') (hs : ∀ p ∈ news, p ∈ news') (e : y = x) : Q (.bool y) ⟨h', gs, dr, tk', os⟩ :=
  hret _ _ _ _ F (fun p hp => N p (hs p hp)) ⟨fun _ h => h, by rw [e]⟩
theorem retS {x y : PySem.Str} {b : Nat} {t : Tok} (hret : ∀ r news' h' tk', Fr h₀ L h' m → News h₀ L h' news' → OkS x b news r news' → Q r ⟨h', gs, dr, tk', os⟩)
    (F : Fr h₀ L h' m) (N : News h₀ L h' news') (hs : ∀ p ∈ news, p ∈ news') (e : y = x) (hb : x.length ≤ b) : Q (.str y t) ⟨h', gs, dr, tk', os⟩ :=
  hret _ _ _ _ F (fun p hp => N p (hs p hp)) ⟨fun _ h => h, hb, t, by rw [e]⟩
theorem retT {xs : List Int} {x : Addr} {vs : List Value} (hret : ∀ r news' h' tk', Fr h₀ L h' m → News h₀ L h' news' → OkT xs news r news' → Q r ⟨h', gs, dr, tk', os⟩)
    (F : Fr h₀ L h' m) (N : News h₀ L h' news') (hm : (x, tupO vs) ∈ news') (hs : ∀ p ∈ news, p ∈ news') (hi : IntsAre vs xs) : Q (.ref x) ⟨h', gs, dr, tk', os⟩ :=
  hret _ ((x, tupO vs) :: news) _ _ F (fun p hp => by rcases List.mem_cons.mp hp with rfl | hp; exact N _ hm; exact N p (hs p hp)) ⟨fun _ h => .tail _ h, x, vs, rfl, .head _, hi⟩
theorem retNi {o : Option Int} {y : Int} {t : Tok} (hret : ∀ r news' h' tk', Fr h₀ L h' m → News h₀ L h' news' → OkN o news r news' → Q r ⟨h', gs, dr, tk', os⟩)
    (F : Fr h₀ L h' m) (N : News h₀ L h' news') (hs : ∀ p ∈ news, p ∈ news') (e : some y = o) : Q (.int y t) ⟨h', gs, dr, tk', os⟩ :=
  hret _ _ _ _ F (fun p hp => N p (hs p hp)) ⟨fun _ h => h, by subst e; exact ⟨t, rfl⟩⟩
theorem retNn {o : Option Int} (hret : ∀ r news' h' tk', Fr h₀ L h' m → News h₀ L h' news' → OkN o news r news' → Q r ⟨h', gs, dr, tk', os⟩)
    (F : Fr h₀ L h' m) (N : News h₀ L h' news') (hs : ∀ p ∈ news, p ∈ news') (e : none = o) : Q .none ⟨h', gs, dr, tk', os⟩ :=
  hret _ _ _ _ F (fun p hp => N p (hs p hp)) ⟨fun _ h => h, by subst e; rfl⟩
theorem okN_cases {o : Option Int} {news news' : Led} {r : Value} (h : OkN o news r news') : (∀ q ∈ news, q ∈ news') ∧ ((o = none ∧ r = .none) ∨ ∃ f t, o = some f ∧ r = .int f t) := by
  obtain ⟨a, b⟩ := h
  refine ⟨a, ?_⟩
  cases o with
  | none => exact .inl ⟨rfl, b⟩
  | some f => obtain ⟨t, e⟩ := b; exact .inr ⟨f, t, rfl, e⟩
theorem ints_cons {vs : List Value} {a : Int} {r : List Int} (h : IntsAre vs (a :: r)) : ∃ t vs', vs = .int a t :: vs' ∧ IntsAre vs' r := by
  cases h with | cons _ t h => exact ⟨t, _, rfl, h⟩
theorem ints7 {vs : List Value} {a b c d e f g : Int} (h : IntsAre vs [a, b, c, d, e, f, g]) : ∃ t1 t2 t3 t4 t5 t6 t7, vs = [.int a t1, .int b t2, .int c t3, .int d t4, .int e t5, .int f t6, .int g t7] := by
  obtain ⟨t1, _, rfl, h1⟩ := ints_cons h
  obtain ⟨t2, _, rfl, h2⟩ := ints_cons h1
  obtain ⟨t3, _, rfl, h3⟩ := ints_cons h2
  obtain ⟨t4, _, rfl, h4⟩ := ints_cons h3
  obtain ⟨t5, _, rfl, h5⟩ := ints_cons h4
  obtain ⟨t6, _, rfl, h6⟩ := ints_cons h5
  obtain ⟨t7, _, rfl, h7⟩ := ints_cons h6
  cases h7
  exact ⟨t1, t2, t3, t4, t5, t6, t7, rfl⟩
theorem retR {x dx : Addr} {l : List Nat} {tT tA : Tok} {h1 h2 h3 : Int} {k1 k2 k3 : Tok} {rest : Led} {n : Nat} {i : Int} {b c : Bool} {V : Value → Prop} {r : Value}
    (hret : ∀ r news' h' tk', Fr h₀ L h' m → News h₀ L h' news' → OkR x dx l tT h1 h2 h3 k1 k2 k3 rest n b V r news' → Q r ⟨h', gs, dr, tk', os⟩)
    (F : Fr h₀ L h' m) (N : News h₀ L h' news') (hx : (x, instObj 328 dx) ∈ news') (hd : (dx, rdD l tT i tA c h1 h2 h3 k1 k2 k3) ∈ news') (hs : ∀ p ∈ rest, p ∈ news') (hi : i = n) (hb : c = b) (hv : V r) : Q r ⟨h', gs, dr, tk', os⟩ := by
  subst hi hb
  refine hret _ _ _ _ F (fun p hp => ?_) ⟨hv, tA, rfl⟩
  rcases List.mem_cons.mp hp with rfl | hp
  · exact N _ hx
  · rcases List.mem_cons.mp hp with rfl | hp
    · exact N _ hd
    · exact N p (hs p hp)
end

section
variable {pre : Prop} {w : World} {f : Addr} {n : Nat} {vs : List Value} {news : Led}
    {prog p : Program} {loose : List PySem.Str} {mean : ExcName → Option Value} {mg mb : PySem.Str → Option Value}
    {dp un : Nat} {gd : Option (List Code)} {cn : PySem.Str} {cs : PySem.Scope} {a : Addr} {ccd : Value} {cl : List (PySem.Str × Addr)} {outer : List Env} {A₀ : Around} {base h₀ : Heap} {L : Addr} {m : PySem.Str → Option Value} {h : Heap} {gs : Array GenState} {dr : Drawn} {tk : Nat} {os : OsState} {Q E : Value → Shared → Prop}
theorem Claim.useI {x : Int} (C : Claim w f n vs news pre (OkI x news))
    (B : Below A₀ base outer h₀) (F : Fr h₀ L h m) (X : (Mine.hd.heap_1 w.params).In h₀) (N : News h₀ L h news) (T : Top p loose mean mg mb h₀) (hp : pre) (hk : cs.kind = .function) (hd : dp + n < recursionLimit) (hu : un + 8 * n < cLine)
    (k : ∀ t h' tk', Fr h₀ L h' m → News h₀ L h' news → Q (.int x t) ⟨h', gs, dr, tk', os⟩) : wpAny (model prog w) (ktrTop dp un gd cn cs L a ccd cl outer) (call (.ref f) vs) Q E ⟨h, gs, dr, tk, os⟩ :=
  C.use B F X N T hp hk hd hu fun _ _ _ _ F' N' ok => by obtain ⟨hn, t, rfl⟩ := ok; exact k _ _ _ F' (fun q hq => N' q (hn q hq))
theorem Claim.useB {x : Bool} (C : Claim w f n vs news pre (OkB x news))
    (B : Below A₀ base outer h₀) (F : Fr h₀ L h m) (X : (Mine.hd.heap_1 w.params).In h₀) (N : News h₀ L h news) (T : Top p loose mean mg mb h₀) (hp : pre) (hk : cs.kind = .function) (hd : dp + n < recursionLimit) (hu : un + 8 * n < cLine)
    (k : ∀ h' tk', Fr h₀ L h' m → News h₀ L h' news → Q (.bool x) ⟨h', gs, dr, tk', os⟩) : wpAny (model prog w) (ktrTop dp un gd cn cs L a ccd cl outer) (call (.ref f) vs) Q E ⟨h, gs, dr, tk, os⟩ :=
  C.use B F X N T hp hk hd hu fun _ _ _ _ F' N' ok => by obtain ⟨hn, rfl⟩ := ok; exact k _ _ F' (fun q hq => N' q (hn q hq))
theorem Claim.useS {x : PySem.Str} {b : Nat} (C : Claim w f n vs news pre (OkS x b news))
    (B : Below A₀ base outer h₀) (F : Fr h₀ L h m) (X : (Mine.hd.heap_1 w.params).In h₀) (N : News h₀ L h news) (T : Top p loose mean mg mb h₀) (hp : pre) (hk : cs.kind = .function) (hd : dp + n < recursionLimit) (hu : un + 8 * n < cLine)
    (k : ∀ t h' tk', Fr h₀ L h' m → News h₀ L h' news → x.length ≤ b → Q (.str x t) ⟨h', gs, dr, tk', os⟩) : wpAny (model prog w) (ktrTop dp un gd cn cs L a ccd cl outer) (call (.ref f) vs) Q E ⟨h, gs, dr, tk, os⟩ :=
  C.use B F X N T hp hk hd hu fun _ _ _ _ F' N' ok => by obtain ⟨hn, hb, t, rfl⟩ := ok; exact k _ _ _ F' (fun q hq => N' q (hn q hq)) hb
theorem Claim.useN {x : Option Int} (C : Claim w f n vs news pre (OkN x news))
    (B : Below A₀ base outer h₀) (F : Fr h₀ L h m) (X : (Mine.hd.heap_1 w.params).In h₀) (N : News h₀ L h news) (T : Top p loose mean mg mb h₀) (hp : pre) (hk : cs.kind = .function) (hd : dp + n < recursionLimit) (hu : un + 8 * n < cLine)
    (k₀ : ∀ h' tk', Fr h₀ L h' m → News h₀ L h' news → x = none → Q .none ⟨h', gs, dr, tk', os⟩)
    (k : ∀ i t h' tk', Fr h₀ L h' m → News h₀ L h' news → x = some i → Q (.int i t) ⟨h', gs, dr, tk', os⟩) : wpAny (model prog w) (ktrTop dp un gd cn cs L a ccd cl outer) (call (.ref f) vs) Q E ⟨h, gs, dr, tk, os⟩ :=
  C.use B F X N T hp hk hd hu fun _ _ _ _ F' N' ok => by 
    obtain ⟨hn, hf⟩ := ok
    cases x with
    | none => dsimp only at hf; subst hf; exact k₀ _ _ F' (fun q hq => N' q (hn q hq)) rfl
    | some i => dsimp only at hf; obtain ⟨t, rfl⟩ := hf; exact k _ _ _ _ F' (fun q hq => N' q (hn q hq)) rfl
theorem Claim.useT7 {a0 a1 a2 a3 a4 a5 a6 : Int} (C : Claim w f n vs news pre (OkT [a0, a1, a2, a3, a4, a5, a6] news))
    (B : Below A₀ base outer h₀) (F : Fr h₀ L h m) (X : (Mine.hd.heap_1 w.params).In h₀) (N : News h₀ L h news) (T : Top p loose mean mg mb h₀) (hp : pre) (hk : cs.kind = .function) (hd : dp + n < recursionLimit) (hu : un + 8 * n < cLine)
    (k : ∀ D t0 t1 t2 t3 t4 t5 t6 h' tk', Fr h₀ L h' m → News h₀ L h' ((D, tupO [.int a0 t0, .int a1 t1, .int a2 t2, .int a3 t3, .int a4 t4, .int a5 t5, .int a6 t6]) :: news) → Q (.ref D) ⟨h', gs, dr, tk', os⟩) : wpAny (model prog w) (ktrTop dp un gd cn cs L a ccd cl outer) (call (.ref f) vs) Q E ⟨h, gs, dr, tk, os⟩ :=
  C.use B F X N T hp hk hd hu fun _ _ _ _ F' N' ok => by 
    obtain ⟨hn, D, vs, rfl, hm, hi⟩ := ok
    obtain ⟨t0, t1, t2, t3, t4, t5, t6, rfl⟩ := ints7 hi
    exact k _ _ _ _ _ _ _ _ _ _ F' fun q hq => (List.mem_cons.mp hq).elim (fun e => e ▸ N' _ hm) fun hq => N' q (hn q hq)
end
theorem roomC {d dp i n k R : Nat} (h : dp + n < R) (e : d = dp + i) (b : Nat.ble (i + k) n = true) : d + k < R := by
  have := Nat.le_of_ble_eq_true b; omega
theorem roomZ {d n R : Nat} (h : d + n < R) : d < R := Nat.lt_of_le_of_lt (Nat.le_add_right _ _) h
theorem unitK {d dp i n k R : Nat} (h : dp + 8 * n < R) (e : d = dp + i) (b : Nat.ble (i + k) (8 * n) = true) : d + k < R := by
  have := Nat.le_of_ble_eq_true b; omega
theorem unitC {d dp i n k R : Nat} (h : dp + 8 * n < R) (e : d = dp + i) (b : Nat.ble (i + 8 * k) (8 * n) = true) : d + 8 * k < R := by
  have := Nat.le_of_ble_eq_true b; omega
noncomputable def frW (m : PySem.Str → Option Value) : PySem.Str → Option Value := m
noncomputable def nwW (l : Led) : Led := l
theorem letM {h₀ h : Heap} {L : Addr} {m : PySem.Str → Option Value} {G : Prop} (F : Fr h₀ L h m) (k : let m' := frW m; Fr h₀ L h m' → G) : G := k F
theorem letN {h₀ h : Heap} {L : Addr} {news : Led} {G : Prop} (N : News h₀ L h news) (k : let n' := nwW news; News h₀ L h n' → G) : G := k N
theorem tok_any {prog : Program} {w : World} {A : Around} {T : Sem α} {Q : α → Shared → Prop} {E : Value → Shared → Prop} {h : Heap} {gs : Array GenState} {dr : Drawn} {tk : Nat} {os : OsState} (k : ∀ tk, wpAny (model prog w) A T Q E ⟨h, gs, dr, tk, os⟩) : wpAny (model prog w) A T Q E ⟨h, gs, dr, tk, os⟩ := k tk
theorem allLt_get {d a : Addr} {o : Obj} : ∀ {l : Led}, AllLt d l → (a, o) ∈ l → @LT.lt Nat _ a d
  | _ :: _, h, m => by
    rcases List.mem_cons.mp m with e | m
    · rw [← e] at h; exact h.1
    · exact allLt_get h.2 m
theorem lt_get {d a : Addr} {o : Obj} {l : Led} (h : ∀ p ∈ l, p.1 < d) (m : (a, o) ∈ l) : @LT.lt Nat _ a d := h _ m
theorem S_len (l : List Nat) : (S l).length = l.length := by simp [S, PySem.Str.length]
noncomputable def aheadT : List Int := [0, 31, 59, 90, 120, 151, 181, 212, 243, 273, 304, 334, 365]
inductive TxtAre : List Value → List PySem.Str → Prop
  | nil : TxtAre [] []
  | cons (x : PySem.Str) (t : Tok) {vs xs} : TxtAre vs xs → TxtAre (.str x t :: vs) (x :: xs)
theorem TxtAre.get : ∀ {vs : List Value} {xs : List PySem.Str}, TxtAre vs xs → vs.length = xs.length ∧ ∀ (i : Nat) (d : PySem.Str), i < xs.length → ∃ t, vs[i]? = some (.str (xs.getD i d) t)
  | _, _, .nil => ⟨rfl, fun _ _ h => absurd h (Nat.not_lt_zero _)⟩
  | _, _, .cons x t h => by
    obtain ⟨hl, hg⟩ := h.get
    refine ⟨by simp [hl], fun i d hi => ?_⟩
    cases i with
    | zero => exact ⟨t, rfl⟩
    | succ i =>
      obtain ⟨t', e⟩ := hg i d (by simpa using hi)
      exact ⟨t', by simpa using e⟩
section
variable {prog : Program} {w : World} {A : Around} {E : Value → Shared → Prop} {s : Shared} {K : Frag} {h₀ : Heap} {L a : Addr} {m : PySem.Str → Option Value} {n : Nat} {value slice : PySem.Expr} {l : List Value} {dd : Option Addr} {sl : Array (Option Value)} {k : Int} {u : Tok} {Q : Value → Shared → Prop}
theorem listK (F : Fr h₀ L s.heap m) (X₀ : K.In h₀) (hl : K.lookup a = some ⟨.type "list", dd, .seq l.toArray n, sl⟩) : s.heap.IsList a l.toArray := ⟨_, F.keep _ _ (X₀ _ _ hl), rfl, _, rfl⟩
theorem listK_nodict (F : Fr h₀ L s.heap m) (X₀ : K.In h₀) (hl : K.lookup a = some ⟨.type "list", none, .seq l.toArray n, sl⟩) : s.heap.NoDictAt (.ref a) := ⟨_, F.keep _ _ (X₀ _ _ hl), rfl⟩
theorem itemL_ints {ns : List Int} (hl : s.heap.IsList a l.toArray) (hi : IntsAre l ns) (h0 : 0 ≤ k) (h1 : k < ns.length) (hfit : k < 2 ^ 63) (h : ∀ t, Q (.int (ns.getD k.toNat 0) t) s)
    (hs : subscripted slice false (.ref a) (.int k u) = operate [.ref a, .int k u] (getItem (.ref a) (.int k u)) := by with_unfolding_all rfl) :
    wpAny (model prog w) A (subscriptTail value slice (.ref a) (.int k u)) Q E s := by
  obtain ⟨t, hx⟩ := hi.get k.toNat _ (ints_getD h0 h1)
  exact tail_any hl.typeIs slot_list_getitem.lookup (wpAny_getItem_list hl h0 hfit (by simpa using hx) (h t)) hs
theorem itemL_txts {xs : List PySem.Str} (hl : s.heap.IsList a l.toArray) (hi : TxtAre l xs) (h0 : 0 ≤ k) (h1 : k < xs.length) (hfit : k < 2 ^ 63) (h : ∀ t, Q (.str (xs.getD k.toNat PySem.Str.empty) t) s)
    (hs : subscripted slice false (.ref a) (.int k u) = operate [.ref a, .int k u] (getItem (.ref a) (.int k u)) := by with_unfolding_all rfl) :
    wpAny (model prog w) A (subscriptTail value slice (.ref a) (.int k u)) Q E s := by
  obtain ⟨t, hx⟩ := hi.get.2 k.toNat PySem.Str.empty (by omega)
  exact tail_any hl.typeIs slot_list_getitem.lookup (wpAny_getItem_list hl h0 hfit (by simpa using hx) (h t)) hs
end

section
variable {prog : Program} {w : World} {A : Around} {E : Value → Shared → Prop} {s : Shared} {h₀ : Heap} {L D : Addr} {news : Led} {n : Nat} {dd : Option Addr} {sl : Array (Option Value)} {Q : Value → Shared → Prop}
theorem in_tuple_none {vs : List Value} {ns : List Int} (N : News h₀ L s.heap news) (hm : (D, ({ cls := .type "tuple", dict := dd, data := .seq vs.toArray n, slots := sl } : Obj)) ∈ news) (hi : IntsAre vs ns) (h : Q (.bool false) s) :
    wpAny (model prog w) A (compareOp .In .none (.ref D)) Q E s := by
  refine PySem.SeqAt.in_tupleAt (fun _ => false) ⟨_, N.get hm, rfl, _, rfl⟩ (fun y hy => ?_) (by rw [show (vs.toArray.any fun _ => false) = false by simp [List.any_eq_false]]; exact h)
  have hy' : y ∈ vs := by simpa using hy
  clear h hm hy
  induction hi with
  | nil => cases hy'
  | cons i t _ ih =>
    rcases List.mem_cons.mp hy' with rfl | hy'
    · exact PySem.SeqAt.EqAt.int_none i t
    · exact ih hy'
end

noncomputable def wkT : List (List Nat) := [[83, 117, 110], [77, 111, 110], [84, 117, 101], [87, 101, 100], [84, 104, 117], [70, 114, 105], [83, 97, 116]]
noncomputable def monT : List (List Nat) := [[74, 97, 110], [70, 101, 98], [77, 97, 114], [65, 112, 114], [77, 97, 121], [74, 117, 110], [74, 117, 108], [65, 117, 103], [83, 101, 112], [79, 99, 116], [78, 111, 118], [68, 101, 99]]
noncomputable def wkL (i : Int) : List Nat := wkT.getD i.toNat []
noncomputable def monL (i : Int) : List Nat := monT.getD i.toNat []
theorem getD3 {T : List (List Nat)} (h : ∀ x ∈ T, x.length = 3) (i : Nat) : (T.getD i []).length ≤ 3 := by
  rw [List.getD_eq_getElem?_getD]
  cases e : T[i]? with
  | none => simp
  | some x => exact Nat.le_of_eq (h x (List.mem_of_getElem? e))
section
variable {prog : Program} {w : World} {A : Around} {E : Value → Shared → Prop} {s : Shared} {a : Addr} {value slice : PySem.Expr} {l : List Value} {k : Int} {u : Tok} {Q : Value → Shared → Prop}
theorem itemL_T {T : List (List Nat)} (hT : ∀ x ∈ T, x.length = 3) (hl : s.heap.IsList a l.toArray) (hi : TxtAre l (T.map S)) (h0 : 0 ≤ k) (h1 : k < T.length) (hfit : k < 2 ^ 63) (h : ∀ t, (S (T.getD k.toNat [])).length ≤ 3 → Q (.str (S (T.getD k.toNat [])) t) s)
    (hs : subscripted slice false (.ref a) (.int k u) = operate [.ref a, .int k u] (getItem (.ref a) (.int k u)) := by with_unfolding_all rfl) :
    wpAny (model prog w) A (subscriptTail value slice (.ref a) (.int k u)) Q E s := by
  refine itemL_txts hl hi h0 (by simpa using h1) hfit (fun t => ?_) hs
  have hk : k.toNat < T.length := by omega
  have e : (T.map S).getD k.toNat PySem.Str.empty = S (T.getD k.toNat []) := by
    rw [List.getD_eq_getElem?_getD, List.getD_eq_getElem?_getD, List.getElem?_map]
    cases q : T[k.toNat]? with
    | none => rw [List.getElem?_eq_none_iff] at q; omega
    | some x => rfl
  rw [e]
  exact h t (by rw [S_len]; exact getD3 hT _)
theorem itemL_wk (hl : s.heap.IsList a l.toArray) (hi : TxtAre l (wkT.map S)) (h0 : 0 ≤ k) (h1 : k < 7) (hfit : k < 2 ^ 63) (h : ∀ t, (S (wkL k)).length ≤ 3 → Q (.str (S (wkL k)) t) s)
    (hs : subscripted slice false (.ref a) (.int k u) = operate [.ref a, .int k u] (getItem (.ref a) (.int k u)) := by with_unfolding_all rfl) :
    wpAny (model prog w) A (subscriptTail value slice (.ref a) (.int k u)) Q E s := itemL_T (by decide) hl hi h0 h1 hfit h hs
theorem itemL_mon (hl : s.heap.IsList a l.toArray) (hi : TxtAre l (monT.map S)) (h0 : 0 ≤ k) (h1 : k < 12) (hfit : k < 2 ^ 63) (h : ∀ t, (S (monL k)).length ≤ 3 → Q (.str (S (monL k)) t) s)
    (hs : subscripted slice false (.ref a) (.int k u) = operate [.ref a, .int k u] (getItem (.ref a) (.int k u)) := by with_unfolding_all rfl) :
    wpAny (model prog w) A (subscriptTail value slice (.ref a) (.int k u)) Q E s := itemL_T (by decide) hl hi h0 h1 hfit h hs
theorem wk_txts {t0 t1 t2 t3 t4 t5 t6 : Tok} : TxtAre [.str ⟨#[83, 117, 110]⟩ t0, .str ⟨#[77, 111, 110]⟩ t1, .str ⟨#[84, 117, 101]⟩ t2, .str ⟨#[87, 101, 100]⟩ t3, .str ⟨#[84, 104, 117]⟩ t4, .str ⟨#[70, 114, 105]⟩ t5, .str ⟨#[83, 97, 116]⟩ t6] (wkT.map S) :=
  .cons _ _ (.cons _ _ (.cons _ _ (.cons _ _ (.cons _ _ (.cons _ _ (.cons _ _ .nil))))))
theorem mon_txts {t0 t1 t2 t3 t4 t5 t6 t7 t8 t9 ta tb : Tok} : TxtAre [.str ⟨#[74, 97, 110]⟩ t0, .str ⟨#[70, 101, 98]⟩ t1, .str ⟨#[77, 97, 114]⟩ t2, .str ⟨#[65, 112, 114]⟩ t3, .str ⟨#[77, 97, 121]⟩ t4, .str ⟨#[74, 117, 110]⟩ t5, .str ⟨#[74, 117, 108]⟩ t6, .str ⟨#[65, 117, 103]⟩ t7, .str ⟨#[83, 101, 112]⟩ t8, .str ⟨#[79, 99, 116]⟩ t9, .str ⟨#[78, 111, 118]⟩ ta, .str ⟨#[68, 101, 99]⟩ tb] (monT.map S) :=
  .cons _ _ (.cons _ _ (.cons _ _ (.cons _ _ (.cons _ _ (.cons _ _ (.cons _ _ (.cons _ _ (.cons _ _ (.cons _ _ (.cons _ _ (.cons _ _ .nil)))))))))))
end
section
variable {prog : Program} {w : World} {A : Around} {E : Value → Shared → Prop} {s : Shared} {h₀ : Heap} {L : Addr} {m : PySem.Str → Option Value} {env : Env}
/-- a tuple of the ledger -/
noncomputable def TupAt (ax : Addr) (its : Array Value) (news : Led) : Prop := ∃ o, (ax, o) ∈ news ∧ o.cls = .type "tuple" ∧ ∃ n, o.data = .seq its n
theorem TupAt.tup {h : Heap} {ax : Addr} {its : Array Value} {news : Led} (x : TupAt ax its news) (N : News h₀ L h news) : h.IsTuple ax its := by
  obtain ⟨o, hm, hc, n, hd⟩ := x
  exact ⟨o, N.get hm, hc, n, hd⟩
noncomputable def TupSrc (prog : Program) (w : World) (A : Around) (h₀ : Heap) (L : Addr) (m : PySem.Str → Option Value) (env : Env) (elt : PySem.Expr) (x : PySem.Str) (scope : PySem.Scope) (cl : List (PySem.Str × Addr)) (Q : Value → Shared → Prop) (xv : Value) (s₁ : Shared) : Prop :=
  ∃ ax its news, xv = .ref ax ∧ A.handled = none ∧ Fr h₀ L s₁.heap m ∧ News h₀ L s₁.heap news ∧ TupAt ax its news ∧ its.size ≤ sizeLine ∧
    ∀ g : Heap, LCg.CompRest prog w A h₀ L m env elt x scope cl { s₁ with heap := g } (TupAt ax its) (fun i v => its[i]? = some v) (LCg.FinE h₀ L m { s₁ with heap := g } Q) its.size 0 [] news
theorem TupSrc.intro {elt : PySem.Expr} {x : PySem.Str} {scope : PySem.Scope} {cl : List (PySem.Str × Addr)} {Q : Value → Shared → Prop} {ax : Addr} {its : Array Value} {k : Nat} {news : Led} {s₁ : Shared}
    (hh : A.handled = none) (F : Fr h₀ L s₁.heap m) (N : News h₀ L s₁.heap news) (hm : (ax, ({ cls := .type "tuple", data := .seq its k } : Obj)) ∈ news) (hsz : its.size ≤ sizeLine)
    (h : ∀ g, LCg.CompRest prog w A h₀ L m env elt x scope cl { s₁ with heap := g } (TupAt ax its) (fun i v => its[i]? = some v) (LCg.FinE h₀ L m { s₁ with heap := g } Q) its.size 0 [] news) :
    TupSrc prog w A h₀ L m env elt x scope cl Q (.ref ax) s₁ := ⟨ax, its, news, rfl, hh, F, N, ⟨_, hm, rfl, _, rfl⟩, hsz, h⟩
theorem tup_st {ax I : Addr} {its : Array Value} (i : Nat) (h h' : Heap) (o : Obj) (nw : Led) (st : h.IsTupleIter I ax i ∧ h.IsTuple ax its) (e : h.get? I = some o) (e' : h'.get? I = some o)
    (_k : ∀ b o, h₀.get? b = some o → h'.get? b = some o) (N : News h₀ L h' nw) (T : TupAt ax its nw) : h'.IsTupleIter I ax i ∧ h'.IsTuple ax its := by
  refine ⟨?_, T.tup N⟩
  obtain ⟨o₁, q, r⟩ := st.1
  rw [e] at q; cases q
  exact ⟨o, e', r⟩
theorem ListComp_Tu {elt iter : PySem.Expr} {x : PySem.Str} {px : Pos} {scope : PySem.Scope} {cl : List (PySem.Str × Addr)} {pos : Pos} {Q : Value → Shared → Prop} (_F : Fr h₀ L s.heap m)
    (hclos : closureFor scope env = pure cl) (hcell : ∀ y ∈ scope.names, y.2 ≠ .cell) (hkind : scope.kind = .function)
    (hnames : ∀ y ∈ scope.names, y.2 = .local → scope.names.lookup y.1 = some .local) (hx : scope.names.lookup x = some .local)
    (h : wpAny (model prog w) A (eval iter env) (TupSrc prog w A h₀ L m env elt x scope cl Q) E s)
    (hs : ∀ x, foldedSetIterable iter env x = pure x := by intro _; rfl) :
    wpAny (model prog w) A (eval (.ListComp elt [⟨.Name x px, iter, [], 0⟩] scope pos) env) Q E s := by
  rw [eval_ListComp]
  refine wpAny_comprehension_free (use := none) rfl hs hclos hkind hnames (wpAny_mono h (fun xv s₁ h₁ => ?_) fun _ _ e => e)
  obtain ⟨ax, its, news, rfl, hh, F, N, T, hsz, R⟩ := h₁
  have ht := T.tup N
  have hlt : ax < s₁.heap.objs.size := by obtain ⟨_, e, _⟩ := ht; exact Heap.lt_size e
  refine wpAny_pyIter_tuple ht ?_
  have up : ∀ b o, s₁.heap.get? b = some o → (s₁.heap.push { cls := .type "tuple_iterator", data := .fields #[.ref ax, .int 0 0] }).get? b = some o := fun b o e => Heap.get?_push_of_some _ e
  refine LCg.block_U (Walks.tuple hh s₁.heap.objs.size ax (Nat.ne_of_lt hlt) its) hsz (fun i h st => by obtain ⟨o, e, _⟩ := st.1; exact ⟨o, e⟩) tup_st hcell hkind hx ⟨⟨_, Heap.get?_push_size _ rfl, rfl, rfl⟩, ht.at (up _)⟩ ?_
    (F.keeps up) (N.grown up) (Nat.ne_of_lt F.ns.lt) (next_is_new F) (fun p hp => Nat.ne_of_lt (Heap.lt_size (N p hp).1)) T (R _) ?_
  · intro b hb
    show b < (s₁.heap.push _).objs.size
    rw [Heap.size_push]
    rcases List.mem_cons.mp hb with rfl | hb
    · exact Nat.lt_succ_self _
    · rw [List.mem_singleton.mp hb]; exact Nat.lt_succ_of_lt hlt
  · intro D C h tk m' ys news' F' N' o1 hn hC₀ hD₀ hCL hDL hCD offC fin
    refine ⟨m', hn, fun h'' hs'' => fin D h'' tk (F'.change hs'' hCL hC₀) (fun p hp => ?_) o1⟩
    refine ⟨hs''.extBut _ _ ?_ (N' p hp).1, (N' p hp).2⟩
    rcases List.mem_cons.mp hp with rfl | hp
    · exact Ne.symm hCD
    · exact offC p hp
end
section
variable {prog : Program} {w : World} {A : Around} {E : Value → Shared → Prop} {s : Shared} {h₀ : Heap} {L : Addr} {m : PySem.Str → Option Value} {news : Led}
/-- seven[3:6] -/
theorem sliceApplied_36 {sl : Addr} {u v : Tok} {Q : Int × Int × Nat → Shared → Prop} (hs : s.heap.IsSliceOf sl (.int 3 u) (.int 6 v) .none) (h : Q (3, 1, 3) s) :
    wpAny (model prog w) A (Builtin.Slice.sliceApplied (.ref sl) (pure 7)) Q E s := by
  obtain ⟨os, hos, hcs, hds⟩ := id hs
  unfold Builtin.Slice.sliceApplied Builtin.Slice.sliceFields
  refine wpAny_bind (wpAny_bind (wpAny_field hos hds (x := .int 3 u) rfl (wpAny_bind (wpAny_field hos hds (x := .int 6 v) rfl (wpAny_bind (wpAny_field hos hds (x := .none) rfl (wpAny_pure ?_)))))))
  refine wpAny_bind (slicePart_none ?_)
  show wpAny _ _ (if ((1 : Int) == 0) = true then _ else _) _ _ s
  rw [if_neg (by decide)]
  refine wpAny_bind (slicePart_int (wpAny_bind (slicePart_int (wpAny_bind (wpAny_pure ?_)))))
  show wpAny _ _ (match Builtin.Slice.sliceAdjust (some (3 : Int)) (some (6 : Int)) 1 7 with | (lo, hi) => pure (lo, (1 : Int), Builtin.Slice.slicePlaces lo hi 1)) _ _ s
  rw [show Builtin.Slice.sliceAdjust (some (3 : Int)) (some (6 : Int)) 1 7 = (3, 6) from by decide]
  show wpAny _ _ (pure ((3 : Int), (1 : Int), Builtin.Slice.slicePlaces 3 6 1)) _ _ s
  rw [show Builtin.Slice.slicePlaces 3 6 1 = 3 from by decide]
  exact wpAny_pure h
theorem getItem_36 {t sl : Addr} {a b c d e f g : Value} {u v : Tok} {Q : Value → Shared → Prop} (ht : IsTup s.heap t #[a, b, c, d, e, f, g]) (hs : s.heap.IsSliceOf sl (.int 3 u) (.int 6 v) .none)
    (h : Q (.ref s.heap.objs.size) { s with heap := s.heap.push { cls := .type "tuple", data := .seq #[d, e, f] } }) : wpAny (model prog w) A (getItem (.ref t) (.ref sl)) Q E s := by
  obtain ⟨os, hos, hcs, hds⟩ := id hs
  have hTs : s.TypeIs (.ref sl) "slice" := ⟨os, hos, hcs⟩
  unfold getItem
  try with_reducible refine wpAny_holding ?_
  first | refine wpAny_bind (wpAny_pure ?_) | skip
  refine wpAny_bind (wpAny_sequenceKey ht.typeIs (by decide) ?_)
  refine wpAny_bind (wpAny_callSpecial?_slot (name := Str.ofString "__getitem__") ht.typeIs slot_tuple_getitem
    (wpAny_call_entry slot_tuple_getitem ht.typeIs entry_tuple_getitem ?_ (args_tuple_getitem _ _)))
  show wpAny _ _ (Builtin.Tuple.tupleItemsOf (.ref t) >>= _) _ _ s
  refine wpAny_bind (tupleItemsOf_ ht ?_)
  refine wpAny_bind (wpAny_typeOf hTs ?_)
  rw [if_pos (by decide)]
  refine wpAny_bind (sliceApplied_36 hs ?_)
  have hz : sizeOk (.seq #[d, e, f]) := by show (3 : Nat) ≤ sizeLine; decide
  first
    | exact wpAny_bind (m := Builtin.Tuple.tupleExact #[d, e, f]) (wpAny_newObj_type (wpAny_pure ⟨_, rfl, wpAny_pure h⟩) hz)
    | exact wpAny_bind (m := Builtin.Tuple.tupleExact #[d, e, f]) (wpAny_newObj_type (wpAny_bind (wpAny_pure (wpAny_pure ⟨_, rfl, wpAny_pure h⟩))) hz)
    | exact wpAny_bind (wpAny_bind (m := Builtin.Tuple.tupleExact #[d, e, f]) (wpAny_newObj_type (wpAny_pure (wpAny_pure ⟨_, rfl, wpAny_pure h⟩)) hz))
    | exact wpAny_bind (wpAny_bind (m := Builtin.Tuple.tupleExact #[d, e, f]) (wpAny_newObj_type (wpAny_pure ⟨_, rfl, wpAny_pure h⟩) hz))
theorem slice_36 {value slice : PySem.Expr} {t : Addr} {a b c d e f g : Value} {n : Nat} {u v : Tok} {Q : Value → Shared → Prop}
    (F : Fr h₀ L s.heap m) (N : News h₀ L s.heap news) (hm : (t, ({ cls := .type "tuple", data := .seq #[a, b, c, d, e, f, g] n } : Obj)) ∈ news)
    (h : ∀ D h', Fr h₀ L h' m → News h₀ L h' ((D, tupO [d, e, f]) :: news) → (∀ p ∈ news, p.1 < D) → Q (.ref D) { s with heap := h' })
    (hs : subscripted slice false (.ref t) (.ref s.heap.objs.size) = operate [.ref s.heap.objs.size, .ref t] (getItem (.ref t) (.ref s.heap.objs.size)) := by with_unfolding_all rfl)
    (hg : ∀ r, letTemporaryGo value (.ref t) r = pure () := by intro _; with_unfolding_all rfl) :
    wpAny (model prog w) A (subscriptTail value slice (.ref t) (.ref s.heap.objs.size)) Q E { s with heap := s.heap.push { cls := .type "slice", data := .fields #[.int 3 u, .int 6 v, .none] } } := by
  have ht : IsTup s.heap t #[a, b, c, d, e, f, g] := News.isTup N hm
  have ht' : IsTup (s.heap.push { cls := .type "slice", data := .fields #[.int 3 u, .int 6 v, .none] }) t #[a, b, c, d, e, f, g] := ht.keeps fun _ _ e => Heap.get?_push_of_some _ e
  refine subscriptTail_ops (s := { s with heap := s.heap.push { cls := .type "slice", data := .fields #[.int 3 u, .int 6 v, .none] } }) ht'.typeIs slot_tuple_getitem.lookup
    (getItem_36 ht' (Heap.IsSliceOf.new ..) ?_) hs hg
  have N1 := News.push (F.push { cls := .type "slice", data := .fields #[.int 3 u, .int 6 v, .none] }) (N.grown fun _ _ e => Heap.get?_push_of_some _ e) (tupO [d, e, f])
  rw [Heap.size_push] at N1
  show Q (.ref (s.heap.push _).objs.size) _
  rw [Heap.size_push]
  exact h _ _ ((F.push _).push _) N1 fun p hp => Nat.lt_succ_of_lt (Heap.lt_size (N p hp).1)
end
theorem sliceIdx_clip {a b n : Nat} : Builtin.Str.strSliceIndices (some (a : Int)) (some (b : Int)) 1 n = Builtin.Str.strSliceIndices (some ((min a n : Nat) : Int)) (some ((min b n : Nat) : Int)) 1 n := by
  have a1 : ¬ ((a : Int) < 0) := by omega
  have a2 : ¬ ((b : Int) < 0) := by omega
  have a3 : ¬ (((min a n : Nat) : Int) < 0) := by omega
  have a4 : ¬ (((min b n : Nat) : Int) < 0) := by omega
  have e1 : max (0 : Int) (min (a : Int) (n : Int)) = max 0 (min ((min a n : Nat) : Int) (n : Int)) := by omega
  have e2 : max (0 : Int) (min (b : Int) (n : Int)) = max 0 (min ((min b n : Nat) : Int) (n : Int)) := by omega
  unfold Builtin.Str.strSliceIndices
  simp only [if_neg a1, if_neg a2, if_neg a3, if_neg a4, show (1 : Int) > 0 from by decide, if_true]
  rw [e1, e2]
theorem slice_nat (l : List Nat) {a b : Nat} (hab : a ≤ b) : Txt.slice (S l) (some (a : Int)) (some (b : Int)) = S ((l.drop a).take (b - a)) := by
  have e : Txt.slice (S l) (some (a : Int)) (some (b : Int)) = StrLaws.sliceText (S l) (some ((min a l.length : Nat) : Int)) (some ((min b l.length : Nat) : Int)) := by
    show StrLaws.sliceText (S l) _ _ = _
    unfold StrLaws.sliceText
    rw [S_len, sliceIdx_clip]
  rw [e, StrLaws.sliceText_nat (S l) (by omega) (by rw [S_len]; omega)]
  have e2 : (S l).cps.toList = l := by simp [S]
  rw [e2]
  show S _ = S _
  congr 1
  by_cases h : a ≤ l.length
  · rw [Nat.min_eq_left h]
    by_cases h2 : b ≤ l.length
    · rw [Nat.min_eq_left h2]
    · rw [Nat.min_eq_right (by omega), List.take_of_length_le (by simp), List.take_of_length_le (by simp; omega)]
  · rw [List.drop_of_length_le (show l.length ≤ min a l.length by omega), List.drop_of_length_le (show l.length ≤ a by omega)]; simp
theorem slice_int (l : List Nat) {i j : Int} (h0 : 0 ≤ i) (h1 : i ≤ j) : Txt.slice (S l) (some i) (some j) = S ((l.drop i.toNat).take (j - i).toNat) := by
  obtain ⟨a, rfl⟩ := Int.eq_ofNat_of_zero_le h0
  obtain ⟨b, rfl⟩ := Int.eq_ofNat_of_zero_le (Int.le_trans h0 h1)
  rw [slice_nat l (by omega)]
  congr 2; omega
theorem wk_strs {t0 t1 t2 t3 t4 t5 t6 : Tok} : StrsAre [.str ⟨#[83, 117, 110]⟩ t0, .str ⟨#[77, 111, 110]⟩ t1, .str ⟨#[84, 117, 101]⟩ t2, .str ⟨#[87, 101, 100]⟩ t3, .str ⟨#[84, 104, 117]⟩ t4, .str ⟨#[70, 114, 105]⟩ t5, .str ⟨#[83, 97, 116]⟩ t6] (wkT.map S) :=
  .cons _ _ (.cons _ _ (.cons _ _ (.cons _ _ (.cons _ _ (.cons _ _ (.cons _ _ .nil))))))
theorem mon_strs {t0 t1 t2 t3 t4 t5 t6 t7 t8 t9 ta tb : Tok} : StrsAre [.str ⟨#[74, 97, 110]⟩ t0, .str ⟨#[70, 101, 98]⟩ t1, .str ⟨#[77, 97, 114]⟩ t2, .str ⟨#[65, 112, 114]⟩ t3, .str ⟨#[77, 97, 121]⟩ t4, .str ⟨#[74, 117, 110]⟩ t5, .str ⟨#[74, 117, 108]⟩ t6, .str ⟨#[65, 117, 103]⟩ t7, .str ⟨#[83, 101, 112]⟩ t8, .str ⟨#[79, 99, 116]⟩ t9, .str ⟨#[78, 111, 118]⟩ ta, .str ⟨#[68, 101, 99]⟩ tb] (monT.map S) :=
  .cons _ _ (.cons _ _ (.cons _ _ (.cons _ _ (.cons _ _ (.cons _ _ (.cons _ _ (.cons _ _ (.cons _ _ (.cons _ _ (.cons _ _ (.cons _ _ .nil)))))))))))
theorem strs_at (k : PySem.Str) : ∀ {vs : List Value} {ys : List PySem.Str}, StrsAre vs ys → vs.length = ys.length ∧ ∀ (i : Nat) (h1 : i < vs.length) (h2 : i < ys.length), isStrOf k vs[i] = (ys[i] == k)
  | _, _, .nil => ⟨rfl, fun _ h => absurd h (Nat.not_lt_zero _)⟩
  | _, _, .cons y t h => by
    obtain ⟨a, b⟩ := strs_at k h
    refine ⟨by simp [a], fun i h1 h2 => ?_⟩
    cases i with
    | zero => rfl
    | succ i => exact b i (by simpa using h1) (by simpa using h2)
theorem S_inj {a b : List Nat} : S a = S b ↔ a = b := by
  constructor
  · intro h
    have := congrArg (fun x : PySem.Str => x.cps.toList) h
    simpa [S] using this
  · rintro rfl; rfl
section
variable {prog : Program} {w : World} {A : Around} {E : Value → Shared → Prop} {s : Shared}
theorem index_txts {l : Addr} {vs : List Value} {ys : List PySem.Str} {k : PySem.Str} {t : Tok} {Q : Value → Shared → Prop} (hl : s.heap.IsList l vs.toArray) (hi : StrsAre vs ys) (hsz : ys.length ≤ 1000) (hk : k ∈ ys)
    (h : Q (.int (ys.idxOf k : Nat) s.toks) { s with toks := s.toks + 1 }) : wpAny (model prog w) A (call (.builtin "list.index") [.ref l, .str k t]) Q E s := by
  obtain ⟨⟨cls, dd, data, sl⟩, ho, hc, n, hd⟩ := id hl
  simp only at hc hd
  subst hc hd
  obtain ⟨hlen, hat⟩ := strs_at k hi
  have hj : ys.idxOf k < ys.length := List.idxOf_lt_length_iff.mpr hk
  refine call_meets PySem.F.slot_list_index ⟨_, ho, rfl⟩ PySem.F.entry_list_index (PySem.F.args_list_index_2 _ _)
    (PySem.SeqAt.list_indexAt l vs.toArray n dd sl (.str k t) (isStrOf k) (ys.idxOf k) (by simpa [hlen] using hj) (by omega) ?_ ?_) ⟨ho, fun y hy => (eq_isStrOf k t hi y (by simpa using hy)).at _ _, h⟩
  · have := hat (ys.idxOf k) (by omega) hj
    show isStrOf k vs[ys.idxOf k] = true
    rw [this]; simp
  · intro m hm hlt
    have hm' : m < vs.length := by simpa using hm
    have := hat m hm' (by omega)
    show isStrOf k vs[m] = false
    rw [this]
    have := List.not_of_lt_findIdx (p := (· == k)) hlt
    simpa using this
theorem notin_T {a : Addr} {l : List Value} {T : List (List Nat)} {x : List Nat} {t : Tok} {Q : Value → Shared → Prop} (hl : s.heap.IsList a l.toArray) (hi : StrsAre l (T.map S)) (h : Q (.bool (decide (x ∉ T))) s) :
    wpAny (model prog w) A (compareOp .NotIn (.str (S x) t) (.ref a)) Q E s := by
  refine notin_list_strs hl hi ?_
  have e : (!((T.map S).any (· == S x))) = decide (x ∉ T) := by
    rw [Bool.eq_iff_iff]
    simp only [Bool.not_eq_true', List.any_eq_false, List.mem_map, beq_iff_eq, decide_eq_true_eq]
    constructor
    · intro h hx; exact h (S x) ⟨x, hx, rfl⟩ rfl
    · rintro h _ ⟨y, hy, rfl⟩ e; rw [S_inj] at e; exact h (e ▸ hy)
  rw [e]; exact h
theorem index_T {a : Addr} {l : List Value} {T : List (List Nat)} {x : List Nat} {t : Tok} {Q : Value → Shared → Prop} (hl : s.heap.IsList a l.toArray) (hi : StrsAre l (T.map S)) (hsz : T.length ≤ 1000) (hx : x ∈ T)
    (h : Q (.int (T.idxOf x : Nat) s.toks) { s with toks := s.toks + 1 }) : wpAny (model prog w) A (call (.builtin "list.index") [.ref a, .str (S x) t]) Q E s := by
  refine index_txts hl hi (by simpa using hsz) (List.mem_map.mpr ⟨x, hx, rfl⟩) ?_
  have e : (T.map S).idxOf (S x) = T.idxOf x := by
    clear h hi hsz hx
    induction T with
    | nil => rfl
    | cons y T ih =>
      rw [List.map_cons, List.idxOf_cons, List.idxOf_cons, ih]
      have : (S y == S x) = (y == x) := by rw [Bool.eq_iff_iff]; simp [S_inj]
      rw [this]
  rw [e]; exact h
end

section
variable {prog : Program} {w : World} {A : Around} {E : Value → Shared → Prop} {s : Shared} {h₀ : Heap} {L : Addr} {m : PySem.Str → Option Value} {news : Led} {value slice : PySem.Expr} {l : List Nat} {t : Tok} {Q : Value → Shared → Prop}
theorem slice_S {i j : Int} {ui uj : Tok} (F : Fr h₀ L s.heap m) (N : News h₀ L s.heap news) (hl : l.length ≤ 1000) (h0 : 0 ≤ i) (h1 : i ≤ j)
    (h : ∀ h' t' k, Fr h₀ L h' m → News h₀ L h' news → ((l.drop i.toNat).take (j - i).toNat).length ≤ 1000 → Q (.str (S ((l.drop i.toNat).take (j - i).toNat)) t') { s with heap := h', toks := k })
    (hs : subscripted slice false (.str (S l) t) (.ref s.heap.objs.size) = operate [.ref s.heap.objs.size, .str (S l) t] (getItem (.str (S l) t) (.ref s.heap.objs.size)) := by with_unfolding_all rfl)
    (ht : ∀ r, letTemporaryGo value (.str (S l) t) r = pure () := by intro _; with_unfolding_all rfl) :
    wpAny (model prog w) A (subscriptTail value slice (.str (S l) t) (.ref s.heap.objs.size)) Q E { s with heap := s.heap.push { cls := .type "slice", data := .fields #[.int i ui, .int j uj, .none] } } := by
  refine slice_strN_ss F N (fun h' t' k F' N' => ?_) hs ht (by rw [S_len, sizeLine_eq]; omega)
  rw [slice_int l h0 h1]
  exact h h' t' k F' N' (by rw [List.length_take, List.length_drop]; omega)
end
theorem slice_wk {k : Int} (h0 : 0 ≤ k) (h1 : k ≤ 6) : Txt.slice (PySem.Str.ofString "SunMonTueWedThuFriSat") (some (3 * k)) (some (3 * k + 3)) = S (wkL k) := by
  obtain ⟨n, rfl⟩ := Int.eq_ofNat_of_zero_le h0
  exact (by decide +kernel : ∀ n : Nat, n < 7 → Txt.slice (PySem.Str.ofString "SunMonTueWedThuFriSat") (some (3 * (n : Int))) (some (3 * (n : Int) + 3)) = S (wkL n)) n (by omega)
theorem slice_mon {k : Int} (h0 : 0 ≤ k) (h1 : k ≤ 11) : Txt.slice (PySem.Str.ofString "JanFebMarAprMayJunJulAugSepOctNovDec") (some (3 * k)) (some (3 * k + 3)) = S (monL k) := by
  obtain ⟨n, rfl⟩ := Int.eq_ofNat_of_zero_le h0
  exact (by decide +kernel : ∀ n : Nat, n < 12 → Txt.slice (PySem.Str.ofString "JanFebMarAprMayJunJulAugSepOctNovDec") (some (3 * (n : Int))) (some (3 * (n : Int) + 3)) = S (monL n)) n (by omega)

section
variable {prog : Program} {w : World} {A : Around} {E : Value → Shared → Prop} {s : Shared} {h₀ : Heap} {L : Addr} {m : PySem.Str → Option Value} {news : Led} {value slice : PySem.Expr} {t : Tok} {Q : Value → Shared → Prop}
theorem slice_week {k : Int} {ui uj : Tok} (F : Fr h₀ L s.heap m) (N : News h₀ L s.heap news) (h0 : 0 ≤ k) (h1 : k ≤ 6)
    (h : ∀ h' t' n, Fr h₀ L h' m → News h₀ L h' news → (S (wkL k)).length ≤ 3 → Q (.str (S (wkL k)) t') { s with heap := h', toks := n })
    (hs : subscripted slice false (.str (PySem.Str.ofString "SunMonTueWedThuFriSat") t) (.ref s.heap.objs.size) = operate [.ref s.heap.objs.size, .str (PySem.Str.ofString "SunMonTueWedThuFriSat") t] (getItem (.str (PySem.Str.ofString "SunMonTueWedThuFriSat") t) (.ref s.heap.objs.size)) := by with_unfolding_all rfl)
    (ht : ∀ r, letTemporaryGo value (.str (PySem.Str.ofString "SunMonTueWedThuFriSat") t) r = pure () := by intro _; with_unfolding_all rfl) :
    wpAny (model prog w) A (subscriptTail value slice (.str (PySem.Str.ofString "SunMonTueWedThuFriSat") t) (.ref s.heap.objs.size)) Q E { s with heap := s.heap.push { cls := .type "slice", data := .fields #[.int (3 * k) ui, .int (3 * k + 3) uj, .none] } } := by
  refine slice_strN_ss F N (fun h' t' n F' N' => ?_) hs ht (by decide +kernel)
  rw [slice_wk h0 h1]
  exact h h' t' n F' N' (by rw [S_len]; exact getD3 (by decide) _)
theorem slice_months {k : Int} {ui uj : Tok} (F : Fr h₀ L s.heap m) (N : News h₀ L s.heap news) (h0 : 0 ≤ k) (h1 : k ≤ 11)
    (h : ∀ h' t' n, Fr h₀ L h' m → News h₀ L h' news → (S (monL k)).length ≤ 3 → Q (.str (S (monL k)) t') { s with heap := h', toks := n })
    (hs : subscripted slice false (.str (PySem.Str.ofString "JanFebMarAprMayJunJulAugSepOctNovDec") t) (.ref s.heap.objs.size) = operate [.ref s.heap.objs.size, .str (PySem.Str.ofString "JanFebMarAprMayJunJulAugSepOctNovDec") t] (getItem (.str (PySem.Str.ofString "JanFebMarAprMayJunJulAugSepOctNovDec") t) (.ref s.heap.objs.size)) := by with_unfolding_all rfl)
    (ht : ∀ r, letTemporaryGo value (.str (PySem.Str.ofString "JanFebMarAprMayJunJulAugSepOctNovDec") t) r = pure () := by intro _; with_unfolding_all rfl) :
    wpAny (model prog w) A (subscriptTail value slice (.str (PySem.Str.ofString "JanFebMarAprMayJunJulAugSepOctNovDec") t) (.ref s.heap.objs.size)) Q E { s with heap := s.heap.push { cls := .type "slice", data := .fields #[.int (3 * k) ui, .int (3 * k + 3) uj, .none] } } := by
  refine slice_strN_ss F N (fun h' t' n F' N' => ?_) hs ht (by decide +kernel)
  rw [slice_mon h0 h1]
  exact h h' t' n F' N' (by rw [S_len]; exact getD3 (by decide) _)
end

noncomputable def hexC (n : Nat) : Nat := if n < 10 then 48 + n else 55 + n
theorem item_hexC {i : Int} (h0 : 0 ≤ i) (h1 : i ≤ 15) : Txt.item (PySem.Str.ofString "0123456789ABCDEF") i = S [hexC i.toNat] := by
  obtain ⟨n, rfl⟩ := Int.eq_ofNat_of_zero_le h0
  exact (by decide +kernel : ∀ n : Nat, n < 16 → Txt.item (PySem.Str.ofString "0123456789ABCDEF") (n : Int) = S [hexC (n : Int).toNat]) n (by omega)
section
variable {prog : Program} {w : World} {A : Around} {E : Value → Shared → Prop} {s : Shared} {value slice : PySem.Expr} {t u : Tok} {i : Int} {Q : Value → Shared → Prop}
theorem item_hex (h0 : 0 ≤ i) (h1 : i ≤ 15) (h : (S [hexC i.toNat]).length ≤ 1 → Q (.str (S [hexC i.toNat]) s.toks) { s with toks := s.toks + 1 })
    (hs : subscripted slice false (.str (PySem.Str.ofString "0123456789ABCDEF") t) (.int i u) = operate [.str (PySem.Str.ofString "0123456789ABCDEF") t, .int i u] (getItem (.str (PySem.Str.ofString "0123456789ABCDEF") t) (.int i u)) := by with_unfolding_all rfl)
    (ht : ∀ r, letTemporaryGo value (.str (PySem.Str.ofString "0123456789ABCDEF") t) r = pure () := by intro _; with_unfolding_all rfl) :
    wpAny (model prog w) A (subscriptTail value slice (.str (PySem.Str.ofString "0123456789ABCDEF") t) (.int i u)) Q E s := by
  refine KXi.item (n := 16) (by decide +kernel) (by omega) (by omega) (by decide) (fun _ => ?_) hs ht
  rw [item_hexC h0 h1]
  exact h (by rw [S_len]; exact Nat.le_refl _)
end
theorem News.rot {h₀ h : Heap} {L : Addr} {t a b : Addr × Obj} {rest : Led} (N : News h₀ L h (t :: a :: b :: rest)) : News h₀ L h (a :: b :: t :: rest) := fun p hp => N p (by
  simp only [List.mem_cons] at hp ⊢
  rcases hp with h | h | h | h
  · exact .inr (.inl h)
  · exact .inr (.inr (.inl h))
  · exact .inl h
  · exact .inr (.inr (.inr h)))
theorem itemS_S (l : List Nat) {i : Int} (h0 : 0 ≤ i) (h1 : i < l.length) : Txt.item (S l) i = S [l.getD i.toNat 0] := by
  obtain ⟨n, rfl⟩ : ∃ n : Nat, i = n := ⟨i.toNat, by omega⟩
  have hn : n < l.length := by omega
  unfold Txt.item Txt.charAt
  rw [S_len, StrLaws.seqIndex_nonneg h0 h1]
  simp [S, hn]
section
variable {prog : Program} {w : World} {A : Around} {E : Value → Shared → Prop} {s : Shared} {value slice : PySem.Expr} {l : List Nat} {t u : Tok} {i : Int} {Q : Value → Shared → Prop}
theorem item_str_S (hl : l.length ≤ 1000) (h0 : 0 ≤ i) (h1 : i < l.length) (h : (S [l.getD i.toNat 0]).length ≤ 1 → Q (.str (S [l.getD i.toNat 0]) s.toks) { s with toks := s.toks + 1 })
    (hs : subscripted slice false (.str (S l) t) (.int i u) = operate [.str (S l) t, .int i u] (getItem (.str (S l) t) (.int i u)) := by with_unfolding_all rfl)
    (ht : ∀ r, letTemporaryGo value (.str (S l) t) r = pure () := by intro _; with_unfolding_all rfl) :
    wpAny (model prog w) A (subscriptTail value slice (.str (S l) t) (.int i u)) Q E s := by
  refine KXi.item (n := l.length) (S_len l) (by omega) h1 (by omega) (fun _ => ?_) hs ht
  rw [itemS_S l h0 h1]
  exact h (by rw [S_len]; exact Nat.le_refl _)
end
noncomputable def digit (c : Nat) : Bool := decide (48 ≤ c ∧ c ≤ 57)
theorem contains_one (x : PySem.Str) (c : Nat) : Txt.contains x ⟨#[c]⟩ = decide (c ∈ x.cps.toList) := StrLaws.found_one x c
theorem fig_in (c : Nat) : Txt.contains (PySem.Str.ofString "0123456789") (S [c]) = digit c := by
  show Txt.contains _ ⟨#[c]⟩ = _
  rw [contains_one, show PySem.Str.ofString "0123456789" = S (List.range' 48 10) by decide +kernel, digit]
  congr 1
  simp only [S, List.mem_range'_1, eq_iff_iff]
  exact ⟨fun h => ⟨h.1, by omega⟩, fun h => ⟨h.1, by omega⟩⟩
section
variable {prog : Program} {w : World} {A : Around} {E : Value → Shared → Prop} {s : Shared} {c : Nat} {t u : Tok} {Q : Value → Shared → Prop}
theorem in_fig (h : Q (.bool (digit c)) s) : wpAny (model prog w) A (compareOp .In (.str (S [c]) u) (.str (PySem.Str.ofString "0123456789") t)) Q E s := SB.contains (by rw [fig_in]; exact h)
end
theorem News.pick2 {h₀ h : Heap} {L : Addr} {news : Led} {a b : Addr × Obj} (N : News h₀ L h news) (ha : a ∈ news) (hb : b ∈ news) : News h₀ L h [a, b] := fun p hp => N p (by
  simp only [List.mem_cons, List.not_mem_nil, or_false] at hp
  rcases hp with rfl | rfl
  · exact ha
  · exact hb)
theorem allLt_ne {d : Addr} : ∀ {l : Led}, AllLt d l → ∀ p ∈ l, p.1 ≠ d
  | [], _, _, h => nomatch h
  | _ :: _, x, p, h => by
    rcases List.mem_cons.mp h with rfl | h
    · exact Nat.ne_of_lt x.1
    · exact allLt_ne x.2 p h
noncomputable def aW (A : Around) : Around := A
noncomputable def eW (e : Env) : Env := e
theorem letA {M : Model} {A : Around} {T : Sem α} {Q : α → Shared → Prop} {E : Value → Shared → Prop} {s : Shared} (k : let A' := aW A; wpAny M A' T Q E s) : wpAny M A T Q E s := k
theorem letE {M : Model} {A : Around} {b : List Stmt} {env : Env} {Q : Flow → Shared → Prop} {E : Value → Shared → Prop} {s : Shared} (k : let e' := eW env; wpAny M A (execs b e') Q E s) : wpAny M A (execs b env) Q E s := k
theorem slice_drop3 {l : List Nat} (h : 3 ≤ l.length) : Txt.slice (S l) (some 3) none = S (l.drop 3) := by
  have e : Txt.slice (S l) (some 3) none = Txt.slice (S l) (some ((3 : Nat) : Int)) (some ((l.length : Nat) : Int)) := by
    show StrLaws.sliceText (S l) _ _ = StrLaws.sliceText (S l) _ _
    unfold StrLaws.sliceText
    rw [S_len]
    unfold Builtin.Str.strSliceIndices
    simp only [show (1 : Int) > 0 from by decide, if_true]
    have a : ¬ (((l.length : Nat) : Int) < 0) := by omega
    rw [if_neg a, Int.min_self, Int.max_eq_right (Int.natCast_nonneg _)]; rfl
  rw [e, slice_nat l h, List.take_of_length_le (by rw [List.length_drop]; omega)]
theorem slice_last {l : List Nat} (h : 1 ≤ l.length) : Txt.slice (S l) none (some (-1)) = S (l.take (l.length - 1)) := by
  have e : Txt.slice (S l) none (some (-1)) = Txt.slice (S l) (some ((0 : Nat) : Int)) (some ((l.length - 1 : Nat) : Int)) := by
    show StrLaws.sliceText (S l) _ _ = StrLaws.sliceText (S l) _ _
    unfold StrLaws.sliceText
    rw [S_len]
    unfold Builtin.Str.strSliceIndices
    simp only [show (1 : Int) > 0 from by decide, if_true]
    have a : ¬ (((l.length - 1 : Nat) : Int) < 0) := by omega
    rw [if_neg a, if_pos (show (-1 : Int) < 0 by decide)]
    have b : ¬ (((0 : Nat) : Int) < 0) := by decide
    rw [if_neg b]
    rw [show max (0 : Int) (min (-1 + (l.length : Int)) (l.length : Int)) = max 0 (min ((l.length - 1 : Nat) : Int) (l.length : Int)) by omega, show max (0 : Int) (min ((0 : Nat) : Int) (l.length : Int)) = 0 by omega]
  rw [e, slice_nat l (Nat.zero_le _), List.drop_zero, Nat.sub_zero]
theorem S_cps (l : List Nat) : (S l).cps.toList = l := by simp [S]
theorem S_of (x : PySem.Str) : S x.cps.toList = x := by cases x; simp [S]
theorem S_app (a b : List Nat) : S a ++ S b = S (a ++ b) := by
  show PySem.Str.append _ _ = _
  simp [S, PySem.Str.append]
theorem eqS (a b : List Nat) : (S a == S b) = (a == b) := by rw [Bool.eq_iff_iff]; simp [S_inj]
theorem neS (a b : List Nat) : (S a != S b) = (a != b) := by unfold bne; rw [eqS]
noncomputable abbrev PS := Nat × Bool
noncomputable abbrev RdOk (x dx : Addr) (l : List Nat) (rest : Led) : Prop := @LT.lt Nat _ dx x ∧ (∀ p ∈ rest, p.1 ≠ dx) ∧ l.length ≤ 1000
structure Rd where
  x : Addr
  dx : Addr
  l : List Nat
  tT : Tok
  h1 : Int
  h2 : Int
  h3 : Int
  k1 : Tok
  k2 : Tok
  k3 : Tok
/-- the entries of the reader's dict -/
noncomputable abbrev rdEs (r : Rd) (p : PS) (tA : Tok) : List DictEntry := [⟨r.h1, .str (PySem.Str.ofString "text") r.k1, .str (S r.l) r.tT⟩, ⟨r.h2, .str (PySem.Str.ofString "at") r.k2, .int (p.1 : Int) tA⟩, ⟨r.h3, .str (PySem.Str.ofString "is_wrong") r.k3, .bool p.2⟩]
noncomputable def rdLed (R : Option Rd) (p : PS) (tA : Tok) (rest : Led) : Led := match R with
  | none => rest
  | some r => rdL r.x r.dx r.l r.tT (p.1 : Int) tA p.2 r.h1 r.h2 r.h3 r.k1 r.k2 r.k3 rest
noncomputable def RdGood (R : Option Rd) (rest : Led) : Prop := match R with
  | none => True
  | some r => RdOk r.x r.dx r.l rest
/-- a value without its token -/
inductive PV where
  | lit (i : Int) | int (i : Int) | bool (b : Bool) | str (l : List Nat) (b : Nat) | none | ref (a : Addr) | bi (s : String) | rd | tup (xs : List Int)
noncomputable def biV (s : String) : Value := bif s == "str" then .type "str" else .builtin s
noncomputable def RV (R : Option Rd) (rest : Led) : PV → Value → Prop
  | .lit i, v => ∃ t, v = .int i t
  | .int i, v => ∃ t, v = .int i t
  | .bool b, v => v = .bool b
  | .str l b, v => l.length ≤ b ∧ ∃ t, v = .str (S l) t
  | .none, v => v = .none
  | .ref a, v => v = .ref a
  | .bi s, v => v = biV s
  | .rd, v => ∃ r, R = some r ∧ v = .ref r.x
  | .tup xs, v => ∃ a vs, v = .ref a ∧ (a, tupO vs) ∈ rest ∧ IntsAre vs xs
noncomputable def RVs (R : Option Rd) (rest : Led) : List PV → List Value → Prop
  | [], vs => vs = []
  | p :: ps, vs => ∃ v r, vs = v :: r ∧ RV R rest p v ∧ RVs R rest ps r
noncomputable def onI : PV → (Int → Prop) → Prop
  | .lit i, k => k i
  | .int i, k => k i
  | _, _ => False
noncomputable def onL : PV → (Int → Prop) → Prop
  | .lit i, k => k i
  | _, _ => False
noncomputable def onS : PV → (List Nat → Nat → Prop) → Prop
  | .str l b, k => k l b
  | _, _ => False
noncomputable def onB : PV → (Bool → Prop) → Prop
  | .bool b, k => k b
  | _, _ => False
noncomputable def onT : PV → (List Int → Prop) → Prop
  | .tup b, k => k b
  | _, _ => False
noncomputable def onO {α : Type} : Option α → (α → Prop) → Prop
  | some a, k => k a
  | none, _ => False
noncomputable def guard (b : Bool) (P : Prop) : Prop := cond b P False
theorem guardE {b : Bool} {P : Prop} (h : guard b P) : b = true ∧ P := by cases b; exact h.elim; exact ⟨rfl, h⟩
theorem onOE {α : Type} {P : Prop} {o : Option α} {k : α → Prop} (h : onO o k) (f : ∀ a, o = some a → k a → P) : P := by cases o; exact h.elim; exact f _ rfl h
section
variable {R : Option Rd} {rest rest' : Led} {p : PV} {v : Value} {P : Value → Prop}
theorem RV.mono (h : ∀ q ∈ rest, q ∈ rest') (r : RV R rest p v) : RV R rest' p v := by
  cases p <;> first | exact r | exact r.elim fun a r => r.elim fun vs r => ⟨a, vs, r.1, h _ r.2.1, r.2.2⟩
theorem RVs.mono (h : ∀ q ∈ rest, q ∈ rest') : ∀ {ps : List PV} {vs : List Value}, RVs R rest ps vs → RVs R rest' ps vs
  | [], _, r => r
  | _ :: _, _, ⟨v, r, e, a, b⟩ => ⟨v, r, e, a.mono h, RVs.mono h b⟩
theorem onIE {k : Int → Prop} (h : onI p k) (r : RV R rest p v) (f : ∀ i t, k i → P (.int i t)) : P v := by
  cases p <;> first | exact h.elim | (obtain ⟨t, rfl⟩ := r; exact f _ _ h)
theorem onLE {k : Int → Prop} (h : onL p k) (r : RV R rest p v) (f : ∀ i t, k i → P (.int i t)) : P v := by
  cases p <;> first | exact h.elim | (obtain ⟨t, rfl⟩ := r; exact f _ _ h)
theorem onSE {k : List Nat → Nat → Prop} (h : onS p k) (r : RV R rest p v) (f : ∀ l b t, k l b → l.length ≤ b → P (.str (S l) t)) : P v := by
  cases p <;> first | exact h.elim | (obtain ⟨l, t, rfl⟩ := r; exact f _ _ _ h l)
theorem onBE {k : Bool → Prop} (h : onB p k) (r : RV R rest p v) (f : ∀ b, k b → P (.bool b)) : P v := by
  cases p <;> first | exact h.elim | (cases r; exact f _ h)
theorem onTE {k : List Int → Prop} (h : onT p k) (r : RV R rest p v) (f : ∀ xs a vs, k xs → (a, tupO vs) ∈ rest → IntsAre vs xs → P (.ref a)) : P v := by
  cases p <;> first | exact h.elim | (obtain ⟨a, vs, rfl, hm, hi⟩ := r; exact f _ _ _ h hm hi)
end
/-- a function of the text: its address, its depth, what it gives back -/
structure FnSpec (w : World) where
  f : Addr
  n : Nat
  sp : List PV → (PV → Prop) → Prop
  keep : keepIn (Mine.hd.heap_1 w.params) (.ref f) = true
  sound : ∀ {R : Option Rd} {rest : Led} {pvs : List PV} {vs : List Value} {k : PV → Prop}, RVs R rest pvs vs → sp pvs k → ∀ news : Led, (∀ q ∈ rest, q ∈ news) →
    ∃ n1 : Led, (∀ q ∈ n1, q ∈ news) ∧ Claim w f n vs n1 True (fun r news' => (∀ q ∈ news, q ∈ news') ∧ ∃ pv, k pv ∧ RV R news' pv r)
/-- a method of the reader -/
structure MtSpec (w : World) where
  nm : PySem.Str
  f : Addr
  n : Nat
  sp : List Nat → PS → List PV → (PV → PS → Prop) → Prop
  keep : keepIn (Mine.hd.heap_1 w.params) (.ref f) = true
  fn : isFn (Mine.hd.heap_1 w.params) (.ref f) = true
  plain : plainGet (Mine.hd.heap_1 w.params) 328 nm = true
  find : findIn (Mine.hd.heap_1 w.params) (.ref 328) nm = some (some (.ref f))
  own : ∀ (r : Rd) (p : PS) (tA : Tok), getL nm (rdEs r p tA) = some none
  sound : ∀ {r : Rd} {rest : Led} {p : PS} {pvs : List PV} {vs : List Value} {k : PV → PS → Prop}, RVs (some r) rest pvs vs → sp r.l p pvs k → ∀ tA,
    Claim w f n (.ref r.x :: vs) (rdLed (some r) p tA rest) (RdGood (some r) rest) (fun v news' => ∃ pv p' tA' rest', k pv p' ∧ rdLed (some r) p' tA' rest' = news' ∧ (∀ q ∈ rest, q ∈ rest') ∧ RdGood (some r) rest' ∧ RV (some r) rest' pv v)
noncomputable def findFn {w : World} (a : Addr) : List (FnSpec w) → Option (FnSpec w)
  | [] => none
  | s :: r => bif Nat.beq s.f a then some s else findFn a r
theorem findFn_f {w : World} {a : Addr} : ∀ {l : List (FnSpec w)} {s : FnSpec w}, findFn a l = some s → s.f = a
  | s :: r, s', h => by
    unfold findFn at h
    cases e : Nat.beq s.f a with
    | true => rw [e] at h; cases h; exact Nat.eq_of_beq_eq_true e
    | false => rw [e] at h; exact findFn_f h
noncomputable def findMt {w : World} (a : PySem.Str) : List (MtSpec w) → Option (MtSpec w)
  | [] => none
  | s :: r => bif s.nm == a then some s else findMt a r
theorem findMt_f {w : World} {a : PySem.Str} : ∀ {l : List (MtSpec w)} {s : MtSpec w}, findMt a l = some s → s.nm = a
  | s :: r, s', h => by
    unfold findMt at h
    cases e : s.nm == a with
    | true => rw [e] at h; cases h; exact beq_iff_eq.mp e
    | false => rw [e] at h; exact findMt_f h
noncomputable def isLit : PV → Bool
  | .lit _ => true
  | _ => false
noncomputable def isNone : PV → Bool
  | .none => true
  | _ => false
noncomputable def addK (x y : PV) (k : PV → Prop) : Prop := match x with
  | .str a m => onS y fun b n => guard (Nat.ble (m + n) 16777216) (k (.str (a ++ b) (m + n)))
  | .tup a => onT y fun b => guard (Nat.ble (a.length + b.length) 1000) (k (.tup (a ++ b)))
  | x => onI x fun a => onI y fun b => k (.int (a + b))
noncomputable def mulK (x y : PV) (k : PV → Prop) : Prop := match x with
  | .str a _ => onI y fun n => MulOk (S a) n ∧ (Txt.mul (S a) n).length ≤ 20 ∧ k (.str (Txt.mul (S a) n).cps.toList 20)
  | x => onI x fun a => onI y fun b => guard (isLit x && Nat.ble (Builtin.Int.intBits a) 64 || isLit y && Nat.ble (Builtin.Int.intBits b) 64) (k (.int (a * b)))
noncomputable def binK (op : Operator) (x y : PV) (k : PV → Prop) : Prop := match op with
  | .Add => addK x y k
  | .Sub => onI x fun a => onI y fun b => k (.int (a - b))
  | .Mult => mulK x y k
  | .FloorDiv => onI x fun a => onL y fun b => guard (!Int.beq' b 0 && Nat.blt b.natAbs.log2 9000) (k (.int (a.fdiv b)))
  | .Mod => onI x fun a => onL y fun b => guard (!Int.beq' b 0) (k (.int (a.fmod b)))
  | .RShift => onI x fun a => onL y fun b => 0 ≤ b ∧ k (.int (a.fdiv (2 ^ b.toNat)))
  | .BitAnd => onI x fun a => onL y fun b => guard (Int.beq' b 15) (k (.int (a % 16)))
  | _ => False
noncomputable def cmpB : CmpOp → Int → Int → Bool
  | .Eq, a, b => a == b
  | .NotEq, a, b => a != b
  | .Lt, a, b => decide (a < b)
  | .LtE, a, b => decide (a ≤ b)
  | .Gt, a, b => decide (b < a)
  | _, a, b => decide (b ≤ a)
noncomputable def cmpN (x : PV) (k : Bool → Prop) : Prop := match x with
  | .none => k true
  | x => onI x fun _ => k false
noncomputable def eqK (x y : PV) (op : CmpOp) (kI : Bool → Prop) (kS : List Nat → List Nat → Prop) : Prop := match x with
  | .str a _ => onS y fun b _ => kS a b
  | x => onI x fun a => onI y fun b => kI (cmpB op a b)
/-- word in a written table, sign in a text, None in a tuple -/
noncomputable def inK (x y : PV) (k : Bool → Prop) : Prop := match y with
  | .tup _ => guard (isNone x) (k false)
  | .str l _ => onS x fun a _ => match a with
    | [c] => k (decide (c ∈ l))
    | _ => False
  | .ref a => onS x fun x _ => bif Nat.beq a 185 then k (decide (x ∈ wkT)) else guard (Nat.beq a 184) (k (decide (x ∈ monT)))
  | _ => False
noncomputable def cmpK (op : CmpOp) (x y : PV) (k : Bool → Prop) : Prop := match op with
  | .Is => guard (isNone y) (cmpN x k)
  | .IsNot => guard (isNone y) (cmpN x fun b => k (!b))
  | .In => guard (!(match y with | .ref _ => true | _ => false)) (inK x y k)
  | .NotIn => guard (match y with | .ref _ => true | .str _ _ => true | _ => false) (inK x y fun b => k (!b))
  | .Eq => eqK x y .Eq k fun a b => k (a == b)
  | .NotEq => eqK x y .NotEq k fun a b => k (a != b)
  | op => onI x fun a => onI y fun b => k (cmpB op a b)
noncomputable def unK (op : PySem.UnaryOp) (x : PV) (k : PV → Prop) : Prop := match op with
  | .USub => onI x fun a => k (.int (-a))
  | .Not => onB x fun b => k (.bool (!b))
  | _ => False
noncomputable abbrev E0 : Value → Shared → Prop := fun _ _ => False
/-- what stands about a frame of a def -/
structure Cx (w : World) (cs : PySem.Scope) where
  prog : Program
  p : Program
  loose : List PySem.Str
  mean : ExcName → Option Value
  mg : PySem.Str → Option Value
  mb : PySem.Str → Option Value
  dp : Nat
  un : Nat
  gd : Option (List Code)
  cn : PySem.Str
  L : Addr
  a : Addr
  ccd : Value
  cl : List (PySem.Str × Addr)
  outer : List Env
  A₀ : Around
  base : Heap
  h₀ : Heap
  gs : Array GenState
  dr : Drawn
  os : OsState
  B : Below A₀ base outer h₀
  X : (Mine.hd.heap_1 w.params).In h₀
  T : Top p loose mean mg mb h₀
  hk : cs.kind = .function
namespace Cx
variable {w : World} {cs : PySem.Scope}
noncomputable abbrev env (C : Cx w cs) : Env := envX C.cn cs C.L C.a C.ccd C.cl
noncomputable abbrev A (C : Cx w cs) : Around := ktrTop C.dp C.un C.gd C.cn cs C.L C.a C.ccd C.cl C.outer
noncomputable abbrev st (C : Cx w cs) (h : Heap) (tk : Nat) : Shared := ⟨h, C.gs, C.dr, tk, C.os⟩
/-- the tree t, from the heap h, ends in Q -/
noncomputable def wp {α : Type} (C : Cx w cs) (t : Sem α) (Q : α → Shared → Prop) (h : Heap) (tk : Nat) : Prop := wpAny (model C.prog w) C.A t Q E0 (C.st h tk)
end Cx
structure Stt {w : World} {cs : PySem.Scope} (C : Cx w cs) (R : Option Rd) (lk : List (PySem.Str × PV)) (m : PySem.Str → Option Value) (p : PS) (tA : Tok) (rest : Led) (h : Heap) : Prop where
  F : Fr C.h₀ C.L h m
  N : News C.h₀ C.L h (rdLed R p tA rest)
  G : RdGood R rest
  H : ∀ x q, lk.lookup x = some q → ∃ v, m x = some v ∧ RV R rest q v
section
variable {w : World} {cs : PySem.Scope} {C : Cx w cs} {R : Option Rd} {lk : List (PySem.Str × PV)} {m : PySem.Str → Option Value} {p p' : PS} {tA : Tok} {rest rest' : Led} {h h' : Heap} {tk : Nat} {x y z : PV} {v u : Value}
theorem rdLed_rest {q : Addr × Obj} (hq : q ∈ rest) : q ∈ rdLed R p tA rest := by
  cases R with
  | none => exact hq
  | some r => exact .tail _ (.tail _ hq)
theorem newsDup {h₀ h : Heap} {L : Addr} {q : Addr × Obj} {news' : Led} (N : News h₀ L h news') (hq : q ∈ news') (keep : News h₀ L h (rdLed R p tA rest)) : News h₀ L h (rdLed R p tA (q :: rest)) := by
  cases R with
  | none => exact fun o ho => (List.mem_cons.mp ho).elim (fun e => e ▸ N q hq) fun ho => keep o ho
  | some r =>
    exact fun o ho => (List.mem_cons.mp ho).elim (fun e => keep _ (e ▸ .head _)) fun ho => (List.mem_cons.mp ho).elim (fun e => keep _ (e ▸ .tail _ (.head _))) fun ho =>
      (List.mem_cons.mp ho).elim (fun e => e ▸ N q hq) fun ho => keep o (.tail _ (.tail _ ho))
/-- the ledger behind a step that made a tuple or nothing -/
theorem Stt.step {news' : Led} (s : Stt C R lk m p tA rest h) (F : Fr C.h₀ C.L h' m) (N : News C.h₀ C.L h' news') (hn : ∀ q ∈ rdLed R p tA rest, q ∈ news') (r : RV R news' x v) :
    ∃ rest', Stt C R lk m p tA rest' h' ∧ (∀ q ∈ rest, q ∈ rest') ∧ RV R rest' x v := by
  have keep : News C.h₀ C.L h' (rdLed R p tA rest) := fun q hq => N q (hn q hq)
  have plain : RV R rest x v → ∃ rest', Stt C R lk m p tA rest' h' ∧ (∀ q ∈ rest, q ∈ rest') ∧ RV R rest' x v := fun r => ⟨rest, ⟨F, keep, s.G, s.H⟩, fun _ h => h, r⟩
  cases x <;> try exact plain r
  obtain ⟨a, vs, rfl, ha, hi⟩ := r
  refine ⟨(a, tupO vs) :: rest, ⟨F, newsDup N ha keep, ?_, fun y q e => (s.H y q e).elim fun v e => ⟨v, e.1, e.2.mono fun _ h => .tail _ h⟩⟩, fun _ h => .tail _ h, a, vs, rfl, .head _, hi⟩
  cases R with
  | none => trivial
  | some r =>
    refine ⟨s.G.1, fun q hq => (List.mem_cons.mp hq).elim (fun e e' => ?_) (s.G.2.1 q), s.G.2.2⟩
    rw [e] at e'
    have e1 := (N _ ha).1
    have e2 := (keep _ (.tail _ (.head _))).1
    dsimp only at e' e1 e2
    rw [e', e2] at e1
    simp [tupO, rdD, dictOf] at e1
theorem Stt.state (s : Stt C R lk m p tA rest h) (F : Fr C.h₀ C.L h' m) {tA' : Tok} (N : News C.h₀ C.L h' (rdLed R p' tA' rest')) (hr : ∀ q ∈ rest, q ∈ rest') (G : RdGood R rest') : Stt C R lk m p' tA' rest' h' := ⟨F, N, G, fun y q e =>
  (s.H y q e).elim fun v e => ⟨v, e.1, e.2.mono hr⟩⟩
theorem eq15 {b : Int} (h : Int.beq' b 15 = true) : b = 15 := Int.beq'_eq .. |>.mp h
theorem ne0 {b : Int} (h : (!Int.beq' b 0) = true) : b ≠ 0 := fun e => by rw [e] at h; cases h
/-- what is asked behind a step -/
noncomputable abbrev Kt (C : Cx w cs) (R : Option Rd) (lk : List (PySem.Str × PV)) (m : PySem.Str → Option Value) (rest : Led) (k : PV → PS → Prop) (Q : Value → Shared → Prop) : Prop :=
  ∀ x p v h' tk' tA' rest', k x p → Stt C R lk m p tA' rest' h' → (∀ q ∈ rest, q ∈ rest') → RV R rest' x v → Q v (C.st h' tk')
variable {Q : Value → Shared → Prop} {k : PV → Prop} (s : Stt C R lk m p tA rest h)
include s
theorem add_sound (e : addK x y k) (rx : RV R rest x v) (ry : RV R rest y u) (f : Kt C R lk m rest (fun z p' => k z ∧ p' = p) Q) : C.wp (binaryOp .Add v u) Q h tk := by
  have same : ∀ {z v tk}, k z → RV R rest z v → Q v (C.st h tk) := fun hk r => f _ _ _ _ _ _ _ ⟨hk, rfl⟩ s (fun _ h => h) r
  have num : onI x (fun a => onI y fun b => k (.int (a + b))) → C.wp (binaryOp .Add v u) Q h tk := fun e =>
    onIE (P := fun v => C.wp (binaryOp .Add v u) Q h tk) e rx fun a t e => onIE (P := fun u => C.wp (binaryOp .Add (.int a t) u) Q h tk) e ry fun b t' e => add_int (same e ⟨_, rfl⟩)
  cases x <;> try exact num e
  case str a m =>
    obtain ⟨la, t, rfl⟩ := rx
    refine onSE (P := fun u => C.wp (binaryOp .Add (.str (S a) t) u) Q h tk) e ry fun b n t' e lb => ?_
    have g := guardE e
    exact KXadd.add (by rw [S_len]; exact la) (by rw [S_len]; exact lb) (Nat.le_of_ble_eq_true g.1) fun t'' k' hl' => by
      rw [S_app]; exact same g.2 ⟨by rw [List.length_append]; exact Nat.add_le_add la lb, _, rfl⟩
  case tup a =>
    obtain ⟨c, vs, rfl, hm, hi⟩ := rx
    refine onTE (P := fun u => C.wp (binaryOp .Add (.ref c) u) Q h tk) e ry fun b d ws e hm' hj => ?_
    have g := guardE e
    have n1 : ∀ q ∈ rest, q ∈ rdLed R p tA rest := fun q hq => rdLed_rest hq
    refine add_tuples s.F s.N (s.N.isTup (n1 _ hm)) (s.N.isTup (n1 _ hm')) (fun e => ?_) (fun _ e => ?_) (fun _ _ h' F' N' => ?_) ?_
    · subst e; cases hi; exact same g.2 ⟨_, _, rfl, hm', hj⟩
    · subst e; cases hj; exact same g.2 ⟨_, _, rfl, hm, by rw [List.append_nil]; exact hi⟩
    · obtain ⟨rest', s', hr, r⟩ := s.step (x := .tup (a ++ b)) F' N' (fun _ h => .tail _ h) ⟨_, _, rfl, .head _, hi.append hj⟩
      exact f _ _ _ _ _ _ _ ⟨g.2, rfl⟩ s' hr r
    · rw [hi.length, hj.length, sizeLine_eq]; exact Nat.le_trans (Nat.le_of_ble_eq_true g.1) (by decide)
theorem mul_sound (e : mulK x y k) (rx : RV R rest x v) (ry : RV R rest y u) (f : Kt C R lk m rest (fun z p' => k z ∧ p' = p) Q) : C.wp (binaryOp .Mult v u) Q h tk := by
  have same : ∀ {z v tk}, k z → RV R rest z v → Q v (C.st h tk) := fun hk r => f _ _ _ _ _ _ _ ⟨hk, rfl⟩ s (fun _ h => h) r
  have num : (onI x fun a => onI y fun b => guard (isLit x && Nat.ble (Builtin.Int.intBits a) 64 || isLit y && Nat.ble (Builtin.Int.intBits b) 64) (k (.int (a * b)))) → C.wp (binaryOp .Mult v u) Q h tk := fun e =>
    onIE (P := fun v => C.wp (binaryOp .Mult v u) Q h tk) e rx fun a t e => onIE (P := fun u => C.wp (binaryOp .Mult (.int a t) u) Q h tk) e ry fun b t' e =>
      mul_int (same (guardE e).2 ⟨_, rfl⟩) ((Bool.or_eq_true_iff.mp (guardE e).1).elim (fun q => .of_left (Nat.le_of_ble_eq_true (Bool.and_eq_true_iff.mp q).2)) fun q => .of_right (Nat.le_of_ble_eq_true (Bool.and_eq_true_iff.mp q).2))
  cases x <;> try exact num e
  obtain ⟨la, t, rfl⟩ := rx
  exact onIE (P := fun u => C.wp (binaryOp .Mult (.str (S _) t) u) Q h tk) e ry fun n t' e => SB.mul e.1 fun t2 k2 => same e.2.2 ⟨by rw [Array.length_toList]; exact e.2.1, t2, by rw [S_of]⟩
theorem bin_sound {op : Operator} (e : binK op x y k) (rx : RV R rest x v) (ry : RV R rest y u) (f : Kt C R lk m rest (fun z p' => k z ∧ p' = p) Q) : C.wp (binaryOp op v u) Q h tk := by
  have same : ∀ {z v tk}, k z → RV R rest z v → Q v (C.st h tk) := fun hk r => f _ _ _ _ _ _ _ ⟨hk, rfl⟩ s (fun _ h => h) r
  cases op <;> try exact e.elim
  · exact add_sound s e rx ry f
  · exact onIE (P := fun v => C.wp (binaryOp .Sub v u) Q h tk) e rx fun a t e => onIE (P := fun u => C.wp (binaryOp .Sub (.int a t) u) Q h tk) e ry fun b t' e => sub_int (same e ⟨_, rfl⟩)
  · exact mul_sound s e rx ry f
  · exact onIE (P := fun v => C.wp (binaryOp .Mod v u) Q h tk) e rx fun a t e => onLE (P := fun u => C.wp (binaryOp .Mod (.int a t) u) Q h tk) e ry fun b t' e => mod_int (ne0 (guardE e).1) (same (guardE e).2 ⟨_, rfl⟩)
  · exact onIE (P := fun v => C.wp (binaryOp .RShift v u) Q h tk) e rx fun a t e => onLE (P := fun u => C.wp (binaryOp .RShift (.int a t) u) Q h tk) e ry fun b t' e => rshift_int e.1 (same e.2 ⟨_, rfl⟩)
  · exact onIE (P := fun v => C.wp (binaryOp .BitAnd v u) Q h tk) e rx fun a t e => onLE (P := fun u => C.wp (binaryOp .BitAnd (.int a t) u) Q h tk) e ry fun b t' e => by
      obtain rfl := eq15 (guardE e).1
      exact and_int (same (guardE e).2 ⟨_, by rw [bitAnd_m4]⟩)
  · exact onIE (P := fun v => C.wp (binaryOp .FloorDiv v u) Q h tk) e rx fun a t e => onLE (P := fun u => C.wp (binaryOp .FloorDiv (.int a t) u) Q h tk) e ry fun b t' e =>
      floordiv_int (ne0 (Bool.and_eq_true_iff.mp (guardE e).1).1) (same (guardE e).2 ⟨_, rfl⟩) (.inl (PyProof.noPylong_of_log2 (Nat.le_of_ble_eq_true (Bool.and_eq_true_iff.mp (guardE e).1).2)))
theorem cmpI_sound {op : CmpOp} {k : Bool → Prop} {Q : Value → Shared → Prop} (ho : op ≠ .Is ∧ op ≠ .IsNot ∧ op ≠ .In ∧ op ≠ .NotIn) (e : onI x fun a => onI y fun b => k (cmpB op a b)) (rx : RV R rest x v) (ry : RV R rest y u) (f : ∀ b, k b → Q (.bool b) (C.st h tk)) : C.wp (compareOp op v u) Q h tk := by
  refine onIE (P := fun v => C.wp (compareOp op v u) Q h tk) e rx fun a t e => onIE (P := fun u => C.wp (compareOp op (.int a t) u) Q h tk) e ry fun b t' e => ?_
  have z := f _ e
  cases op
  · exact eq_int z
  · exact ne_int z
  · exact lt_int z
  · exact PyProof.Rows.le_int z
  · exact gt_int z
  · exact PyProof.Rows.ge_int z
  · exact absurd rfl ho.1
  · exact absurd rfl ho.2.1
  · exact absurd rfl ho.2.2.1
  · exact absurd rfl ho.2.2.2
theorem cmpN_sound {k : Bool → Prop} (e : cmpN x k) (rx : RV R rest x v) : k (v == .none) := by
  cases x <;> first | exact e.elim | (cases rx; exact e) | (obtain ⟨t, rfl⟩ := rx; exact e)
theorem cmp_sound {op : CmpOp} {k : Bool → Prop} {Q : Value → Shared → Prop} (e : cmpK op x y k) (rx : RV R rest x v) (ry : RV R rest y u) (f : ∀ b, k b → Q (.bool b) (C.st h tk)) : C.wp (compareOp op v u) Q h tk := by
  have num : ∀ op, (op ≠ .Is ∧ op ≠ .IsNot ∧ op ≠ .In ∧ op ≠ .NotIn) → (onI x fun a => onI y fun b => k (cmpB op a b)) → C.wp (compareOp op v u) Q h tk := fun op ho e => cmpI_sound s ho e rx ry f
  cases op
  · cases x <;> first | exact num .Eq (by decide) e | skip
    obtain ⟨_, t, rfl⟩ := rx
    exact onSE (P := fun u => C.wp (compareOp .Eq (.str _ t) u) Q h tk) e ry fun b _ t' e _ => PyProof.Rows.eq_str (by rw [eqS]; exact f _ e)
  · cases x <;> first | exact num .NotEq (by decide) e | skip
    obtain ⟨_, t, rfl⟩ := rx
    exact onSE (P := fun u => C.wp (compareOp .NotEq (.str _ t) u) Q h tk) e ry fun b _ t' e _ => PyProof.Rows.ne_str (by rw [neS]; exact f _ e)
  · exact num .Lt (by decide) e
  · exact num .LtE (by decide) e
  · exact num .Gt (by decide) e
  · exact num .GtE (by decide) e
  · cases y <;> first | exact False.elim e | (cases ry; exact is_none (f _ (cmpN_sound s e rx)))
  · cases y <;> first | exact False.elim e | (cases ry; exact isNot_none (f _ (cmpN_sound s (k := fun b => k (!b)) e rx)))
  · cases y <;> first | exact False.elim e | skip
    · rename_i l0 b0
      obtain ⟨_, t, rfl⟩ := ry
      refine onSE (P := fun v => C.wp (compareOp .In v (.str _ t)) Q h tk) e rx fun a b t' e _ => ?_
      match a, e with
      | [c], e =>
        refine SB.contains (f _ ?_)
        have z := contains_one (S l0) c
        rw [S_cps] at z
        show k (Txt.contains (S _) ⟨#[c]⟩)
        rw [z]; exact e
    · obtain ⟨a, vs, rfl, hm, hi⟩ := ry
      cases x <;> first | exact False.elim e | (cases rx; exact in_tuple_none s.N (rdLed_rest hm) hi (f _ e))
  · cases y <;> first | exact False.elim e | skip
    · rename_i l0 b0
      obtain ⟨_, t, rfl⟩ := ry
      refine onSE (P := fun v => C.wp (compareOp .NotIn v (.str _ t)) Q h tk) e rx fun a b t' e _ => ?_
      match a, e with
      | [c], e =>
        refine SB.notContains (f _ ?_)
        have z := contains_one (S l0) c
        rw [S_cps] at z
        show k (!Txt.contains (S _) ⟨#[c]⟩)
        rw [z]; exact e
    rename_i d
    obtain rfl := ry
    refine onSE (P := fun v => C.wp (compareOp .NotIn v (.ref _)) Q h tk) e rx fun a b t' e _ => ?_
    cases h1 : Nat.beq d 185 with
    | true =>
      obtain rfl := Nat.eq_of_beq_eq_true h1
      exact notin_T (listK s.F C.X (by k_is)) wk_strs (by have z := f _ e; rw [← decide_not] at z; exact z)
    | false =>
      rw [h1] at e
      have g := guardE e
      obtain rfl := Nat.eq_of_beq_eq_true g.1
      exact notin_T (listK s.F C.X (by k_is)) mon_strs (by have z := f _ g.2; rw [← decide_not] at z; exact z)
end
noncomputable def glT : List (PySem.Str × PV) := [
  (PySem.Str.ofString "MS_OF_DAY", .lit 86400000),
  (PySem.Str.ofString "MS_OF_MINUTE", .lit 60000),
  (PySem.Str.ofString "MS_OF_HOUR", .lit 3600000),
  (PySem.Str.ofString "MS_OF_SECOND", .lit 1000),
  (PySem.Str.ofString "FARTHEST", .lit 8640000000000000),
  (PySem.Str.ofString "DAYS_OF_CYCLE", .lit 146097),
  (PySem.Str.ofString "YEARS_OF_CYCLE", .lit 400),
  (PySem.Str.ofString "FIRST_YEAR", .lit 1970),
  (PySem.Str.ofString "day_of", .ref 22),
  (PySem.Str.ofString "time_in_day", .ref 29),
  (PySem.Str.ofString "is_leap_year", .ref 36),
  (PySem.Str.ofString "day_from_year", .ref 43),
  (PySem.Str.ofString "year_of_day", .ref 50),
  (PySem.Str.ofString "year_of", .ref 57),
  (PySem.Str.ofString "day_in_year", .ref 64),
  (PySem.Str.ofString "days_ahead", .ref 71),
  (PySem.Str.ofString "days_of_month", .ref 78),
  (PySem.Str.ofString "month_of", .ref 85),
  (PySem.Str.ofString "date_of", .ref 92),
  (PySem.Str.ofString "week_day_of", .ref 99),
  (PySem.Str.ofString "hour_of", .ref 106),
  (PySem.Str.ofString "minute_of", .ref 113),
  (PySem.Str.ofString "second_of", .ref 120),
  (PySem.Str.ofString "ms_of", .ref 127),
  (PySem.Str.ofString "fields_of", .ref 134),
  (PySem.Str.ofString "make_time", .ref 141),
  (PySem.Str.ofString "make_day", .ref 148),
  (PySem.Str.ofString "make_date", .ref 155),
  (PySem.Str.ofString "time_clip", .ref 162),
  (PySem.Str.ofString "time_of_fields", .ref 169),
  (PySem.Str.ofString "local_of", .ref 176),
  (PySem.Str.ofString "utc_of", .ref 183),
  (PySem.Str.ofString "padded", .ref 192),
  (PySem.Str.ofString "plain_year", .ref 199),
  (PySem.Str.ofString "clock_text", .ref 206),
  (PySem.Str.ofString "day_text", .ref 213),
  (PySem.Str.ofString "offset_text", .ref 220),
  (PySem.Str.ofString "time_text", .ref 227),
  (PySem.Str.ofString "whole_text", .ref 234),
  (PySem.Str.ofString "utc_text", .ref 241),
  (PySem.Str.ofString "number_of_figures", .ref 248),
  (PySem.Str.ofString "iso_clock", .ref 339),
  (PySem.Str.ofString "parse_iso", .ref 346),
  (PySem.Str.ofString "parse_shown", .ref 353),
  (PySem.Str.ofString "parse_date", .ref 360),
  (PySem.Str.ofString "octet_text", .ref 367),
  (PySem.Str.ofString "hex_value", .ref 374),
  (PySem.Str.ofString "escape_text", .ref 381),
  (PySem.Str.ofString "unescape_text", .ref 388),
  (PySem.Str.ofString "_law_draw", .ref 395),
  (PySem.Str.ofString "_law_wide", .ref 402),
  (PySem.Str.ofString "_law_clock", .ref 407),
  (PySem.Str.ofString "_law_year", .ref 414),
  (PySem.Str.ofString "_law_shown", .ref 421),
  (PySem.Str.ofString "_law_utc", .ref 428),
  (PySem.Str.ofString "_law_escaped", .ref 433),
  (PySem.Str.ofString "_law_figures", .ref 440),
  (PySem.Str.ofString "_law_unescaped", .ref 447),
  (PySem.Str.ofString "law", .ref 452),
  (PySem.Str.ofString "AHEAD", .ref 15),
  (PySem.Str.ofString "MONTHS", .ref 184),
  (PySem.Str.ofString "WEEK_DAYS", .ref 185),
  (PySem.Str.ofString "NO_DATE", .str (PySem.Str.ofString "Invalid Date").cps.toList 12),
  (PySem.Str.ofString "FIGURES", .str (PySem.Str.ofString "0123456789").cps.toList 10),
  (PySem.Str.ofString "LOW_HEX", .str (PySem.Str.ofString "0123456789abcdef").cps.toList 16),
  (PySem.Str.ofString "_law_months", .str (PySem.Str.ofString "JanFebMarAprMayJunJulAugSepOctNovDec").cps.toList 36),
  (PySem.Str.ofString "_law_week", .str (PySem.Str.ofString "SunMonTueWedThuFriSat").cps.toList 21),
  (PySem.Str.ofString "KEPT_IN_ESCAPE", .str (PySem.Str.ofString "ABCDEFGHIJKLMNOPQRSTUVWXYZabcdefghijklmnopqrstuvwxyz0123456789@*_+-./").cps.toList 69),
  (PySem.Str.ofString "_law_plain", .str (PySem.Str.ofString "ABCDEFGHIJKLMNOPQRSTUVWXYZabcdefghijklmnopqrstuvwxyz0123456789@*_+-./").cps.toList 69),
  (PySem.Str.ofString "HEX", .str (PySem.Str.ofString "0123456789ABCDEF").cps.toList 16),
  (PySem.Str.ofString "abs", .bi "abs"),
  (PySem.Str.ofString "len", .bi "len"),
  (PySem.Str.ofString "max", .bi "max"),
  (PySem.Str.ofString "ord", .bi "ord"),
  (PySem.Str.ofString "chr", .bi "chr"),
  (PySem.Str.ofString "str", .bi "str")]
noncomputable def evN (cs : PySem.Scope) (lk : List (PySem.Str × PV)) (x : PySem.Str) : Option PV := bif x == PySem.Str.ofString "__debug__" then none else match cs.names.lookup x with
  | some .local => lk.lookup x
  | some .globalImplicit => glT.lookup x
  | _ => none
noncomputable def evC (c : PySem.Const) (k : PV → Prop) : Prop := match c with
  | .int i => k (.lit i)
  | .str s => k (.str s.cps.toList s.length)
  | .none => k .none
  | .bool b => k (.bool b)
  | _ => False
noncomputable def evA (ev : PS → PySem.Expr → (PV → PS → Prop) → Prop) : List PySem.Expr → PS → (List PV → PS → Prop) → Prop
  | [], p, k => k [] p
  | e :: r, p, k => ev p e fun x p => evA ev r p fun xs p => k (x :: xs) p
noncomputable def evBs (ev : PS → PySem.Expr → (PV → PS → Prop) → Prop) (op : PySem.BoolOp) : List PySem.Expr → PS → (PV → PS → Prop) → Prop
  | [], _, _ => False
  | x :: r, p, k => match r with
    | [] => ev p x k
    | _ :: _ => ev p x fun a p => onB a fun c => match op with
      | .And => (c = true → evBs ev op r p k) ∧ (c = false → k (.bool c) p)
      | .Or => (c = true → k (.bool c) p) ∧ (c = false → evBs ev op r p k)
noncomputable def pints : List PV → (List Int → Prop) → Prop
  | [], k => k []
  | x :: r, k => onI x fun a => pints r fun b => k (a :: b)
noncomputable def on1 (xs : List PV) (k : PV → Prop) : Prop := match xs with
  | [x] => k x
  | _ => False
noncomputable def on1c (a : List Nat) (k : Nat → Prop) : Prop := match a with
  | [c] => k c
  | _ => False
noncomputable def bi2 (id : String) (x : PV) (k : PV → Prop) : Prop :=
  bif id == "ord" then onS x fun a _ => on1c a fun c => k (.int (c : Int)) else guard (id == "chr") (onI x fun i => (0 ≤ i ∧ i ≤ 1114111) ∧ k (.str [i.toNat] 1))
noncomputable def biSp (id : String) (xs : List PV) (k : PV → Prop) : Prop := match xs with
  | [] => False
  | x :: xs => match xs with
    | [] => bif id == "abs" then onI x fun a => k (.int (if a < 0 then -a else a)) else bif id == "len" then onS x fun a b => guard (Nat.ble b 16777216) (k (.int (a.length : Int))) else bi2 id x k
    | y :: xs => guard (id == "max" && xs.isEmpty) (onI x fun a => onI y fun b => k (.int (if b > a then b else a)))
/-- a builtin function, or str of a number -/
noncomputable def biT (id : String) (xs : List PV) (k : PV → Prop) : Prop := bif id == "str" then on1 xs fun x => onI x fun i => i.natAbs < 10 ^ 6 ∧ k (.str (PySem.Str.ofString (toString i)).cps.toList (PySem.Str.ofString (toString i)).length) else biSp id xs k
noncomputable def evAt (r : Rd) (p : PS) (nm : PySem.Str) (k : PV → Prop) : Prop :=
  bif nm == PySem.Str.ofString "text" then k (.str r.l 1000) else bif nm == PySem.Str.ofString "at" then k (.int (p.1 : Int)) else guard (nm == PySem.Str.ofString "is_wrong") (k (.bool p.2))
noncomputable def tabK (a : Addr) (i : Int) (k : PV → Prop) : Prop :=
  bif Nat.beq a 15 then (0 ≤ i ∧ i < 13) ∧ k (.int (aheadT.getD i.toNat 0)) else bif Nat.beq a 185 then (0 ≤ i ∧ i < 7) ∧ k (.str (wkL i) 3) else guard (Nat.beq a 184) ((0 ≤ i ∧ i < 12) ∧ k (.str (monL i) 3))
/-- the place of a word in a written table -/
noncomputable def idxK (b : Addr) (a : List Nat) (k : Int → Prop) : Prop :=
  bif Nat.beq b 185 then a ∈ wkT ∧ k (wkT.idxOf a : Nat) else guard (Nat.beq b 184) (a ∈ monT ∧ k (monT.idxOf a : Nat))
noncomputable def nameX (e : PySem.Expr) (k : PySem.Str → Prop) : Prop := match e with
  | .Name x _ => k x
  | _ => False
/-- a name, or a written text -/
noncomputable def nameC (e : PySem.Expr) (kc : PySem.Str → Prop) (k : PySem.Str → Prop) : Prop := match e with
  | .Name x _ => k x
  | .Constant c _ _ => (match c with
    | .str s => kc s
    | _ => False)
  | _ => False
noncomputable def lowL (l : List Nat) : List Nat := (Txt.lower (S l)).cps.toList
noncomputable def notStar (e : PySem.Expr) : Bool := match e with
  | .Starred _ _ => false
  | _ => true
noncomputable def notSlice (e : PySem.Expr) : Bool := match e with
  | .Slice _ _ _ _ => false
  | _ => true
noncomputable def tabOf (cs : PySem.Scope) (lk : List (PySem.Str × PV)) (v : PySem.Expr) : Option Addr := match v with
  | .Name x _ => (evN cs lk x).bind fun v => match v with
    | .ref a => some a
    | _ => none
  | _ => none
noncomputable def tabOr (o : Option Addr) (A : Addr → Prop) (B : Prop) : Prop := match o with
  | some b => A b
  | none => B
theorem tabOrE {o : Option Addr} {A : Addr → Prop} {B P : Prop} (h : tabOr o A B) (f : ∀ b, o = some b → A b → P) (g : B → P) : P := by
  cases o with
  | some b => exact f _ rfl h
  | none => exact g h
noncomputable def ixK (ev : PS → PySem.Expr → (PV → PS → Prop) → Prop) (i : PySem.Expr) (l : List Nat) (b : Nat) (p : PS) (k : PV → PS → Prop) : Prop := match i with
  | .Slice lo up st _ => guard st.isNone (match lo with
    | some a => match up with
      | some c => ev p a fun i p => ev p c fun j p => onI i fun i => onI j fun j => (0 ≤ i ∧ i ≤ j) ∧ k (.str ((l.drop i.toNat).take (j - i).toNat) b) p
      | none => ev p a fun i p => onI i fun i => (i = 3 ∧ 3 ≤ l.length) ∧ k (.str (l.drop 3) b) p
    | none => match up with
      | some c => ev p c fun j p => onI j fun j => (j = -1 ∧ 1 ≤ l.length) ∧ k (.str (l.take (l.length - 1)) b) p
      | none => False)
  | e => ev p e fun j p => onI j fun j => (0 ≤ j ∧ j < l.length) ∧ k (.str [l.getD j.toNat 0] 1) p
/-- of a tuple or of a text -/
noncomputable def onQ (x : PV) (A : List Int → Prop) (B : List Nat → Nat → Prop) : Prop := match x with
  | .tup xs => A xs
  | .str l b => B l b
  | _ => False
noncomputable def isNm (e : PySem.Expr) : Bool := match e with
  | .Name _ _ => true
  | _ => false
noncomputable def isRd : PV → Bool
  | .rd => true
  | _ => false
noncomputable def onR (x : PV) (k : Addr → Prop) : Prop := match x with
  | .ref a => k a
  | _ => False
section
variable {w : World}
noncomputable def evE (R : Option Rd) (cs : PySem.Scope) (fs : List (FnSpec w)) (ms : List (MtSpec w)) (N : Nat) (lk : List (PySem.Str × PV)) : Nat → PS → PySem.Expr → (PV → PS → Prop) → Prop
  | 0, _, _, _ => False
  | n + 1, p, e, k => match e with
    | .Name x _ => onO (evN cs lk x) fun v => k v p
    | .Constant c _ _ => evC c fun v => k v p
    | .BinOp l op r _ => evE R cs fs ms N lk n p l fun x p => evE R cs fs ms N lk n p r fun y p => binK op x y fun z => k z p
    | .UnaryOp op x _ => evE R cs fs ms N lk n p x fun a p => unK op a fun z => k z p
    | .Compare l ops rs _ => guard (!lastMarks ops rs) (match ops with
      | [] => False
      | op :: ops => match rs with
        | [] => False
        | r :: rs => match ops with
          | [] => guard rs.isEmpty (evE R cs fs ms N lk n p l fun x p => evE R cs fs ms N lk n p r fun y p => cmpK op x y fun b => k (.bool b) p)
          | op' :: ops => match rs with
            | [] => False
            | r' :: rs => guard (ops.isEmpty && rs.isEmpty) (evE R cs fs ms N lk n p l fun x p => evE R cs fs ms N lk n p r fun y p => cmpK op x y fun b => (b = true → evE R cs fs ms N lk n p r' fun z p => cmpK op' y z fun b' => k (.bool b') p) ∧ (b = false → k (.bool b) p)))
    | .BoolOp op xs _ => evBs (evE R cs fs ms N lk n) op xs p k
    | .IfExp t x y _ => evE R cs fs ms N lk n p t fun c p => onB c fun b => (b = true → evE R cs fs ms N lk n p x k) ∧ (b = false → evE R cs fs ms N lk n p y k)
    | .Call f args kws pos => guard (kws.isEmpty && args.all notStar) (match f with
      | .Name g _ => onO (evN cs lk g) fun v => match args with
        | [] => False
        | _ :: _ => match v with
          | .ref b => onO (findFn b fs) fun s => guard (Nat.ble s.n N) (evA (evE R cs fs ms N lk n) args p fun xs p => s.sp xs fun z => k z p)
          | .bi id => evA (evE R cs fs ms N lk n) args p fun xs p => biT id xs fun z => k z p
          | _ => False
      | .Attribute o nm q => guard (Nat.beq q.endLine pos.line && Nat.ble args.length 20) (nameC o (fun s => match args with
        | [] => False
        | _ :: _ => guard (nm == PySem.Str.ofString "index") (evA (evE R cs fs ms N lk n) args p fun xs p => on1 xs fun y => onS y fun a _ => 0 ≤ Txt.find s (S a) ∧ k (.int (Txt.find s (S a))) p)) fun x => onO (evN cs lk x) fun v => match v with
        | .rd => onO R fun r => onO (findMt nm ms) fun s => guard (Nat.ble s.n N) (evA (evE R cs fs ms N lk n) args p fun xs p => s.sp r.l p xs k)
        | .str l b => match args with
          | [] => guard (nm == PySem.Str.ofString "lower" && Nat.ble b 5000) (k (.str (lowL l) (lowL l).length) p)
          | _ :: _ => guard (nm == PySem.Str.ofString "find") (evA (evE R cs fs ms N lk n) args p fun xs p => on1 xs fun y => onS y fun a _ => k (.int (Txt.find (S l) (S a))) p)
        | .ref b => match args with
          | [] => False
          | _ :: _ => guard (nm == PySem.Str.ofString "index" && (Nat.beq b 185 || Nat.beq b 184)) (evA (evE R cs fs ms N lk n) args p fun xs p => on1 xs fun y => onS y fun a _ => idxK b a fun i => k (.int i) p)
        | _ => False)
      | _ => False)
    | .Attribute o nm _ => nameX o fun x => onO (evN cs lk x) fun v => guard (isRd v) (onO R fun r => evAt r p nm fun z => k z p)
    | .Subscript v i _ => tabOr (tabOf cs lk v) (fun b => guard (notSlice i) (evE R cs fs ms N lk n p i fun c p => onI c fun j => tabK b j fun z => k z p))
        (evE R cs fs ms N lk n p v fun x p => onQ x (fun xs => guard (isNm v && (notSlice i && Nat.ble xs.length 1000)) (evE R cs fs ms N lk n p i fun c p => onI c fun j => (0 ≤ j ∧ j < xs.length) ∧ k (.int (xs.getD j.toNat 0)) p)) fun l b => guard (Nat.ble b 1000) (ixK (evE R cs fs ms N lk n) i l b p k))
    | .Tuple es _ _ => guard (es.all notStar) (evA (evE R cs fs ms N lk n) es p fun xs p => pints xs fun is => guard (Nat.ble is.length 1000) (k (.tup is) p))
    | _ => False
/-- what the global names hold -/
structure Glo (w : World) (gl : List (PySem.Str × PV)) : Prop where
  ok : ∀ x p, gl.lookup x = some p → ∃ v, (nsIn (Mine.hd.heap_1 w.params) mainGlobals x = some (some v) ∨ (nsIn (Mine.hd.heap_1 w.params) mainGlobals x = some none ∧ bootBuiltins x = some v ∧ x ≠ PySem.Str.ofString "__name__")) ∧ ∀ R rest, RV R rest p v
theorem star_of {e : PySem.Expr} {env : Env} (h : notStar e = true) (rest : List PySem.Expr) : starEach (e :: rest) env = (false, eval e env) :: starEach rest env := by
  cases e <;> first | rfl | cases h
theorem all_cons {α : Type} {f : α → Bool} {e : α} {es : List α} (h : (e :: es).all f = true) : f e = true ∧ es.all f = true := by
  rw [List.all_cons] at h; exact Bool.and_eq_true_iff.mp h
theorem args_plain {env : Env} {pos : Pos} : ∀ {es : List PySem.Expr}, es.all notStar = true → (backTo pos (starEach es env)).any (·.1) = false
  | [], _ => rfl
  | e :: es, h => by rw [star_of (all_cons h).1 es]; exact args_plain (all_cons h).2
theorem sub_ix {e : PySem.Expr} {o i : Value} (h : notSlice e = true) : subscripted e false o i = operate [o, i] (getItem o i) := by
  cases e <;> first | with_unfolding_all rfl | cases h
theorem nameXE {P : PySem.Expr → Prop} {e : PySem.Expr} {k : PySem.Str → Prop} (h : nameX e k) (f : ∀ x q, k x → P (.Name x q)) : P e := by
  unfold nameX at h
  split at h
  · exact f _ _ h
  · exact h.elim
theorem nameCE {P : PySem.Expr → Prop} {e : PySem.Expr} {kc k : PySem.Str → Prop} (h : nameC e kc k) (g : ∀ s kk q, kc s → P (.Constant (.str s) kk q)) (f : ∀ x q, k x → P (.Name x q)) : P e := by
  unfold nameC at h
  split at h
  · exact f _ _ h
  · split at h
    · exact g _ _ _ h
    · exact h.elim
  · exact h.elim
theorem tabOfE {cs : PySem.Scope} {lk : List (PySem.Str × PV)} {v : PySem.Expr} {b : Addr} (h : tabOf cs lk v = some b) : ∃ x q, v = .Name x q ∧ evN cs lk x = some (.ref b) := by
  unfold tabOf at h
  split at h
  · obtain ⟨a, h1, h2⟩ := Option.bind_eq_some_iff.mp h
    cases a <;> cases h2
    exact ⟨_, _, rfl, h1⟩
  · cases h
theorem let_go {v : PySem.Expr} {x : PySem.Str} {t : Tok} (r : Value) : letTemporaryGo v (.str x t) r = pure () := by cases v <;> rfl
theorem onQE {R : Option Rd} {rest : Led} {p : PV} {v : Value} {P : Value → Prop} {A : List Int → Prop} {B : List Nat → Nat → Prop} (h : onQ p A B) (r : RV R rest p v) (f : ∀ xs a vs, A xs → (a, tupO vs) ∈ rest → IntsAre vs xs → P (.ref a)) (g : ∀ l b t, B l b → l.length ≤ b → P (.str (S l) t)) : P v := by
  cases p <;> first | exact h.elim | (obtain ⟨a, vs, rfl, hm, hi⟩ := r; exact f _ _ _ h hm hi) | (obtain ⟨l, t, rfl⟩ := r; exact g _ _ _ h l)
theorem let_ref {v : PySem.Expr} (h : isNm v = true) (a : Addr) (r : Value) : letTemporaryGo v (.ref a) r = pure () := by cases v <;> first | rfl | cases h
theorem isRdE {v : PV} (h : isRd v = true) : v = .rd := by cases v <;> first | rfl | cases h
variable {cs : PySem.Scope} {C : Cx w cs} {R : Option Rd} {lk : List (PySem.Str × PV)} {m : PySem.Str → Option Value} {fs : List (FnSpec w)} {ms : List (MtSpec w)} {N : Nat}
theorem name_sound {x : PySem.Str} {pos : Pos} {pv : PV} {p : PS} {tA : Tok} {rest : Led} {h : Heap} {tk : Nat} {Q : Value → Shared → Prop} (G : Glo w glT) (s : Stt C R lk m p tA rest h) (hv : evN cs lk x = some pv) (k : ∀ v, RV R rest pv v → Q v (C.st h tk)) :
    C.wp (eval (.Name x pos) C.env) Q h tk := by
  unfold evN at hv
  cases hdb : x == PySem.Str.ofString "__debug__" with
  | true => rw [hdb] at hv; cases hv
  | false =>
    rw [hdb] at hv
    dsimp only [cond_false] at hv
    cases hx : cs.names.lookup x with
    | none => rw [hx] at hv; cases hv
    | some kd =>
      rw [hx] at hv
      cases kd <;> try cases hv
      · exact (s.H _ _ hv).elim fun v' e => nameX_L s.F e.1 (k _ e.2) C.hk hx hdb
      · exact (G.ok _ _ hv).elim fun v' e => e.1.elim (fun e1 => nameX_K s.F C.X (topRead_of C.T) e1 (k _ (e.2 _ _)) C.hk hx hdb) fun e1 => nameX_B s.F C.X (topRead_of C.T) e1.1 e1.2.1 e1.2.2 (k _ (e.2 _ _)) C.hk hx hdb
noncomputable abbrev EvOk (C : Cx w cs) (R : Option Rd) (lk : List (PySem.Str × PV)) (m : PySem.Str → Option Value) (fs : List (FnSpec w)) (ms : List (MtSpec w)) (N n : Nat) : Prop :=
  ∀ (p : PS) (e : PySem.Expr) (k : PV → PS → Prop), evE R cs fs ms N lk n p e k → ∀ (tA : Tok) (rest : Led) (h : Heap) (tk : Nat) (Q : Value → Shared → Prop), Stt C R lk m p tA rest h → Kt C R lk m rest k Q → C.wp (eval e C.env) Q h tk
noncomputable abbrev TrOk (C : Cx w cs) (R : Option Rd) (lk : List (PySem.Str × PV)) (m : PySem.Str → Option Value) (fs : List (FnSpec w)) (ms : List (MtSpec w)) (N n : Nat) : Prop :=
  ∀ (p : PS) (e : PySem.Expr) (k : Bool → PS → Prop), evE R cs fs ms N lk n p e (fun v p => onB v fun b => k b p) → ∀ (tA : Tok) (rest : Led) (h : Heap) (tk : Nat) (Q : Bool → Shared → Prop), Stt C R lk m p tA rest h →
    (∀ b p h' tk' tA' rest', k b p → Stt C R lk m p tA' rest' h' → (∀ q ∈ rest, q ∈ rest') → Q b (C.st h' tk')) → C.wp (isTrue e C.env (eval e C.env)) Q h tk
theorem Kt.up {rest rest' : Led} {k : PV → PS → Prop} {Q : Value → Shared → Prop} (f : Kt C R lk m rest k Q) (h : ∀ q ∈ rest, q ∈ rest') : Kt C R lk m rest' k Q := fun x p v h' tk' tA' rest'' hk s hr r => f x p v h' tk' tA' rest'' hk s (fun q hq => hr q (h q hq)) r
section
variable {n : Nat} (ih : EvOk C R lk m fs ms N n)
include ih
theorem args_sound {pos : Pos} : ∀ (es : List PySem.Expr) (p : PS) (k : List PV → PS → Prop), es.all notStar = true → evA (evE R cs fs ms N lk n) es p k → ∀ (tA : Tok) (rest : Led) (h : Heap) (tk : Nat) (Q : List Value → Shared → Prop), Stt C R lk m p tA rest h →
      (∀ xs p vs h' tk' tA' rest', k xs p → Stt C R lk m p tA' rest' h' → (∀ q ∈ rest, q ∈ rest') → RVs R rest' xs vs → Q vs (C.st h' tk')) → C.wp (spliced (backTo pos (starEach es C.env))) Q h tk
  | [], p, k, _, e, tA, rest, h, tk, Q, s, f => args_nil (f _ _ _ _ _ _ _ e s (fun _ h => h) rfl)
  | e :: es, p, k, hn, he, tA, rest, h, tk, Q, s, f =>
    args_cons (ih _ _ _ he _ _ _ _ _ s fun x p v h' tk' tA' rest' he s' hr rv => args_sound es _ _ (all_cons hn).2 he _ _ _ _ _ s' fun xs p vs h'' tk'' tA'' rest'' hk s'' hr' rvs => f _ _ _ _ _ _ _ hk s'' (fun q hq => hr' q (hr q hq)) ⟨v, vs, rfl, rv.mono hr', rvs⟩) (star_of (all_cons hn).1 es)
theorem bool_sound {op : PySem.BoolOp} {pos : Pos} : ∀ (xs : List PySem.Expr) (p : PS) (k : PV → PS → Prop), evBs (evE R cs fs ms N lk n) op xs p k → ∀ (tA : Tok) (rest : Led) (h : Heap) (tk : Nat) (Q : Value → Shared → Prop), Stt C R lk m p tA rest h → Kt C R lk m rest k Q → C.wp (eval (.BoolOp op xs pos) C.env) Q h tk
  | [], _, _, e, _, _, _, _, _, _, _ => e.elim
  | [x], p, k, e, tA, rest, h, tk, Q, s, f => BoolOp_one (ih _ _ _ e _ _ _ _ _ s f)
  | x :: y :: r, p, k, e, tA, rest, h, tk, Q, s, f => by
    cases op with
    | And => exact BoolOp_and (ih _ _ _ e _ _ _ _ _ s fun x p v h' tk' tA' rest' he s' hr rv => onBE (P := fun v => C.wp (truthy v) (fun c s₂ => if c then wpAny (model C.prog w) C.A (eval (.BoolOp .And (y :: r) pos) C.env) Q E0 s₂ else Q v s₂) h' tk') he rv fun b g => wpAny_truthy_bool (by
        cases b with
        | true => exact bool_sound (y :: r) _ _ (g.1 rfl) _ _ _ _ _ s' (f.up hr)
        | false => exact f _ _ _ _ _ _ _ (g.2 rfl) s' hr rfl))
    | Or => exact BoolOp_or (ih _ _ _ e _ _ _ _ _ s fun x p v h' tk' tA' rest' he s' hr rv => onBE (P := fun v => C.wp (truthy v) (fun c s₂ => if c then Q v s₂ else wpAny (model C.prog w) C.A (eval (.BoolOp .Or (y :: r) pos) C.env) Q E0 s₂) h' tk') he rv fun b g => wpAny_truthy_bool (by
        cases b with
        | false => exact bool_sound (y :: r) _ _ (g.2 rfl) _ _ _ _ _ s' (f.up hr)
        | true => exact f _ _ _ _ _ _ _ (g.1 rfl) s' hr rfl))
end
theorem trs_sound {n : Nat} (it : TrOk C R lk m fs ms N n) {op : PySem.BoolOp} {pos : Pos} {whole : Sem Value} : ∀ (xs : List PySem.Expr) (p : PS) (k : Bool → PS → Prop), evBs (evE R cs fs ms N lk n) op xs p (fun v p => onB v fun b => k b p) → ∀ (tA : Tok) (rest : Led) (h : Heap) (tk : Nat) (Q : Bool → Shared → Prop), Stt C R lk m p tA rest h →
    (∀ b p h' tk' tA' rest', k b p → Stt C R lk m p tA' rest' h' → (∀ q ∈ rest, q ∈ rest') → Q b (C.st h' tk')) → C.wp (isTrue (.BoolOp op xs pos) C.env whole) Q h tk
  | [], _, _, e, _, _, _, _, _, _, _ => e.elim
  | [x], p, k, e, tA, rest, h, tk, Q, s, f => by
    cases op with
    | And => exact isTrue_and (it _ _ _ e _ _ _ _ _ s fun b p h' tk' tA' rest' hk s' hr => by
        have z := f _ _ _ tk' _ _ hk s' hr
        cases b
        · exact z
        · exact isTrue_and_nil z)
    | Or => exact isTrue_or (it _ _ _ e _ _ _ _ _ s fun b p h' tk' tA' rest' hk s' hr => by
        have z := f _ _ _ tk' _ _ hk s' hr
        cases b
        · exact isTrue_or_nil z
        · exact z)
  | x :: y :: r, p, k, e, tA, rest, h, tk, Q, s, f => by
    cases op with
    | And => exact isTrue_and (it _ _ _ e _ _ _ _ _ s fun b p h' tk' tA' rest' g s' hr => by
        cases b with
        | true => exact trs_sound it (y :: r) _ _ (g.1 rfl) _ _ _ _ _ s' fun b p h3 tk3 tA3 rest3 hk s3 hr3 => f _ _ _ _ _ _ hk s3 fun q hq => hr3 q (hr q hq)
        | false => exact f _ _ _ _ _ _ (g.2 rfl) s' hr)
    | Or => exact isTrue_or (it _ _ _ e _ _ _ _ _ s fun b p h' tk' tA' rest' g s' hr => by
        cases b with
        | false => exact trs_sound it (y :: r) _ _ (g.2 rfl) _ _ _ _ _ s' fun b p h3 tk3 tA3 rest3 hk s3 hr3 => f _ _ _ _ _ _ hk s3 fun q hq => hr3 q (hr q hq)
        | true => exact f _ _ _ _ _ _ (g.1 rfl) s' hr)
theorem bi2_sound {id : String} {x : PV} {v : Value} {p : PS} {tA : Tok} {rest : Led} {h : Heap} {tk : Nat} {k : PV → Prop} {Q : Value → Shared → Prop} (s : Stt C R lk m p tA rest h) (e : bi2 id x k) (rv : RV R rest x v) (f : ∀ x v h' tk', k x → Stt C R lk m p tA rest h' → RV R rest x v → Q v (C.st h' tk')) : C.wp (call (.builtin id) [v]) Q h tk := by
  unfold bi2 at e
  cases h1 : id == "ord" with
  | true =>
    rw [h1] at e
    rw [eq_of_beq h1]
    refine onSE (P := fun v => C.wp (call (.builtin "ord") [v]) Q h tk) e rv fun l b t hk hl => ?_
    match l, hk with
    | [c], hk => exact P.ord_of_char (f _ _ _ _ hk s ⟨_, rfl⟩)
  | false =>
    rw [h1] at e
    have g := guardE e
    rw [eq_of_beq g.1]
    exact onIE (P := fun v => C.wp (call (.builtin "chr") [v]) Q h tk) g.2 rv fun i t hk => chr_of_range hk.1.1 hk.1.2 (f _ _ _ _ hk.2 s ⟨Nat.le_refl _, _, rfl⟩)
theorem on1E {P : Prop} {xs : List PV} {vs : List Value} {k : PV → Prop} (h : on1 xs k) (r : RVs R rest xs vs) (f : ∀ x v, k x → RV R rest x v → vs = [v] → P) : P := by
  unfold on1 at h
  split at h
  · obtain ⟨v, r, rfl, rv, rfl⟩ := r; exact f _ _ h rv rfl
  · exact h.elim
theorem str_sound {xs : List PV} {vs : List Value} {p : PS} {tA : Tok} {rest : Led} {h : Heap} {tk : Nat} {k : PV → Prop} {Q : Value → Shared → Prop} (s : Stt C R lk m p tA rest h) (e : on1 xs fun x => onI x fun i => i.natAbs < 10 ^ 6 ∧ k (.str (PySem.Str.ofString (toString i)).cps.toList (PySem.Str.ofString (toString i)).length)) (rs : RVs R rest xs vs) (f : ∀ x v h' tk', k x → Stt C R lk m p tA rest h' → RV R rest x v → Q v (C.st h' tk')) : C.wp (call (.type "str") vs) Q h tk :=
  on1E e rs fun x v hk rv ev => ev ▸ onIE (P := fun v => C.wp (call (.type "str") [v]) Q h tk) hk rv fun i t hk => str_of_int_fit (N := 10 ^ 6) (by have := hk.1; split <;> omega) (by decide) fun _ => f _ _ _ _ hk.2 s ⟨by rw [Array.length_toList]; exact Nat.le_refl _, _, by rw [S_of]⟩
theorem bi_sound {id : String} {xs : List PV} {vs : List Value} {p : PS} {tA : Tok} {rest : Led} {h : Heap} {tk : Nat} {k : PV → Prop} {Q : Value → Shared → Prop} (s : Stt C R lk m p tA rest h) (e : biSp id xs k) (rs : RVs R rest xs vs) (f : ∀ x v h' tk', k x → Stt C R lk m p tA rest h' → RV R rest x v → Q v (C.st h' tk')) : C.wp (call (.builtin id) vs) Q h tk := by
  cases xs with
  | nil => exact e.elim
  | cons x xs =>
    obtain ⟨v, r, rfl, rv, rs⟩ := rs
    cases xs with
    | nil =>
      cases rs
      cases h1 : id == "abs" with
      | true =>
        have e : (bif id == "abs" then onI x fun a => k (.int (if a < 0 then -a else a)) else bif id == "len" then onS x fun a b => guard (Nat.ble b 16777216) (k (.int (a.length : Int))) else bi2 id x k) := e
        rw [h1] at e
        rw [eq_of_beq h1]
        exact onIE (P := fun v => C.wp (call (.builtin "abs") [v]) Q h tk) e rv fun i t hk => call_abs_int fun u tk => f _ _ _ _ hk s ⟨_, rfl⟩
      | false =>
        have e : (bif id == "abs" then onI x fun a => k (.int (if a < 0 then -a else a)) else bif id == "len" then onS x fun a b => guard (Nat.ble b 16777216) (k (.int (a.length : Int))) else bi2 id x k) := e
        rw [h1] at e
        cases h2 : id == "len" with
        | false => rw [h2] at e; exact bi2_sound s e rv f
        | true =>
        rw [h2] at e
        rw [eq_of_beq h2]
        exact onSE (P := fun v => C.wp (call (.builtin "len") [v]) Q h tk) e rv fun l b t hk hl => by
          have g' := guardE hk
          have := Nat.le_of_ble_eq_true g'.1
          exact P.len_str (by rw [S_len]; omega) (f _ _ _ _ g'.2 s ⟨_, by rw [S_len]⟩)
    | cons y xs =>
      obtain ⟨u, r, rfl, ru, rs⟩ := rs
      have g := guardE e
      obtain ⟨g1, g2⟩ := Bool.and_eq_true_iff.mp g.1
      obtain rfl := List.isEmpty_iff.mp g2
      cases rs
      rw [eq_of_beq g1]
      exact onIE (P := fun v => C.wp (call (.builtin "max") [v, u]) Q h tk) g.2 rv fun a t hk => onIE (P := fun u => C.wp (call (.builtin "max") [.int a t, u]) Q h tk) hk ru fun b t' hk => max_two_N rfl s.F s.N fun h' tk' F' N' => f _ _ _ _ hk ⟨F', N', s.G, s.H⟩ ⟨_, rfl⟩
theorem at_sound {nm : PySem.Str} {r : Rd} {p : PS} {tA : Tok} {rest : Led} {h : Heap} {tk : Nat} {k : PV → Prop} {Q : Value → Shared → Prop} (s : Stt C (some r) lk m p tA rest h) (e : evAt r p nm k) (f : ∀ x v tk', k x → RV (some r) rest x v → Q v (C.st h tk')) : C.wp (getAttr (.ref r.x) nm true) Q h tk := by
  have I : InstAt h r.x (instObj 328 r.dx) 328 (some (dictOf (rdEs r p tA) 3)) := InstAt.of_news s.N (.head _) (.tail _ (.head _))
  unfold evAt at e
  cases h1 : nm == PySem.Str.ofString "text" with
  | true =>
    rw [h1] at e
    rw [eq_of_beq h1]
    exact get_own s.F C.X I (by k_is) (by k_is) (by k_is) (by k_is) rfl rfl (f _ _ _ e ⟨s.G.2.2, _, rfl⟩)
  | false =>
    rw [h1] at e
    cases h2 : nm == PySem.Str.ofString "at" with
    | true =>
      rw [h2] at e
      rw [eq_of_beq h2]
      exact get_own s.F C.X I (by k_is) (by k_is) (by k_is) (by k_is) rfl rfl (f _ _ _ e ⟨_, rfl⟩)
    | false =>
      rw [h2] at e
      have g := guardE e
      rw [eq_of_beq g.1]
      exact get_own s.F C.X I (by k_is) (by k_is) (by k_is) (by k_is) rfl rfl (f _ _ _ g.2 rfl)
theorem pints_rv {rest : Led} {P : Prop} : ∀ {xs : List PV} {vs : List Value} {k : List Int → Prop}, RVs R rest xs vs → pints xs k → (∀ is, k is → IntsAre vs is → P) → P
  | [], _, _, rs, e, f => by cases rs; exact f _ e .nil
  | x :: xs, _, k, ⟨v, r, rfl, rv, rs⟩, e, f => onIE (P := fun v => (∀ is, k is → IntsAre (v :: r) is → P) → P) e rv (fun i t e f => pints_rv rs e fun is hk hi => f _ hk (.cons _ _ hi)) f
theorem tab_sound {b : Addr} {j : Int} {k : PV → Prop} {x : PySem.Expr} {q : Pos} {y : PySem.Str} {p : PS} {tA : Tok} {rest : Led} {h : Heap} {tk : Nat} {t : Tok} {Q : Value → Shared → Prop} (s : Stt C R lk m p tA rest h) (e : tabK b j k) (hs : subscripted x false (.ref b) (.int j t) = operate [.ref b, .int j t] (getItem (.ref b) (.int j t)))
    (f : ∀ x v, k x → RV R rest x v → Q v (C.st h tk)) : C.wp (subscriptTail (.Name y q) x (.ref b) (.int j t)) Q h tk := by
  unfold tabK at e
  cases h1 : Nat.beq b 15 with
  | true =>
    obtain rfl := Nat.eq_of_beq_eq_true h1
    exact itemL_ints (ns := aheadT) (listK s.F C.X (by k_is)) (by unfold aheadT; repeat constructor) e.1.1 e.1.2 (Int.lt_trans e.1.2 (by decide)) (fun t => f _ _ e.2 ⟨_, rfl⟩) hs
  | false =>
    rw [h1] at e
    cases h2 : Nat.beq b 185 with
    | true =>
      obtain rfl := Nat.eq_of_beq_eq_true h2
      exact itemL_wk (listK s.F C.X (by k_is)) wk_txts e.1.1 e.1.2 (Int.lt_trans e.1.2 (by decide)) (fun t l => f _ _ e.2 ⟨by rw [S_len] at l; exact l, _, rfl⟩) hs
    | false =>
      rw [h2] at e
      have g := guardE e
      obtain rfl := Nat.eq_of_beq_eq_true g.1
      exact itemL_mon (listK s.F C.X (by k_is)) mon_txts g.2.1.1 g.2.1.2 (Int.lt_trans g.2.1.2 (by decide)) (fun t l => f _ _ g.2.2 ⟨by rw [S_len] at l; exact l, _, rfl⟩) hs
theorem call_sound {n : Nat} {s : FnSpec w} {b : Addr} {p : PS} {e : PySem.Expr} {es : List PySem.Expr} {pos : Pos} {tA : Tok} {rest : Led} {h : Heap} {tk : Nat} {k : PV → PS → Prop} {Q : Value → Shared → Prop}
    (hd : C.dp + N < recursionLimit) (hu : C.un + 8 * N < cLine) (ih : EvOk C R lk m fs ms N n) (hs : findFn b fs = some s) (hn : Nat.ble s.n N = true) (hp : (e :: es).all notStar = true) (ha : evA (evE R cs fs ms N lk n) (e :: es) p fun xs p => s.sp xs fun z => k z p) (S : Stt C R lk m p tA rest h)
    (f : Kt C R lk m rest k Q) : C.wp (callWith pos (.ref b) [] (backTo pos (starEach (e :: es) C.env)) []) Q h tk := by
  obtain rfl := findFn_f hs
  refine callWith_K C.X s.keep (args_sound ih _ _ _ hp ha _ _ _ _ _ S fun xs p vs h' tk' tA' rest' hz S' hr rvs => ⟨C.X.keeps S'.F.keep, ?_⟩) (star_of (all_cons hp).1 _) (args_plain (all_cons hp).2)
  have hn := Nat.le_of_ble_eq_true hn
  exact (s.sound rvs hz (rdLed R p tA' rest') fun _ hq => rdLed_rest hq).elim fun n1 c => c.2.use C.B S'.F C.X (fun q hq => S'.N q (c.1 q hq)) C.T trivial C.hk (by omega) (by omega) fun r news' h3 tk3 F3 N3 ok =>
    ok.2.elim fun pv ok' => (S'.step F3 N3 ok.1 ok'.2).elim fun rest'' S'' => f _ _ _ _ _ _ _ ok'.1 S''.1 (fun q hq => S''.2.1 q (hr q hq)) S''.2.2
theorem meth_eq {x nm : PySem.Str} {q1 q2 pos : Pos} {es : List PySem.Expr} {env : Env} (h1 : (backTo pos (starEach es env)).any (·.1) = false) (h2 : (Nat.beq q2.endLine pos.line && Nat.ble es.length 20) = true) :
    eval (.Call (.Attribute (.Name x q1) nm q2) es [] pos) env = (do
      let ov ← eval (.Name x q1) env
      standAt q2.atName
      let (f, first) ← holding [ov] (getMethod ov nm (do return (← importBound (.Name x q1) env).getD true))
      callWith pos f first (backTo pos (starEach es env)) []) := by
  obtain ⟨h3, h4⟩ := Bool.and_eq_true_iff.mp h2
  have h4 := Nat.le_of_ble_eq_true h4
  have few : methodCallForm (es.length + 0) (backTo pos (starEach es env)) [] = true := by
    unfold methodCallForm
    rw [show ((backTo pos (starEach es env)).all fun a => !a.1) = true by rw [List.all_eq_not_any_not]; simp only [Bool.not_not]; rw [h1]; rfl]
    show (true && true && decide (es.length + 0 + 0 < 30)) = true
    rw [decide_eq_true (by omega)]; rfl
  have ln : (q2.endLine == pos.line) = true := by rw [Nat.eq_of_beq_eq_true h3]; exact beq_self_eq_true _
  show (do
    let ov ← eval (.Name x q1) env
    standAt q2.atName
    let (f, first) ← holding [ov] (if methodCallForm (es.length + 0) (backTo pos (starEach es env)) [] then getMethod ov nm (do return (← importBound (.Name x q1) env).getD true) else do pure (← getAttr ov nm true, []))
    let callPos ← (if !methodCallForm (es.length + 0) (backTo pos (starEach es env)) [] || q2.endLine == pos.line then pure pos else _ : Sem Pos)
    callWith callPos f first (backTo pos (starEach es env)) []) = _
  rw [few, ln]
  rfl
theorem meth_eqC {nm : PySem.Str} {cc : PySem.Const} {kk : Nat} {q1 q2 pos : Pos} {es : List PySem.Expr} {env : Env} (h1 : (backTo pos (starEach es env)).any (·.1) = false) (h2 : (Nat.beq q2.endLine pos.line && Nat.ble es.length 20) = true) :
    eval (.Call (.Attribute (.Constant cc kk q1) nm q2) es [] pos) env = (do
      let ov ← eval (.Constant cc kk q1) env
      standAt q2.atName
      let (f, first) ← holding [ov] (getMethod ov nm (do return (← importBound (.Constant cc kk q1) env).getD true))
      callWith pos f first (backTo pos (starEach es env)) []) := by
  obtain ⟨h3, h4⟩ := Bool.and_eq_true_iff.mp h2
  have h4 := Nat.le_of_ble_eq_true h4
  have few : methodCallForm (es.length + 0) (backTo pos (starEach es env)) [] = true := by
    unfold methodCallForm
    rw [show ((backTo pos (starEach es env)).all fun a => !a.1) = true by rw [List.all_eq_not_any_not]; simp only [Bool.not_not]; rw [h1]; rfl]
    show (true && true && decide (es.length + 0 + 0 < 30)) = true
    rw [decide_eq_true (by omega)]; rfl
  have ln : (q2.endLine == pos.line) = true := by rw [Nat.eq_of_beq_eq_true h3]; exact beq_self_eq_true _
  show (do
    let ov ← eval (.Constant cc kk q1) env
    standAt q2.atName
    let (f, first) ← holding [ov] (if methodCallForm (es.length + 0) (backTo pos (starEach es env)) [] then getMethod ov nm (do return (← importBound (.Constant cc kk q1) env).getD true) else do pure (← getAttr ov nm true, []))
    let callPos ← (if !methodCallForm (es.length + 0) (backTo pos (starEach es env)) [] || q2.endLine == pos.line then pure pos else _ : Sem Pos)
    callWith callPos f first (backTo pos (starEach es env)) []) = _
  rw [few, ln]
  rfl
theorem meth_sound {n : Nat} {s : MtSpec w} {nm : PySem.Str} {p : PS} {r : Rd} {x : PySem.Str} {es : List PySem.Expr} {q1 q2 pos : Pos} {tA : Tok} {rest : Led} {h : Heap} {tk : Nat} {k : PV → PS → Prop} {Q : Value → Shared → Prop}
    (G : Glo w glT) (hd : C.dp + N < recursionLimit) (hu : C.un + 8 * N < cLine) (ih : EvOk C (some r) lk m fs ms N n) (hx : evN cs lk x = some .rd) (hs : findMt nm ms = some s) (hn : Nat.ble s.n N = true) (hf : (Nat.beq q2.endLine pos.line && Nat.ble es.length 20) = true) (hp : es.all notStar = true) (ha : evA (evE (some r) cs fs ms N lk n) es p fun xs p => s.sp r.l p xs k) (S : Stt C (some r) lk m p tA rest h)
    (f : Kt C (some r) lk m rest k Q) : C.wp (eval (.Call (.Attribute (.Name x q1) nm q2) es [] pos) C.env) Q h tk := by
  obtain rfl := findMt_f hs
  refine MethodCall_ (name_sound G S hx fun v rv => ?_) (meth_eq (args_plain hp) hf)
  obtain ⟨r', e, rfl⟩ := rv
  cases e
  have I : InstAt h r.x (instObj 328 r.dx) 328 (some (dictOf (rdEs r p tA) 3)) := InstAt.of_news S.N (.head _) (.tail _ (.head _))
  refine method_inst S.F C.X I s.plain s.find s.fn (s.own r p tA) ?_
  have hn := Nat.le_of_ble_eq_true hn
  have fin : ∀ xs p vs h' tk' tA' rest', s.sp r.l p xs k → Stt C (some r) lk m p tA' rest' h' → (∀ q ∈ rest, q ∈ rest') → RVs (some r) rest' xs vs → C.wp (call (.ref s.f) (.ref r.x :: vs)) Q h' tk' := fun xs p vs h' tk' tA' rest' hz S' hr rvs =>
    (s.sound rvs hz tA').use C.B S'.F C.X S'.N C.T S'.G C.hk (by omega) (by omega) fun v news' h3 tk3 F3 N3 ok => by
      obtain ⟨pv, p', tA'', rest'', hk, rfl, hr', g, rv⟩ := ok
      exact f _ _ _ _ _ _ _ hk (S'.state F3 N3 hr' g) (fun q hq => hr' q (hr q hq)) rv
  cases es with
  | nil => exact callWith_K0 (C.X.keeps S.F.keep) s.keep (fin _ _ _ _ _ _ _ ha S (fun _ h => h) rfl)
  | cons e es => exact callWith_K C.X s.keep (args_sound ih _ _ _ hp ha _ _ _ _ _ S fun xs p vs h' tk' tA' rest' hz S' hr rvs => ⟨C.X.keeps S'.F.keep, fin _ _ _ _ _ _ _ hz S' hr rvs⟩) (star_of (all_cons hp).1 _) (args_plain (all_cons hp).2)
theorem find_sound {n : Nat} {nm : PySem.Str} {p : PS} {x : PySem.Str} {l : List Nat} {c : Nat} {e : PySem.Expr} {es : List PySem.Expr} {q1 q2 pos : Pos} {tA : Tok} {rest : Led} {h : Heap} {tk : Nat} {k : PV → PS → Prop} {Q : Value → Shared → Prop}
    (G : Glo w glT) (ih : EvOk C R lk m fs ms N n) (hx : evN cs lk x = some (.str l c)) (hf : (Nat.beq q2.endLine pos.line && Nat.ble (e :: es).length 20) = true) (hp : (e :: es).all notStar = true) (hm : (nm == PySem.Str.ofString "find") = true) (ha : evA (evE R cs fs ms N lk n) (e :: es) p fun xs p => on1 xs fun y => onS y fun a _ => k (.int (Txt.find (S l) (S a))) p) (S : Stt C R lk m p tA rest h)
    (f : Kt C R lk m rest k Q) : C.wp (eval (.Call (.Attribute (.Name x q1) nm q2) (e :: es) [] pos) C.env) Q h tk := by
  obtain rfl := eq_of_beq hm
  refine MethodCall_ (name_sound G S hx fun v rv => ?_) (meth_eq (args_plain hp) hf)
  obtain ⟨_, t, rfl⟩ := rv
  refine GM.find (callWith_method1 (args_sound ih _ _ _ hp ha _ _ _ _ _ S fun xs p vs h' tk' tA' rest' hk S' hr rvs => ?_) (star_of (all_cons hp).1 _) (args_plain (all_cons hp).2))
  unfold on1 at hk
  split at hk
  · obtain ⟨v, r, rfl, rv, rfl⟩ := rvs
    exact onSE (P := fun v => C.wp (call (.builtin "str.find") [.str (Mine.S l) t, v]) Q h' tk') hk rv fun a b t' hk _ => SC.find (f _ _ _ _ _ _ _ hk S' hr ⟨_, rfl⟩)
  · exact hk.elim
theorem const_sound {n : Nat} {nm s0 : PySem.Str} {p : PS} {kk : Nat} {e : PySem.Expr} {es : List PySem.Expr} {q1 q2 pos : Pos} {tA : Tok} {rest : Led} {h : Heap} {tk : Nat} {k : PV → PS → Prop} {Q : Value → Shared → Prop}
    (ih : EvOk C R lk m fs ms N n) (hf : (Nat.beq q2.endLine pos.line && Nat.ble (e :: es).length 20) = true) (hp : (e :: es).all notStar = true) (hm : (nm == PySem.Str.ofString "index") = true) (ha : evA (evE R cs fs ms N lk n) (e :: es) p fun xs p => on1 xs fun y => onS y fun a _ => 0 ≤ Txt.find s0 (S a) ∧ k (.int (Txt.find s0 (S a))) p) (S : Stt C R lk m p tA rest h)
    (f : Kt C R lk m rest k Q) : C.wp (eval (.Call (.Attribute (.Constant (.str s0) kk q1) nm q2) (e :: es) [] pos) C.env) Q h tk := by
  obtain rfl := eq_of_beq hm
  refine MethodCall_ (PySem.wpAny_Constant_str ?_) (meth_eqC (args_plain hp) hf)
  refine GM.index (callWith_method1 (args_sound ih _ _ _ hp ha _ _ _ _ _ S fun xs p vs h' tk' tA' rest' hk S' hr rvs => ?_) (star_of (all_cons hp).1 _) (args_plain (all_cons hp).2))
  unfold on1 at hk
  split at hk
  · obtain ⟨v, r, rfl, rv, rfl⟩ := rvs
    exact onSE (P := fun v => C.wp (call (.builtin "str.index") [.str s0 _, v]) Q h' tk') hk rv fun a b t' hk _ => by
      cases ho : Builtin.Str.occurrences s0 (Mine.S a) 0 s0.length 1 with
      | nil =>
        have z : Txt.find s0 (Mine.S a) = -1 := by unfold Txt.find; rw [ho]
        rw [z] at hk; exact absurd hk.1 (by decide)
      | cons i r =>
        have z : Txt.find s0 (Mine.S a) = (i : Int) := by unfold Txt.find; rw [ho]
        exact SC.index ho (by rw [← z]; exact f _ _ _ _ _ _ _ hk.2 S' hr ⟨_, rfl⟩)
  · exact hk.elim
theorem lower_sound {nm : PySem.Str} {p : PS} {x : PySem.Str} {l : List Nat} {c : Nat} {q1 q2 pos : Pos} {tA : Tok} {rest : Led} {h : Heap} {tk : Nat} {k : PV → PS → Prop} {Q : Value → Shared → Prop}
    (G : Glo w glT) (hx : evN cs lk x = some (.str l c)) (hf : (Nat.beq q2.endLine pos.line && Nat.ble ([] : List PySem.Expr).length 20) = true) (hm : (nm == PySem.Str.ofString "lower" && Nat.ble c 5000) = true) (hk : k (.str (lowL l) (lowL l).length) p) (S : Stt C R lk m p tA rest h)
    (f : Kt C R lk m rest k Q) : C.wp (eval (.Call (.Attribute (.Name x q1) nm q2) [] [] pos) C.env) Q h tk := by
  obtain ⟨hm, hc⟩ := Bool.and_eq_true_iff.mp hm
  obtain rfl := eq_of_beq hm
  refine MethodCall_ (name_sound G S hx fun v rv => ?_) (meth_eq rfl hf)
  obtain ⟨hl, t, rfl⟩ := rv
  have hc := Nat.le_of_ble_eq_true hc
  refine GM.lower (callWith_method0 (SCL.lower (by rw [S_len]; omega) fun _ => f _ _ _ _ _ _ _ hk S (fun _ h => h) ⟨Nat.le_refl _, _, by unfold lowL; rw [S_of]⟩))
theorem index_sound {n : Nat} {nm : PySem.Str} {p : PS} {x : PySem.Str} {b : Addr} {e : PySem.Expr} {es : List PySem.Expr} {q1 q2 pos : Pos} {tA : Tok} {rest : Led} {h : Heap} {tk : Nat} {k : PV → PS → Prop} {Q : Value → Shared → Prop}
    (G : Glo w glT) (ih : EvOk C R lk m fs ms N n) (hx : evN cs lk x = some (.ref b)) (hf : (Nat.beq q2.endLine pos.line && Nat.ble (e :: es).length 20) = true) (hp : (e :: es).all notStar = true) (hm : (nm == PySem.Str.ofString "index" && (Nat.beq b 185 || Nat.beq b 184)) = true) (ha : evA (evE R cs fs ms N lk n) (e :: es) p fun xs p => on1 xs fun y => onS y fun a _ => idxK b a fun i => k (.int i) p) (S : Stt C R lk m p tA rest h)
    (f : Kt C R lk m rest k Q) : C.wp (eval (.Call (.Attribute (.Name x q1) nm q2) (e :: es) [] pos) C.env) Q h tk := by
  obtain ⟨hm, hb⟩ := Bool.and_eq_true_iff.mp hm
  obtain rfl := eq_of_beq hm
  refine MethodCall_ (name_sound G S hx fun v rv => ?_) (meth_eq (args_plain hp) hf)
  obtain rfl := rv
  have tail : ∀ (hb : b = 185 ∨ b = 184), C.wp (getMethod (.ref b) (PySem.Str.ofString "index") (do return (← importBound (.Name x q1) C.env).getD true)) (fun fx s₂ => wpAny (model C.prog w) C.A (callWith pos fx.1 fx.2 (backTo pos (starEach (e :: es) C.env)) []) Q E0 s₂) h tk := fun hb => by
    have fin : wpAny (model C.prog w) C.A (callWith pos (.builtin "list.index") [.ref b] (backTo pos (starEach (e :: es) C.env)) []) Q E0 (C.st h tk) := by
      refine callWith_method1 (args_sound ih _ _ _ hp ha _ _ _ _ _ S fun xs p vs h' tk' tA' rest' hk S' hr rvs => ?_) (star_of (all_cons hp).1 _) (args_plain (all_cons hp).2)
      unfold on1 at hk
      split at hk
      · obtain ⟨v, r, rfl, rv, rfl⟩ := rvs
        refine onSE (P := fun v => C.wp (call (.builtin "list.index") [.ref b, v]) Q h' tk') hk rv fun a c t' hk _ => ?_
        unfold idxK at hk
        cases h1 : Nat.beq b 185 with
        | true =>
          obtain rfl := Nat.eq_of_beq_eq_true h1
          exact index_T (listK S'.F C.X (by k_is)) wk_strs (by decide) hk.1 (f _ _ _ _ _ _ _ hk.2 S' hr ⟨_, rfl⟩)
        | false =>
          rw [h1] at hk
          have g := guardE hk
          obtain rfl := Nat.eq_of_beq_eq_true g.1
          exact index_T (listK S'.F C.X (by k_is)) mon_strs (by decide) g.2.1 (f _ _ _ _ _ _ _ g.2.2 S' hr ⟨_, rfl⟩)
      · exact hk.elim
    rcases hb with rfl | rfl
    · exact getMethod_list_of PySem.F.slot_list_index PySem.F.type_list_index (listK S.F C.X (by k_is)) (listK_nodict S.F C.X (by k_is)) fin
    · exact getMethod_list_of PySem.F.slot_list_index PySem.F.type_list_index (listK S.F C.X (by k_is)) (listK_nodict S.F C.X (by k_is)) fin
  exact tail ((Bool.or_eq_true_iff.mp hb).imp Nat.eq_of_beq_eq_true Nat.eq_of_beq_eq_true)
theorem mark1 {op : CmpOp} {r : PySem.Expr} (h : (!lastMarks [op] [r]) = true) : behindInMarks op r = false := by
  have h : (!behindInMarks op r) = true := h
  cases e : behindInMarks op r with
  | false => rfl
  | true => rw [e] at h; cases h
theorem mark2 {ops : List CmpOp} {rs : List PySem.Expr} (h : (!lastMarks ops rs) = true) : lastMarks ops rs = false := by
  cases e : lastMarks ops rs with
  | false => rfl
  | true => rw [e] at h; cases h
theorem plainT {n : Nat} (A : EvOk C R lk m fs ms N (n + 1)) {p : PS} {e : PySem.Expr} {k : Bool → PS → Prop} {tA : Tok} {rest : Led} {h : Heap} {tk : Nat} {Q : Bool → Shared → Prop} (he : evE R cs fs ms N lk (n + 1) p e (fun v p => onB v fun b => k b p)) (s : Stt C R lk m p tA rest h)
    (f : ∀ b p h' tk' tA' rest', k b p → Stt C R lk m p tA' rest' h' → (∀ q ∈ rest, q ∈ rest') → Q b (C.st h' tk')) (q : isTrue e C.env (eval e C.env) = (do let v ← eval e C.env; standAt e.pos; holding [v] (truthy v))) : C.wp (isTrue e C.env (eval e C.env)) Q h tk :=
  isTrue_plain (A _ _ _ he _ _ _ _ _ s fun x p v h' tk' tA' rest' hk s' hr rv => onBE (P := fun v => C.wp (truthy v) Q h' tk') hk rv fun b hk => wpAny_truthy_bool (f _ _ _ _ _ _ hk s' hr)) q
theorem subS_sound {n : Nat} (ih : EvOk C R lk m fs ms N n) {v i : PySem.Expr} {l : List Nat} {b : Nat} {t : Tok} {p : PS} {tA : Tok} {rest : Led} {h : Heap} {tk : Nat} {k : PV → PS → Prop} {Q : Value → Shared → Prop} (s : Stt C R lk m p tA rest h) (hlb : l.length ≤ b) (hl : l.length ≤ 1000)
    (he : ixK (evE R cs fs ms N lk n) i l b p k)
    (f : Kt C R lk m rest k Q) : C.wp (eval i C.env) (fun j s₂ => wpAny (model C.prog w) C.A (subscriptTail v i (.str (S l) t) j) Q E0 s₂) h tk := by
  cases hn : notSlice i with
  | true =>
    have he : evE R cs fs ms N lk n p i fun j p => onI j fun j => (0 ≤ j ∧ j < l.length) ∧ k (.str [l.getD j.toNat 0] 1) p := by cases i <;> first | exact he | cases hn
    exact ih _ _ _ he _ _ _ _ _ s fun x p u h' tk' tA' rest' hx s' hr rv => onIE (P := fun u => C.wp (subscriptTail v i (.str (S l) t) u) Q h' tk') hx rv fun j t' hk =>
      item_str_S hl hk.1.1 hk.1.2 (fun _ => f _ _ _ _ _ _ _ hk.2 s' hr ⟨Nat.le_refl _, _, rfl⟩) (sub_ix hn) let_go
  | false =>
    cases i <;> first | (cases hn; done) | skip
    rename_i lo up st q
    obtain rfl := Option.isNone_iff_eq_none.mp (guardE he).1
    replace he := (guardE he).2
    cases lo with
    | none =>
      cases up with
      | none => exact he.elim
      | some c =>
        refine wpAny_Slice (evalPart_none_step (evalPart_some_step (ih _ _ _ he _ _ _ _ _ s fun x p u h' tk' tA' rest' hk s' hr rv => evalPart_none_step ?_)))
        exact onIE (P := fun u => wpAny (model C.prog w) C.A (subscriptTail v (.Slice none (some c) none q) (.str (S l) t) (.ref h'.objs.size)) Q E0 { C.st h' tk' with heap := h'.push { cls := .type "slice", data := .fields #[.none, u, .none] } }) hk rv fun j t1 hk => by
          obtain ⟨⟨rfl, h1⟩, hk⟩ := hk
          exact slice_strN_ns (value := v) (slice := .Slice none (some c) none q) (s := C.st h' tk') (t := t) s'.F s'.N (fun h4 t4 k4 F4 N4 => by rw [slice_last h1]; exact f _ _ _ _ _ _ _ hk ⟨F4, N4, s'.G, s'.H⟩ hr ⟨by rw [List.length_take]; omega, _, rfl⟩) rfl let_go (by rw [S_len, sizeLine_eq]; omega)
    | some a =>
      cases up with
      | none =>
        refine wpAny_Slice (evalPart_some_step (ih _ _ _ he _ _ _ _ _ s fun x p u h' tk' tA' rest' hk s' hr rv => evalPart_none_step (evalPart_none_step ?_)))
        exact onIE (P := fun u => wpAny (model C.prog w) C.A (subscriptTail v (.Slice (some a) none none q) (.str (S l) t) (.ref h'.objs.size)) Q E0 { C.st h' tk' with heap := h'.push { cls := .type "slice", data := .fields #[u, .none, .none] } }) hk rv fun j t1 hk => by
          obtain ⟨⟨rfl, h1⟩, hk⟩ := hk
          exact slice_strN_sn (value := v) (slice := .Slice (some a) none none q) (s := C.st h' tk') (t := t) s'.F s'.N (fun h4 t4 k4 F4 N4 => by rw [slice_drop3 h1]; exact f _ _ _ _ _ _ _ hk ⟨F4, N4, s'.G, s'.H⟩ hr ⟨by rw [List.length_drop]; omega, _, rfl⟩) rfl let_go (by rw [S_len, sizeLine_eq]; omega)
      | some c =>
        refine wpAny_Slice (evalPart_some_step (ih _ _ _ he _ _ _ _ _ s fun x p u h' tk' tA' rest' hx s' hr rv => evalPart_some_step (ih _ _ _ hx _ _ _ _ _ s' fun y p u' h3 tk3 tA3 rest3 hk s3 hr3 rv3 => evalPart_none_step ?_)))
        exact onIE (P := fun u => wpAny (model C.prog w) C.A (subscriptTail v (.Slice (some a) (some c) none q) (.str (S l) t) (.ref h3.objs.size)) Q E0 { C.st h3 tk3 with heap := h3.push { cls := .type "slice", data := .fields #[u, u', .none] } }) hk rv fun i t1 hk => onIE (P := fun u' => wpAny (model C.prog w) C.A (subscriptTail v (.Slice (some a) (some c) none q) (.str (S l) t) (.ref h3.objs.size)) Q E0 { C.st h3 tk3 with heap := h3.push { cls := .type "slice", data := .fields #[.int i t1, u', .none] } }) hk rv3 fun j t2 hk =>
          slice_S (value := v) (slice := .Slice (some a) (some c) none q) (s := C.st h3 tk3) (t := t) s3.F s3.N hl hk.1.1 hk.1.2 (fun h4 t4 k4 F4 N4 l4 => f _ _ _ _ _ _ _ hk.2 ⟨F4, N4, s3.G, s3.H⟩ (fun q hq => hr3 q (hr q hq)) ⟨by rw [List.length_take, List.length_drop]; omega, _, rfl⟩) rfl let_go
theorem ev_step {n : Nat} (G : Glo w glT) (hd : C.dp + N < recursionLimit) (hu : C.un + 8 * N < cLine) (ih : EvOk C R lk m fs ms N n) (it : TrOk C R lk m fs ms N n) : EvOk C R lk m fs ms N (n + 1) := by
  intro p e k he tA rest h tk Q s f
  cases e <;> try exact he.elim
  case BoolOp op xs pos => exact bool_sound ih _ _ _ he _ _ _ _ _ s f
  case BinOp l op r' pos =>
    exact wpAny_BinOp (ih _ _ _ he _ _ _ _ _ s fun x p v h' tk' tA' rest' he s' hr rv => ih _ _ _ he _ _ _ _ _ s' fun y p u h'' tk'' tA'' rest'' he s'' hr' ru =>
      bin_sound s'' he (rv.mono hr') ru fun z p' v3 h3 tk3 tA3 rest3 hk s3 hr3 rv3 => f _ _ _ _ _ _ _ hk.1 (hk.2 ▸ s3) (fun q hq => hr3 q (hr' q (hr q hq))) rv3)
  case UnaryOp op x pos =>
    refine UnaryOp_ (ih _ _ _ he _ _ _ _ _ s fun x p v h' tk' tA' rest' he s' hr rv => ?_)
    cases op <;> try exact he.elim
    · exact onBE (P := fun v => C.wp (unaryOp .Not v) Q h' tk') he rv fun b hk => not_of (wpAny_truthy_bool (f _ _ _ _ _ _ _ hk s' hr rfl))
    · exact onIE (P := fun v => C.wp (unaryOp .USub v) Q h' tk') he rv fun i t hk => PyProof.Rows.neg_int (f _ _ _ _ _ _ _ hk s' hr ⟨_, rfl⟩)
  case IfExp t x y pos =>
    refine IfExp_ (it _ _ (fun b p => (b = true → evE R cs fs ms N lk n p x k) ∧ (b = false → evE R cs fs ms N lk n p y k)) he _ _ _ _ _ s fun b p h' tk' tA' rest' g s' hr => ?_)
    cases b with
    | true => exact ih _ _ _ (g.1 rfl) _ _ _ _ _ s' (f.up hr)
    | false => exact ih _ _ _ (g.2 rfl) _ _ _ _ _ s' (f.up hr)
  case Compare l ops rs pos =>
    have hm := (guardE he).1
    have he := (guardE he).2
    cases ops with
    | nil => exact he.elim
    | cons op ops =>
      cases rs with
      | nil => exact he.elim
      | cons r rs =>
        cases ops with
        | nil =>
          obtain rfl := List.isEmpty_iff.mp (guardE he).1
          exact wpAny_Compare1 (ih _ _ _ (guardE he).2 _ _ _ _ _ s fun x p v h' tk' tA' rest' he s' hr rv => ih _ _ _ he _ _ _ _ _ s' fun y p u h'' tk'' tA'' rest'' he s'' hr' ru =>
            cmp_sound s'' he (rv.mono hr') ru fun b hk => f _ _ _ _ _ _ _ hk s'' (fun q hq => hr' q (hr q hq)) rfl) (mark1 hm)
        | cons op' ops =>
          cases rs with
          | nil => exact he.elim
          | cons r' rs =>
            obtain ⟨e1, e2⟩ := Bool.and_eq_true_iff.mp (guardE he).1
            obtain rfl := List.isEmpty_iff.mp e1
            obtain rfl := List.isEmpty_iff.mp e2
            exact Compare_chain (ih _ _ _ (guardE he).2 _ _ _ _ _ s fun x p v h' tk' tA' rest' he s' hr rv => chain_link (ih _ _ _ he _ _ _ _ _ s' fun y p u h'' tk'' tA'' rest'' he s'' hr' ru =>
              cmp_sound s'' he (rv.mono hr') ru fun b g => wpAny_truthy_bool (by
                cases b with
                | false => exact f _ _ _ _ _ _ _ (g.2 rfl) s'' (fun q hq => hr' q (hr q hq)) rfl
                | true => exact chain_last (ih _ _ _ (g.1 rfl) _ _ _ _ _ s'' fun z p v3 h3 tk3 tA3 rest3 he s3 hr3 rv3 => cmp_sound s3 he (ru.mono hr3) rv3 fun b hk => f _ _ _ _ _ _ _ hk s3 (fun q hq => hr3 q (hr' q (hr q hq))) rfl)))) (mark2 hm)
  case Call g args kws pos =>
    obtain ⟨e1, hp⟩ := Bool.and_eq_true_iff.mp (guardE he).1
    replace he := (guardE he).2
    obtain rfl := List.isEmpty_iff.mp e1
    clear e1
    cases g <;> try exact he.elim
    case Attribute o nm q =>
      revert he
      refine fun he => have hf := (guardE he).1; nameCE (P := fun o => C.wp (eval (.Call (.Attribute o nm q) args [] pos) C.env) Q h tk) (guardE he).2 (fun s0 kk q' he => ?_) fun x q' he => onOE he fun v hv he => ?_
      · cases args with
        | nil => exact he.elim
        | cons e es => exact const_sound ih hf hp (guardE he).1 (guardE he).2 s f
      cases v <;> try exact he.elim
      · cases args with
        | nil => exact lower_sound G hv hf (guardE he).1 (guardE he).2 s f
        | cons e es => exact find_sound G ih hv hf hp (guardE he).1 (guardE he).2 s f
      · cases args with
        | nil => exact he.elim
        | cons e es => exact index_sound G ih hv hf hp (guardE he).1 (guardE he).2 s f
      · exact onOE he fun r hR he2 => by
          subst hR
          exact onOE he2 fun s' hs he => meth_sound G hd hu ih hv hs (guardE he).1 hf hp (guardE he).2 s f
    case Name g q =>
      refine Call_ (onOE he fun v hv he => name_sound G s hv fun v' rv => ?_)
      cases args with
      | nil => exact he.elim
      | cons e es =>
        cases v <;> try exact he.elim
        · obtain rfl := rv
          exact onOE he fun s' hs he => call_sound hd hu ih hs (guardE he).1 hp (guardE he).2 s f
        · rename_i id
          have rv : v' = biV id := rv
          cases h1 : id == "str" with
          | false =>
            rw [rv, biV, h1]
            exact callWith_builtin1 (args_sound ih _ _ _ hp he _ _ _ _ _ s fun xs p vs h' tk' tA' rest' he s' hr rvs => bi_sound s' (by unfold biT at he; rw [h1] at he; exact he) rvs fun x v h3 tk'' hk s3 rv => f _ _ _ _ _ _ _ hk s3 hr rv) (star_of (all_cons hp).1 _) (args_plain (all_cons hp).2)
          | true =>
            rw [rv, biV, h1]
            exact PySem.Pv.callWith_type1 (args_sound ih _ _ _ hp he _ _ _ _ _ s fun xs p vs h' tk' tA' rest' he s' hr rvs => by
              unfold biT at he
              rw [h1] at he
              exact str_sound (k := fun z => k z p) s' he rvs fun x v h3 tk'' hk s3 rv => f _ _ _ _ _ _ _ hk s3 hr rv) (star_of (all_cons hp).1 _) (args_plain (all_cons hp).2)
  case Constant c kk pos =>
    cases c <;> try exact he.elim
    · exact PySem.wpAny_Constant_none (f _ _ _ _ _ _ _ he s (fun _ h => h) rfl)
    · exact PySem.wpAny_Constant_bool (f _ _ _ _ _ _ _ he s (fun _ h => h) rfl)
    · exact wpAny_Constant_int (f _ _ _ _ _ _ _ he s (fun _ h => h) ⟨_, rfl⟩)
    · exact PySem.wpAny_Constant_str (f _ _ _ _ _ _ _ he s (fun _ h => h) ⟨by rw [Array.length_toList]; exact Nat.le_refl _, _, by rw [S_of]⟩)
  case Attribute o nm pos =>
    revert he
    refine fun he => nameXE (P := fun o => C.wp (eval (.Attribute o nm pos) C.env) Q h tk) he fun x q' he => onOE he fun v hv he => ?_
    obtain rfl := isRdE (guardE he).1
    exact onOE (guardE he).2 fun r hR he2 => by
      subst hR
      refine Attribute_Name_ (name_sound G s hv fun v rv => ?_)
      obtain ⟨r', e, rfl⟩ := rv
      cases e
      exact at_sound s he2 fun x v tk' hk rv => f _ _ _ _ _ _ _ hk s (fun _ h => h) rv
  case Subscript v i pos =>
    refine tabOrE he (fun b ht he2 => ?_) fun he => ?_
    · obtain ⟨x, q, rfl, hv⟩ := tabOfE ht
      refine Subscript_ (name_sound G s hv fun v rv => ?_)
      obtain rfl := rv
      exact ih _ _ _ (guardE he2).2 _ _ _ _ _ s fun c p v h' tk' tA' rest' hc s' hr rv => onIE (P := fun v => C.wp (subscriptTail (.Name x q) i (.ref _) v) Q h' tk') hc rv fun j t hk => tab_sound s' hk (sub_ix (guardE he2).1) fun x v hk rv => f _ _ _ _ _ _ _ hk s' hr rv
    · refine Subscript_ (ih _ _ _ he _ _ _ _ _ s fun x p u h' tk' tA' rest' hx s' hr rv => onQE (P := fun u => C.wp (eval i C.env) (fun j s₂ => wpAny (model C.prog w) C.A (subscriptTail v i u j) Q E0 s₂) h' tk') hx rv (fun xs a vs hx hm hi => ?_) fun l b t hx hl => ?_)
      · obtain ⟨g0, g1⟩ := Bool.and_eq_true_iff.mp (guardE hx).1
        obtain ⟨g1, g2⟩ := Bool.and_eq_true_iff.mp g1
        have g2 := Nat.le_of_ble_eq_true g2
        exact ih _ _ _ (guardE hx).2 _ _ _ _ _ s' fun c p v' h3 tk3 tA3 rest3 hc s3 hr3 rv3 => onIE (P := fun v' => C.wp (subscriptTail v i (.ref a) v') Q h3 tk3) hc rv3 fun j t hk =>
          item_tuple_ints (s3.N.isTup (rdLed_rest (hr3 _ hm))) hi hk.1.1 hk.1.2 (by omega) (fun t => f _ _ _ _ _ _ _ hk.2 s3 (fun q hq => hr3 q (hr q hq)) ⟨_, rfl⟩) (sub_ix g1) (let_ref g0 a)
      exact subS_sound ih s' hl (Nat.le_trans hl (Nat.le_of_ble_eq_true (guardE hx).1)) (guardE hx).2 fun x p v h3 tk3 tA3 rest3 hk s3 hr3 r3 => f _ _ _ _ _ _ _ hk s3 (fun q hq => hr3 q (hr q hq)) r3
  case Name x pos => exact onOE he fun v hv hk => name_sound G s hv fun v rv => f _ _ _ _ _ _ _ hk s (fun _ h => h) rv
  case Tuple es kk pos =>
    exact Tuple_ (args_sound ih _ _ _ (guardE he).1 (guardE he).2 _ _ _ _ _ s fun xs p vs h' tk' tA' rest' hk s' hr rvs => pints_rv rvs hk fun is hk hi =>
      kup_newTuple s'.F s'.N (fun D h2 F2 N2 l2 => (s'.step (x := .tup is) F2 N2 (fun _ h => .tail _ h) ⟨_, _, rfl, .head _, hi⟩).elim fun rest'' S'' => f _ _ _ _ _ _ _ (guardE hk).2 S''.1 (fun q hq => S''.2.1 q (hr q hq)) S''.2.2)
        (by rw [hi.length, sizeLine_eq]; exact Nat.le_trans (Nat.le_of_ble_eq_true (guardE hk).1) (by decide)))
theorem tr_step {n : Nat} (A : EvOk C R lk m fs ms N (n + 1)) (ih : EvOk C R lk m fs ms N n) (it : TrOk C R lk m fs ms N n) : TrOk C R lk m fs ms N (n + 1) := by
  intro p e k he tA rest h tk Q s f
  cases e <;> try exact he.elim
  case BoolOp op xs pos => exact trs_sound it _ _ _ he _ _ _ _ _ s f
  case UnaryOp op x pos =>
    cases op <;> try exact plainT A he s f rfl
    exact isTrue_not (it _ _ (fun b p => k (!b) p) (by
      refine cast ?_ he
      refine congrArg (evE R cs fs ms N lk n p x) (funext fun v => funext fun p => ?_)
      cases v <;> rfl) _ _ _ _ _ s fun b p h' tk' tA' rest' hk s' hr => f _ _ _ _ _ _ hk s' hr)
  case IfExp t x y pos =>
    refine isTrue_IfExp (it _ _ (fun b p => (b = true → evE R cs fs ms N lk n p x (fun v p => onB v fun b => k b p)) ∧ (b = false → evE R cs fs ms N lk n p y (fun v p => onB v fun b => k b p))) he _ _ _ _ _ s fun b p h' tk' tA' rest' g s' hr => ?_)
    cases b with
    | true => exact it _ _ _ (g.1 rfl) _ _ _ _ _ s' fun b p h3 tk3 tA3 rest3 hk s3 hr3 => f _ _ _ _ _ _ hk s3 fun q hq => hr3 q (hr q hq)
    | false => exact it _ _ _ (g.2 rfl) _ _ _ _ _ s' fun b p h3 tk3 tA3 rest3 hk s3 hr3 => f _ _ _ _ _ _ hk s3 fun q hq => hr3 q (hr q hq)
  case Compare l ops rs pos =>
    have hm := (guardE he).1
    have he := (guardE he).2
    cases ops with
    | nil => exact he.elim
    | cons op ops =>
      cases rs with
      | nil => exact he.elim
      | cons r rs =>
        cases ops with
        | nil =>
          obtain rfl := List.isEmpty_iff.mp (guardE he).1
          exact wpAny_isTrue_Compare1 (ih _ _ _ (guardE he).2 _ _ _ _ _ s fun x p v h' tk' tA' rest' he s' hr rv => ih _ _ _ he _ _ _ _ _ s' fun y p u h'' tk'' tA'' rest'' he s'' hr' ru =>
            cmp_sound s'' he (rv.mono hr') ru fun b hk => wpAny_truthy_bool (f _ _ _ _ _ _ hk s'' (fun q hq => hr' q (hr q hq)))) (mark1 hm)
        | cons op' ops =>
          cases rs with
          | nil => exact he.elim
          | cons r' rs =>
            obtain ⟨e1, e2⟩ := Bool.and_eq_true_iff.mp (guardE he).1
            obtain rfl := List.isEmpty_iff.mp e1
            obtain rfl := List.isEmpty_iff.mp e2
            exact isTrue_chain (ih _ _ _ (guardE he).2 _ _ _ _ _ s fun x p v h' tk' tA' rest' he s' hr rv => test_link (ih _ _ _ he _ _ _ _ _ s' fun y p u h'' tk'' tA'' rest'' he s'' hr' ru =>
              cmp_sound s'' he (rv.mono hr') ru fun b g => wpAny_truthy_bool (by
                cases b with
                | false => exact f _ _ _ _ _ _ (g.2 rfl) s'' (fun q hq => hr' q (hr q hq))
                | true => exact test_last (ih _ _ _ (g.1 rfl) _ _ _ _ _ s'' fun z p v3 h3 tk3 tA3 rest3 he s3 hr3 rv3 => cmp_sound s3 he (ru.mono hr3) rv3 fun b hk => wpAny_truthy_bool (f _ _ _ _ _ _ hk s3 (fun q hq => hr3 q (hr' q (hr q hq))))))))  (mark2 hm)
  all_goals exact plainT A he s f rfl
theorem ev_sound (G : Glo w glT) (hd : C.dp + N < recursionLimit) (hu : C.un + 8 * N < cLine) : ∀ n, EvOk C R lk m fs ms N n ∧ TrOk C R lk m fs ms N n
  | 0 => ⟨fun _ _ _ he => he.elim, fun _ _ _ he => he.elim⟩
  | n + 1 => have q := ev_sound G hd hu n; ⟨ev_step G hd hu q.1 q.2, tr_step (ev_step G hd hu q.1 q.2) q.1 q.2⟩
end
noncomputable def namesOf : List PySem.Expr → Option (List PySem.Str)
  | [] => some []
  | e :: r => match e with
    | .Name x _ => (namesOf r).map fun l => x :: l
    | _ => none
noncomputable def notTuple (e : PySem.Expr) : Bool := match e with
  | .Tuple _ _ _ => false
  | _ => true
noncomputable def notRef (x : PV) : Bool := match x with
  | .ref _ => false
  | .rd => false
  | .bi _ => false
  | .tup _ => false
  | _ => true
noncomputable def allLocal (cs : PySem.Scope) : List PySem.Str → Bool
  | [] => true
  | x :: r => (match cs.names.lookup x with
    | some .local => true
    | _ => false) && allLocal cs r
noncomputable def isConst (e : PySem.Expr) : Bool := match e with
  | .Constant _ _ _ => true
  | _ => false
/-- are the values stored from the last to the first -/
noncomputable def swp (xs : List PySem.Str) (vs : List PySem.Expr) : Bool := Nat.ble xs.length 3 && !(vs.all isConst)
noncomputable def isAdd (op : Operator) : Bool := match op with
  | .Add => true
  | _ => false
noncomputable def augK (op : Operator) (y z : PV) (k : PV → Prop) : Prop := match op with
  | .Add => onI y fun a => onI z fun b => k (.int (a + b))
  | .Sub => onI y fun a => onI z fun b => k (.int (a - b))
  | _ => False
noncomputable def onA (e : PySem.Expr) (k : PySem.Str → PySem.Str → Prop) : Prop := match e with
  | .Attribute o nm _ => nameX o fun x => k x nm
  | _ => False
/-- a name forgets that its value was written -/
noncomputable def unl (x : PV) : PV := match x with
  | .lit i => .int i
  | x => x
theorem unl_rv {R : Option Rd} {rest : Led} {x : PV} {v : Value} (h : RV R rest x v) : RV R rest (unl x) v := by cases x <;> exact h
theorem unl_rvs {R : Option Rd} {rest : Led} : ∀ {xs : List PV} {vs : List Value}, RVs R rest xs vs → RVs R rest (xs.map unl) vs
  | [], _, h => h
  | _ :: _, _, ⟨v, r, e, a, b⟩ => ⟨v, r, e, unl_rv a, unl_rvs b⟩
noncomputable abbrev Lk := List (PySem.Str × PV)
/-- all that lk' says, lk says -/
noncomputable def subL : Lk → Lk → Prop
  | [], _ => True
  | e :: r, lk => lk.lookup e.1 = some e.2 ∧ subL r lk
theorem subL_lookup : ∀ {lk' lk : Lk}, subL lk' lk → ∀ {x q}, lk'.lookup x = some q → lk.lookup x = some q
  | [], _, _, _, _, h => by cases h
  | e :: r, lk, hs, x, q, h => by
    rw [List.lookup_cons] at h
    cases hx : x == e.1 with
    | true => rw [hx] at h; cases h; rw [eq_of_beq hx]; exact hs.1
    | false => rw [hx] at h; exact subL_lookup hs.2 h
/-- no name holds a tuple -/
noncomputable def flatL : Lk → Bool
  | [] => true
  | e :: r => (match e.2 with
    | .tup _ => false
    | _ => true) && flatL r
theorem flat_rv {R : Option Rd} {r1 r2 : Led} : ∀ {lk : Lk}, flatL lk = true → ∀ {x q}, lk.lookup x = some q → ∀ {v}, RV R r1 q v → RV R r2 q v
  | [], _, _, _, h, _, _ => by cases h
  | e :: r, hf, x, q, h, v, rv => by
    obtain ⟨h1, h2⟩ := Bool.and_eq_true_iff.mp hf
    rw [List.lookup_cons] at h
    cases hx : x == e.1 with
    | true =>
      rw [hx] at h
      have e' : q = e.2 := (Option.some.inj h).symm
      rw [← e'] at h1
      cases q <;> first | exact rv | cases h1
    | false => rw [hx] at h; exact flat_rv h2 h rv
section
variable {w : World}
noncomputable def evS (R : Option Rd) (cs : PySem.Scope) (fs : List (FnSpec w)) (ms : List (MtSpec w)) (N : Nat) (K : PV → PS → Prop) : Nat → List PySem.Stmt → Lk → PS → (Lk → PS → Prop) → Prop
  | 0, _, _, _, _ => False
  | n + 1, body, lk, p, kn => match body with
    | [] => kn lk p
    | s :: rest => match s with
      | .Return v _ => match v with
        | none => K .none p
        | some e => evE R cs fs ms N lk 40 p e K
      | .Assign ts v _ => match ts with
        | [] => False
        | t :: ts => guard ts.isEmpty (match t with
          | .Name x _ => guard (allLocal cs [x]) (evE R cs fs ms N lk 40 p v fun z p => evS R cs fs ms N K n rest ((x, unl z) :: lk) p kn)
          | .Tuple es kk q => onO (namesOf es) fun xs => guard (allLocal cs xs) (match v with
            | .Tuple vs _ _ => (∀ cn L a ccd cl, swappedStores [.Tuple es kk q] v (envX cn cs L a ccd cl) = pure (bif swp xs vs then some xs else none)) ∧
                guard (vs.all notStar && allLocal cs xs.reverse) (evA (evE R cs fs ms N lk 40) vs p fun zs p => guard (Nat.beq xs.length (zs.map unl).length && Nat.ble zs.length 20) (evS R cs fs ms N K n rest (bif swp xs vs then (xs.reverse.zip (zs.map unl).reverse).reverse ++ lk else (xs.zip (zs.map unl)).reverse ++ lk) p kn))
            | v => evE R cs fs ms N lk 40 p v fun z p => onT z fun is => guard (Nat.beq xs.length is.length) (evS R cs fs ms N K n rest ((xs.zip (is.map .int)).reverse ++ lk) p kn))
          | .Attribute o nm _ => nameX o fun x => onO (evN cs lk x) fun y => guard (isRd y && nm == PySem.Str.ofString "is_wrong") (onO R fun _ => evE R cs fs ms N lk 40 p v fun z p => onB z fun b => evS R cs fs ms N K n rest lk (p.1, b) kn)
          | _ => False)
      | .AugAssign t op v _ => match t with
        | .Name x _ => guard (allLocal cs [x]) (onO (lk.lookup x) fun y => evE R cs fs ms N lk 40 p v fun z p => augK op y z fun z => evS R cs fs ms N K n rest ((x, z) :: lk) p kn)
        | .Attribute o nm _ => nameX o fun x => onO (evN cs lk x) fun y => guard (isRd y && nm == PySem.Str.ofString "at" && isAdd op) (onO R fun _ => evE R cs fs ms N lk 40 p v fun z p' => onI z fun i => ∃ n' : Nat, (p.1 : Int) + i = (n' : Int) ∧ evS R cs fs ms N K n rest lk (n', p'.2) kn)
        | _ => False
      | .If t a b _ => evE R cs fs ms N lk 40 p t fun v p => onB v fun c => (c = true → evS R cs fs ms N K n a lk p fun lk p => evS R cs fs ms N K n rest lk p kn) ∧ (c = false → evS R cs fs ms N K n b lk p fun lk p => evS R cs fs ms N K n rest lk p kn)
      | .While t b o _ => guard o.isEmpty (∃ I : Nat → Lk → PS → Prop, (∃ μ lk', subL lk' lk ∧ I μ lk' p) ∧ ∀ μ lk p, I μ lk p → evE R cs fs ms N lk 40 p t fun v p => onB v fun c => (c = true → evS R cs fs ms N K n b lk p fun lk p => ∃ μ' lk', μ' < μ ∧ subL lk' lk ∧ I μ' lk' p) ∧ (c = false → evS R cs fs ms N K n rest lk p kn))
      | .For t it b o _ => nameX t fun x => nameX it fun y => guard (o.isEmpty && allLocal cs [x]) (onO (evN cs lk y) fun z => onS z fun l _ => ∃ I : List Nat → Lk → PS → Prop, (∃ lk', subL lk' lk ∧ I [] lk' p) ∧
          (∀ pre c post lk p, l = pre ++ c :: post → I pre lk p → evS R cs fs ms N K n b ((x, .str [c] 1) :: lk) p fun lk p => ∃ lk', subL lk' lk ∧ guard (flatL lk') (I (pre ++ [c]) lk' p)) ∧ ∀ lk p, I l lk p → evS R cs fs ms N K n rest lk p kn)
      | .Expr e _ => evE R cs fs ms N lk 40 p e fun z p => guard (notRef z) (evS R cs fs ms N K n rest lk p kn)
      | _ => False
end
section
variable {w : World} {cs : PySem.Scope} {C : Cx w cs} {R : Option Rd} {rest0 : Led} {K : PV → PS → Prop} {kn : Lk → PS → Prop} {lk : Lk} {m : PySem.Str → Option Value} {fs : List (FnSpec w)} {ms : List (MtSpec w)} {N : Nat}
/-- what holds where a body ends -/
noncomputable def EndS (C : Cx w cs) (R : Option Rd) (rest0 : Led) (K : PV → PS → Prop) (kn : Lk → PS → Prop) (fl : Flow) (s : Shared) : Prop := match fl with
  | .next => ∃ lk m p tA rest h tk, kn lk p ∧ Stt C R lk m p tA rest h ∧ s = C.st h tk ∧ ∀ q ∈ rest0, q ∈ rest
  | .ret v => ∃ x p lk m tA rest h tk, K x p ∧ Stt C R lk m p tA rest h ∧ s = C.st h tk ∧ (∀ q ∈ rest0, q ∈ rest) ∧ RV R rest x v
  | _ => False
theorem upd_rd {r : Rd} {p p' : PS} {tA tA' : Tok} {rest : Led} (G : RdGood (some r) rest) : Upd r.dx (dictOf (rdEs r p tA) 3) (dictOf (rdEs r p' tA') 3) (rdLed (some r) p tA rest) (rdLed (some r) p' tA' rest) :=
  .tail (Nat.ne_of_gt G.1) (.head G.2.1)
theorem set_wrong {r : Rd} {p : PS} {tA : Tok} {rest : Led} {h : Heap} {tk : Nat} {b : Bool} {Q : Unit → Shared → Prop} (s : Stt C (some r) lk m p tA rest h) (f : ∀ h' tk', Stt C (some r) lk m (p.1, b) tA rest h' → Q () (C.st h' tk')) : C.wp (setAttr (.ref r.x) (PySem.Str.ofString "is_wrong") (.bool b)) Q h tk :=
  set_dict s.F C.X s.N (InstAt.of_news s.N (.head _) (.tail _ (.head _)) : InstAt h r.x (instObj 328 r.dx) 328 (some (dictOf (rdEs r p tA) 3))) rfl (by k_is) (by k_is) (by k_is) (by k_is) rfl rfl (upd_rd (p' := (p.1, b)) (tA' := tA) s.G) (by exact Nat.le_of_ble_eq_true rfl) fun h' F' N' => f _ _ ⟨F', N', s.G, s.H⟩
theorem set_at {r : Rd} {p : PS} {tA : Tok} {rest : Led} {h : Heap} {tk : Nat} {i : Int} {t : Tok} {n : Nat} {Q : Unit → Shared → Prop} (s : Stt C (some r) lk m p tA rest h) (hi : i = (n : Int)) (f : ∀ h' tk', Stt C (some r) lk m (n, p.2) t rest h' → Q () (C.st h' tk')) : C.wp (setAttr (.ref r.x) (PySem.Str.ofString "at") (.int i t)) Q h tk := by
  subst hi
  exact set_dict s.F C.X s.N (InstAt.of_news s.N (.head _) (.tail _ (.head _)) : InstAt h r.x (instObj 328 r.dx) 328 (some (dictOf (rdEs r p tA) 3))) rfl (by k_is) (by k_is) (by k_is) (by k_is) rfl rfl (upd_rd (p' := (n, p.2)) (tA' := t) s.G) (by exact Nat.le_of_ble_eq_true rfl) fun h' F' N' => f _ _ ⟨F', N', s.G, s.H⟩
theorem swap_of {n : Nat} {p : PS} {e : PySem.Expr} {k : PV → PS → Prop} {t : Option PySem.Expr} {l : Nat} {env : Env} (h : evE R cs fs ms N lk (n + 1) p e k) : swapsWith e t l env = pure false := by
  cases e <;> first | rfl | exact h.elim
theorem local1 {x : PySem.Str} {r : List PySem.Str} (h : allLocal cs (x :: r) = true) : cs.names.lookup x = some .local ∧ allLocal cs r = true := by
  obtain ⟨h1, h2⟩ := Bool.and_eq_true_iff.mp h
  refine ⟨?_, h2⟩
  split at h1
  · assumption
  · cases h1
theorem Stt.put {p : PS} {tA : Tok} {rest : Led} {h h' : Heap} {x : PySem.Str} {z : PV} {v : Value} (s : Stt C R lk m p tA rest h) (F : Fr C.h₀ C.L h' (fun y => if y = x then some v else m y)) (N' : News C.h₀ C.L h' (rdLed R p tA rest)) (rv : RV R rest z v) :
    Stt C R ((x, z) :: lk) (fun y => if y = x then some v else m y) p tA rest h' := by
  refine ⟨F, N', s.G, fun y q e => ?_⟩
  rw [List.lookup_cons] at e
  cases hy : y == x with
  | true => rw [hy] at e; cases e; exact ⟨v, if_pos (eq_of_beq hy), rv⟩
  | false =>
    rw [hy] at e
    exact (s.H y q e).elim fun v' e' => ⟨v', by rw [if_neg (ne_of_beq_false hy)]; exact e'.1, e'.2⟩
theorem store_sound {p : PS} {tA : Tok} {rest : Led} {h : Heap} {tk : Nat} {x : PySem.Str} {z : PV} {v : Value} {Q : Unit → Shared → Prop} (s : Stt C R lk m p tA rest h) (rv : RV R rest z v) (hx : cs.names.lookup x = some .local)
    (f : ∀ m h' tk', Stt C R ((x, z) :: lk) m p tA rest h' → Q () (C.st h' tk')) : C.wp (storeName C.env x v) Q h tk :=
  storeX_L s.F s.N (fun h' F' N' => f _ _ _ (s.put F' N' rv)) C.hk hx
theorem RVs.zipInts {rest : Led} : ∀ {vs : List Value} {is : List Int}, IntsAre vs is → RVs R rest (is.map .int) vs
  | _, _, .nil => rfl
  | _, _, .cons i t h => ⟨_, _, rfl, ⟨_, rfl⟩, RVs.zipInts h⟩
/-- the names take the values, one by one -/
theorem stores_sound {α : Type} {nm : α → PySem.Str} {act : α → Value → Sem Unit} (hact : ∀ a v Q h tk, C.wp (storeName C.env (nm a) v) Q h tk → C.wp (act a v) Q h tk) {p : PS} {tA : Tok} {rest : Led} {Q : Unit → Shared → Prop} (qs : List α) : ∀ (zs : List PV), qs.length = zs.length → ∀ {vs : List Value} {lk : List (PySem.Str × PV)} {m : PySem.Str → Option Value} {h : Heap} {tk : Nat}, allLocal cs (qs.map nm) = true → Stt C R lk m p tA rest h → RVs R rest zs vs →
    (∀ m h' tk', Stt C R (((qs.map nm).zip zs).reverse ++ lk) m p tA rest h' → Q () (C.st h' tk')) → C.wp (assignInOrder (qs.map act) vs) Q h tk := by
  induction qs with
  | nil =>
    intro zs e vs lk m h tk _ s rs f
    cases zs with
    | cons _ _ => cases e
    | nil => cases rs; exact assignInOrder_nil (f _ _ _ s)
  | cons x xs ih =>
    intro zs e
    cases zs with
    | nil => cases e
    | cons z zs =>
      intro vs lk m h tk hl s rs f
      obtain ⟨v, r, rfl, rv, rs⟩ := rs
      exact assignInOrder_cons (hact _ _ _ _ _ (store_sound s rv (local1 hl).1 fun m' h' tk' s' => ih zs (Nat.succ.inj e) (local1 hl).2 s' rs fun m'' h'' tk'' s'' => f m'' h'' tk'' (by
        rw [List.map_cons, List.zip_cons_cons, List.reverse_cons, List.append_assoc]; exact s'')))
theorem namesOf_assign {env : Env} : ∀ {es : List PySem.Expr} {xs : List PySem.Str}, namesOf es = some xs → (assignEach es env).length = xs.length ∧ (assignEach es env).findIdx? (·.1) = none ∧ ∃ qs : List (PySem.Str × Pos), (assignEach es env).map (·.2) = qs.map (fun q => assign (.Name q.1 q.2) env) ∧ qs.map (·.1) = xs
  | [], _, h => by cases h; exact ⟨rfl, rfl, [], rfl, rfl⟩
  | e :: es, xs, h => by
    unfold namesOf at h
    split at h
    · obtain ⟨l, h1, rfl⟩ := Option.map_eq_some_iff.mp h
      obtain ⟨a, b, qs, c, d⟩ := namesOf_assign (env := env) h1
      refine ⟨congrArg (· + 1) a, ?_, (_, _) :: qs, congrArg (_ :: ·) c, congrArg (_ :: ·) d⟩
      show List.findIdx? _ ((false, _) :: assignEach es env) = none
      rw [List.findIdx?_cons, b]; rfl
    · cases h
theorem RVs.len {rest : Led} : ∀ {zs : List PV} {vs : List Value}, RVs R rest zs vs → vs.length = zs.length
  | [], _, h => by cases h; rfl
  | _ :: _, _, ⟨_, _, e, _, h⟩ => by rw [e, List.length_cons, List.length_cons, RVs.len h]
theorem RVs.rev {rest : Led} : ∀ {zs : List PV} {vs : List Value} {zs' : List PV} {vs' : List Value}, RVs R rest zs vs → RVs R rest zs' vs' → RVs R rest (zs.reverse ++ zs') (vs.reverse ++ vs')
  | [], _, _, _, h, h' => by cases h; exact h'
  | z :: zs, _, zs', vs', ⟨v, r, e, rv, h⟩, h' => by
    subst e
    rw [List.reverse_cons, List.reverse_cons, List.append_assoc, List.append_assoc]
    exact RVs.rev h ⟨v, vs', rfl, rv, h'⟩
theorem Stt.more {p : PS} {tA : Tok} {rest : Led} {h h' : Heap} {D : Addr} {vs : List Value} (s : Stt C R lk m p tA rest h) (F : Fr C.h₀ C.L h' m) (N' : News C.h₀ C.L h' ((D, tupO vs) :: rdLed R p tA rest)) (l : ∀ q ∈ rdLed R p tA rest, q.1 < D) :
    Stt C R lk m p tA ((D, tupO vs) :: rest) h' := by
  refine ⟨F, newsDup N' (.head _) fun q hq => N' q (.tail _ hq), ?_, fun y q e => (s.H y q e).elim fun v e => ⟨v, e.1, e.2.mono fun _ h => .tail _ h⟩⟩
  cases R with
  | none => trivial
  | some r => exact ⟨s.G.1, fun q hq => (List.mem_cons.mp hq).elim (fun e => e ▸ Nat.ne_of_gt (l (r.dx, rdD r.l r.tT (p.1 : Int) tA p.2 r.h1 r.h2 r.h3 r.k1 r.k2 r.k3) (.tail _ (.head _)))) (s.G.2.1 q), s.G.2.2⟩
section
variable {rest' : List PySem.Stmt} {n : Nat}
noncomputable abbrev Nx (C : Cx w cs) (R : Option Rd) (rest0 : Led) (K : PV → PS → Prop) (fs : List (FnSpec w)) (ms : List (MtSpec w)) (N n : Nat) (rest' : List PySem.Stmt) (kn : Lk → PS → Prop) : Prop :=
  ∀ {lk : Lk} {p : PS}, evS R cs fs ms N K n rest' lk p kn → ∀ {m : PySem.Str → Option Value} {tA : Tok} {rest : Led} {h : Heap} {tk : Nat}, Stt C R lk m p tA rest h → (∀ q ∈ rest0, q ∈ rest) → C.wp (execs rest' C.env) (EndS C R rest0 K kn) h tk
variable (nx : Nx C R rest0 K fs ms N n rest' kn) {es : List PySem.Expr} {xs : List PySem.Str} {kk : Nat} {q' q : Pos} {v : PySem.Expr} (hxs : namesOf es = some xs) {p : PS} {tA : Tok} {rest : Led} {h : Heap} {tk : Nat} (s : Stt C R lk m p tA rest h) (hr : ∀ q ∈ rest0, q ∈ rest)
  (ev : EvOk C R lk m fs ms N 40)
noncomputable abbrev Goal (C : Cx w cs) (R : Option Rd) (rest0 : Led) (K : PV → PS → Prop) (rest' : List PySem.Stmt) (kn : Lk → PS → Prop) (st : PySem.Stmt) (h : Heap) (tk : Nat) : Prop :=
  C.wp (exec st C.env) (fun f s' => match f with | .next => wpAny (model C.prog w) C.A (execs rest' C.env) (EndS C R rest0 K kn) E0 s' | f => EndS C R rest0 K kn f s') h tk
include nx hxs s hr ev
theorem asg_plain (hl : allLocal cs xs = true) (he : evE R cs fs ms N lk 40 p v fun z p => onT z fun is => guard (Nat.beq xs.length is.length) (evS R cs fs ms N K n rest' ((xs.zip (is.map .int)).reverse ++ lk) p kn)) (hw : swappedStores [.Tuple es kk q'] v C.env = pure none) : Goal C R rest0 K rest' kn (.Assign [.Tuple es kk q'] v q) h tk := by
  refine Assign_Tuple (ev _ _ _ he _ _ _ _ _ s fun z p v h' tk' tA' rest'' hk s' hr' rv => onTE (P := fun v => C.wp (assign (.Tuple es kk q') C.env v) (fun _ s' => wpAny (model C.prog w) C.A (execs rest' C.env) (EndS C R rest0 K kn) E0 s') h' tk') hk rv fun is a vs hk hm hi => ?_) (swap_of (t := some (.Tuple es kk q')) (l := q.line) (env := C.env) he) hw
  obtain ⟨n1, n2, qs, n3, n4⟩ := namesOf_assign (env := C.env) hxs
  have g := guardE hk
  have len := Nat.eq_of_beq_eq_true g.1
  refine unpackN_ s'.F s'.N (s'.N.isTup (rdLed_rest hm)) rfl (by rw [n1, List.size_toArray, hi.length, len]) n2 fun h2 F2 N2 => ?_
  rw [n3]
  exact stores_sound (Q := fun _ s' => wpAny (model C.prog w) C.A (execs rest' C.env) (EndS C R rest0 K kn) E0 s') (nm := fun q : PySem.Str × Pos => q.1) (act := fun q v => assign (.Name q.1 q.2) C.env v) (fun a v Q h tk z => assign_Name z) qs (is.map .int) (by rw [List.length_map, ← len, ← n4, List.length_map]) (by rw [n4]; exact hl) ⟨F2, N2, s'.G, s'.H⟩ (RVs.zipInts hi) fun m' h3 tk3 s3 => by
    rw [n4] at s3
    exact nx g.2 s3 fun q hq => hr' q (hr q hq)
variable {vs : List PySem.Expr} {k2 : Nat} {q2 : Pos}
theorem asg_swap (hl : allLocal cs xs.reverse = true) (hs : vs.all notStar = true) (he : evA (evE R cs fs ms N lk 40) vs p fun zs p => guard (Nat.beq xs.length (zs.map unl).length && Nat.ble zs.length 20) (evS R cs fs ms N K n rest' ((xs.reverse.zip (zs.map unl).reverse).reverse ++ lk) p kn)) (hw : swappedStores [.Tuple es kk q'] (.Tuple vs k2 q2) C.env = pure (some xs)) : Goal C R rest0 K rest' kn (.Assign [.Tuple es kk q'] (.Tuple vs k2 q2) q) h tk := by
  refine Assign_Tuple_swapped (names := xs) (Tuple_ (args_sound ev _ _ _ hs he _ _ _ _ _ s fun zs p vs' h' tk' tA' rest'' hk s' hr' rvs => ?_)) rfl hw
  have g := Bool.and_eq_true_iff.mp (guardE hk).1
  have len := Nat.eq_of_beq_eq_true g.1
  refine kup_newTuple s'.F s'.N (fun D h2 F2 N2 l2 => ?_) (by rw [rvs.len, sizeLine_eq]; exact Nat.le_trans (Nat.le_of_ble_eq_true g.2) (by decide))
  refine unpackItemsN_ F2 N2 (N2.isTup (.head _)) rfl (by rw [List.size_toArray, (unl_rvs rvs).len, len]) fun h3 F3 N3 => ?_
  have rv2 := RVs.rev ((unl_rvs rvs).mono fun _ h => List.Mem.tail (D, tupO vs') h) (RVs.zipInts (R := R) (rest := (D, tupO vs') :: rest'') .nil)
  rw [List.append_nil, show (zs.map unl).reverse ++ List.map PV.int [] = (zs.map unl).reverse from List.append_nil _] at rv2
  refine stores_sound (Q := fun _ s' => wpAny (model C.prog w) C.A (execs rest' C.env) (EndS C R rest0 K kn) E0 s') (nm := id) (act := fun x v => bindName C.env x v) (fun a v Q h tk z => bindName_ z) xs.reverse (zs.map unl).reverse (by rw [List.length_reverse, List.length_reverse, len]) (by rw [List.map_id]; exact hl) (s'.more F3 N3 l2) rv2 fun m' h4 tk4 s4 => ?_
  rw [List.map_id] at s4
  exact nx (guardE hk).2 s4 fun q hq => .tail _ (hr' q (hr q hq))
theorem asg_tup (hl : allLocal cs xs = true) (hs : vs.all notStar = true) (he : evA (evE R cs fs ms N lk 40) vs p fun zs p => guard (Nat.beq xs.length (zs.map unl).length && Nat.ble zs.length 20) (evS R cs fs ms N K n rest' ((xs.zip (zs.map unl)).reverse ++ lk) p kn)) (hw : swappedStores [.Tuple es kk q'] (.Tuple vs k2 q2) C.env = pure none) : Goal C R rest0 K rest' kn (.Assign [.Tuple es kk q'] (.Tuple vs k2 q2) q) h tk := by
  refine Assign_Tuple (Tuple_ (args_sound ev _ _ _ hs he _ _ _ _ _ s fun zs p vs' h' tk' tA' rest'' hk s' hr' rvs => ?_)) rfl hw
  have g := Bool.and_eq_true_iff.mp (guardE hk).1
  have len := Nat.eq_of_beq_eq_true g.1
  refine kup_newTuple s'.F s'.N (fun D h2 F2 N2 l2 => ?_) (by rw [rvs.len, sizeLine_eq]; exact Nat.le_trans (Nat.le_of_ble_eq_true g.2) (by decide))
  obtain ⟨n1, n2, qs, n3, n4⟩ := namesOf_assign (env := C.env) hxs
  refine unpackN_ F2 N2 (N2.isTup (.head _)) rfl (by rw [n1, List.size_toArray, (unl_rvs rvs).len, len]) n2 fun h3 F3 N3 => ?_
  rw [n3]
  refine stores_sound (Q := fun _ s' => wpAny (model C.prog w) C.A (execs rest' C.env) (EndS C R rest0 K kn) E0 s') (nm := fun q : PySem.Str × Pos => q.1) (act := fun q v => assign (.Name q.1 q.2) C.env v) (fun a v Q h tk z => assign_Name z) qs (zs.map unl) (by rw [← len, ← n4, List.length_map]) (by rw [n4]; exact hl) (s'.more F3 N3 l2) ((unl_rvs rvs).mono fun _ h => .tail _ h) fun m' h4 tk4 s4 => ?_
  rw [n4] at s4
  exact nx (guardE hk).2 s4 fun q hq => .tail _ (hr' q (hr q hq))
end
/-- a block, and behind it the rest -/
theorem blk {n : Nat} {a : List PySem.Stmt} {lk : Lk} {p : PS} {tA : Tok} {rest : Led} {h : Heap} {tk : Nat} {kn' : Lk → PS → Prop} (ih : ∀ body kn, Nx C R rest0 K fs ms N n body kn) (ha : evS R cs fs ms N K n a lk p kn') (s : Stt C R lk m p tA rest h) (hr : ∀ q ∈ rest0, q ∈ rest) {Q : Flow → Shared → Prop}
    (f1 : ∀ lk p m tA rest h tk, kn' lk p → Stt C R lk m p tA rest h → (∀ q ∈ rest0, q ∈ rest) → Q .next (C.st h tk)) (f2 : ∀ v s', EndS C R rest0 K kn' (.ret v) s' → Q (.ret v) s') : C.wp (execs a C.env) Q h tk :=
  wpAny_mono (ih a kn' ha s hr) (fun f s' e => by
    cases f with
    | next => obtain ⟨lk, m, p, tA, rest, h, tk, hk, s, rfl, hr⟩ := e; exact f1 _ _ _ _ _ _ _ hk s hr
    | ret v => exact f2 _ _ e
    | brk => exact e.elim
    | cont => exact e.elim) fun _ _ h => h
section
variable {n : Nat} {rest' : List PySem.Stmt} (ih : ∀ body kn, Nx C R rest0 K fs ms N n body kn) {p : PS} {tA : Tok} {rest : Led} {h : Heap} {tk : Nat} (s : Stt C R lk m p tA rest h) (hr : ∀ q ∈ rest0, q ∈ rest)
  (sv : ∀ lk m, EvOk C R lk m fs ms N 40 ∧ TrOk C R lk m fs ms N 40)
include ih s hr sv
theorem s_if {t : PySem.Expr} {a b : List PySem.Stmt} {q : Pos} (he : evE R cs fs ms N lk 40 p t fun v p => onB v fun c => (c = true → evS R cs fs ms N K n a lk p fun lk p => evS R cs fs ms N K n rest' lk p kn) ∧ (c = false → evS R cs fs ms N K n b lk p fun lk p => evS R cs fs ms N K n rest' lk p kn)) :
    Goal C R rest0 K rest' kn (.If t a b q) h tk :=
  wpAny_If ((sv _ _).2 _ _ (fun c p => (c = true → evS R cs fs ms N K n a lk p fun lk p => evS R cs fs ms N K n rest' lk p kn) ∧ (c = false → evS R cs fs ms N K n b lk p fun lk p => evS R cs fs ms N K n rest' lk p kn)) he _ _ _ _ _ s fun c p h' tk' tA' rest'' g s' hr' => by
    have r2 : ∀ q ∈ rest0, q ∈ rest'' := fun q hq => hr' q (hr q hq)
    cases c with
    | true => exact blk ih (g.1 rfl) s' r2 (fun _ _ _ _ _ _ _ hk s hr => ih _ _ hk s hr) fun v s' e => e
    | false => exact blk ih (g.2 rfl) s' r2 (fun _ _ _ _ _ _ _ hk s hr => ih _ _ hk s hr) fun v s' e => e)
theorem s_while {t : PySem.Expr} {b : List PySem.Stmt} {q : Pos} {I : Nat → Lk → PS → Prop} (hI : ∃ μ lk', subL lk' lk ∧ I μ lk' p) (he : ∀ μ lk p, I μ lk p → evE R cs fs ms N lk 40 p t fun v p => onB v fun c => (c = true → evS R cs fs ms N K n b lk p fun lk p => ∃ μ' lk', μ' < μ ∧ subL lk' lk ∧ I μ' lk' p) ∧ (c = false → evS R cs fs ms N K n rest' lk p kn)) :
    Goal C R rest0 K rest' kn (.While t b [] q) h tk := by
  obtain ⟨μ, lk', hs, hI⟩ := hI
  refine While_inv2 (fun μ m news => ∃ lk p tA rest, news = rdLed R p tA rest ∧ RdGood R rest ∧ (∀ x q, lk.lookup x = some q → ∃ v, m x = some v ∧ RV R rest q v) ∧ (∀ q ∈ rest0, q ∈ rest) ∧ I μ lk p) s.F s.N ⟨lk', p, tA, rest, rfl, s.G, fun x q e => s.H x q (subL_lookup hs e), hr, hI⟩ ?_ PassesOwn.never
  rintro μ m₁ news₁ h₁ tk₁ F₁ N₁ ⟨lk, p, tA, rest, rfl, G, H, hr, hI⟩
  refine (sv lk m₁).2 _ _ (fun c p => (c = true → evS R cs fs ms N K n b lk p fun lk p => ∃ μ' lk', μ' < μ ∧ subL lk' lk ∧ I μ' lk' p) ∧ (c = false → evS R cs fs ms N K n rest' lk p kn)) (he _ _ _ hI) _ _ _ _ _ ⟨F₁, N₁, G, H⟩ fun c p h' tk' tA' rest'' g s' hr' => ?_
  have r2 : ∀ q ∈ rest0, q ∈ rest'' := fun q hq => hr' q (hr q hq)
  cases c with
  | false => exact ih _ _ (g.2 rfl) s' r2
  | true => exact blk ih (g.1 rfl) s' r2 (fun lk p m tA rest h tk hk s hr => by
      obtain ⟨μ', lk', hμ, hs, hI⟩ := hk
      exact ⟨h, tk, m, _, μ', rfl, s.F, s.N, hμ, lk', p, tA, rest, rfl, s.G, fun x q e => s.H x q (subL_lookup hs e), hr, hI⟩) fun v s' e => e
theorem s_for (ih2 : ∀ rest0 body kn, Nx C R rest0 K fs ms N n body kn) {x y : PySem.Str} {b : List PySem.Stmt} {q q1 q2 : Pos} (G : Glo w glT) (hx : cs.names.lookup x = some .local) (he : onO (evN cs lk y) fun z => onS z fun l _ => ∃ I : List Nat → Lk → PS → Prop, (∃ lk', subL lk' lk ∧ I [] lk' p) ∧
          (∀ pre c post lk p, l = pre ++ c :: post → I pre lk p → evS R cs fs ms N K n b ((x, .str [c] 1) :: lk) p fun lk p => ∃ lk', subL lk' lk ∧ guard (flatL lk') (I (pre ++ [c]) lk' p)) ∧ ∀ lk p, I l lk p → evS R cs fs ms N K n rest' lk p kn) :
    Goal C R rest0 K rest' kn (.For (.Name x q1) (.Name y q2) b [] q) h tk := by
  refine For_invV C.h₀ hx (by show (cs.kind == .class || (cs.kind == .module && _)) = false; rw [C.hk]; rfl) (onOE he fun z hz he => name_sound G s hz fun v rv => onSE (P := fun v => C.wp (pyIter v) (fun it s₂ => LoopAtV C.prog w C.A C.h₀ C.env x b (fun f s' => match f with | .next => wpAny (model C.prog w) C.A (execs rest' C.env) (EndS C R rest0 K kn) E0 s' | f => EndS C R rest0 K kn f s') E0 it s₂) h tk) he rv fun l c0 t he hl => ?_) (by intro _; rfl) PassesOwn.never
  obtain ⟨I, ⟨lk0, hs0, hI⟩, turn, done⟩ := he
  refine wpAny_pyIter_str fun o St hW hst => ?_
  refine loop_invN (fun i m nx => ∃ lk p tA, nx = rdLed R p tA rest ∧ (∀ x q, lk.lookup x = some q → ∃ v, m x = some v ∧ RV R rest q v) ∧ I (l.take i) lk p) (hW C.A rfl) ?_ ?_ ?_ ?_ hst (s.F.push _) (fun p hp => ⟨Heap.get?_push_of_some _ (s.N p hp).1, (s.N p hp).2⟩) ⟨lk0, p, tA, rfl, fun x q e => s.H x q (subL_lookup hs0 e), hI⟩ ?_ ?_
  · exact fun hm => absurd s.F.ns.lt ((List.mem_singleton.mp hm) ▸ Nat.lt_irrefl _)
  · exact fun b' hb => (List.mem_singleton.mp hb) ▸ next_is_new s.F
  · exact fun p hp hI => absurd (Heap.lt_size (s.N p hp).1) ((List.mem_singleton.mp hI) ▸ Nat.lt_irrefl _)
  · exact fun p hp hI => absurd (Heap.lt_size (s.N p hp).1) ((List.mem_singleton.mp hI) ▸ Nat.lt_irrefl _)
  · rintro i v m₁ nx h1 tk1 own hi ⟨c, u, hc, rfl⟩ hadr hoff ⟨lk, p1, tA1, rfl, H, hI⟩ F₁ N₁
    have hc' : l[i]? = some c := by rw [← hc]; simp [S]
    have hs : l.take (i + 1) = l.take i ++ [c] := by rw [List.take_add_one, hc']; rfl
    have e : l = l.take i ++ c :: l.drop (i + 1) := by
      have ht := List.take_append_drop (i + 1) l
      rw [hs, List.append_assoc] at ht
      exact ht.symm
    have G2 : RdGood R (rest ++ own) := by
      cases R with
      | none => trivial
      | some r => exact ⟨s.G.1, fun q hq => (List.mem_append.mp hq).elim (s.G.2.1 q) fun hq => hoff.ne (.tail _ (.head _)) q hq, s.G.2.2⟩
    have N2 : News C.h₀ C.L h1 (rdLed R p1 tA1 (rest ++ own)) := by cases R <;> exact N₁
    have S2 : Stt C R ((x, .str [c] 1) :: lk) (fun y => if y = x then some (.str ⟨#[c]⟩ u) else m₁ y) p1 tA1 (rest ++ own) h1 := ⟨F₁, N2, G2, fun y q e => by
      rw [List.lookup_cons] at e
      cases hy : y == x with
      | true => rw [hy] at e; cases e; exact ⟨_, if_pos (eq_of_beq hy), Nat.le_refl _, u, rfl⟩
      | false => rw [hy] at e; exact (H y q e).elim fun v' e' => ⟨v', by rw [if_neg (ne_of_beq_false hy)]; exact e'.1, e'.2.mono fun _ h => List.mem_append_left _ h⟩⟩
    rw [hs]
    refine blk (rest0 := rest ++ own) (ih2 _) (turn _ _ _ _ _ e hI) S2 (fun _ h => h) (fun lk2 p2 m2 tA2 rest2 h2 tk2 hk s2 hr2 => ?_) fun v s' e => ?_
    · obtain ⟨lk', hs', hg⟩ := hk
      have g := guardE hg
      refine ⟨h2, tk2, m2, rdLed R p2 tA2 rest2, rdLed R p2 tA2 rest, rfl, s2.F, s2.N, ?_, fun q hq => rdLed_rest (hr2 q (List.mem_append_right _ hq)), ?_, lk', p2, tA2, rfl, fun x q e => (s2.H x q (subL_lookup hs' e)).elim fun v e' => ⟨v, e'.1, flat_rv g.1 e e'.2⟩, g.2⟩
      · intro q hq
        cases R with
        | none => exact hr2 q (List.mem_append_left _ hq)
        | some r => exact (List.mem_cons.mp hq).elim (fun e => e ▸ .head _) fun hq => (List.mem_cons.mp hq).elim (fun e => e ▸ .tail _ (.head _)) fun hq => .tail _ (.tail _ (hr2 q (List.mem_append_left _ hq)))
      · cases R <;> rfl
    · obtain ⟨x, p, lk, m, tA, rest2, h, tk, hk, s, e, hr2, rv⟩ := e
      exact ⟨x, p, lk, m, tA, rest2, h, tk, hk, s, e, fun q hq => hr2 q (List.mem_append_left _ (hr q hq)), rv⟩
  · rintro m₁ nx h1 tk1 ⟨lk, p1, tA1, rfl, H, hI⟩ F₁ N₁
    have hl : (S l).cps.size = l.length := S_len l
    rw [hl, List.take_length] at hI
    exact ih _ _ (done _ _ hI) ⟨F₁, N₁, s.G, H⟩ hr
theorem s_aug {x : PySem.Str} {op : Operator} {v : PySem.Expr} {q q' : Pos} (hx : cs.names.lookup x = some .local) (he : onO (lk.lookup x) fun y => evE R cs fs ms N lk 40 p v fun z p => augK op y z fun z => evS R cs fs ms N K n rest' ((x, z) :: lk) p kn) : Goal C R rest0 K rest' kn (.AugAssign (.Name x q') op v q) h tk := by
  refine onOE he fun y hy he => ?_
  obtain ⟨u, e1, e2⟩ := s.H _ _ hy
  refine wpAny_AugAssign_Name (wpAny_loadName_local C.hk hx s.F.ns e1 ((sv _ _).1 _ _ _ he _ _ _ _ _ s fun z p v h' tk' tA' rest'' hk s' hr' rv => ?_))
  have e2 := e2.mono hr'
  have fin : ∀ {z v tk}, evS R cs fs ms N K n rest' ((x, z) :: lk) p kn → RV R rest'' z v → C.wp (storeName C.env x v) (fun _ s' => wpAny (model C.prog w) C.A (execs rest' C.env) (EndS C R rest0 K kn) E0 s') h' tk := fun hk rv => store_sound s' rv hx fun m' h2 tk2 s2 => ih _ _ hk s2 fun q hq => hr' q (hr q hq)
  cases op <;> try exact hk.elim
  · exact onIE (P := fun u => C.wp (inplaceOp .Add u v) _ h' tk') hk e2 fun a t hk => onIE (P := fun v => C.wp (inplaceOp .Add (.int a t) v) _ h' tk') hk rv fun b t' hk => iadd_int (fin hk ⟨_, rfl⟩)
  · exact onIE (P := fun u => C.wp (inplaceOp .Sub u v) _ h' tk') hk e2 fun a t hk => onIE (P := fun v => C.wp (inplaceOp .Sub (.int a t) v) _ h' tk') hk rv fun b t' hk => isub_int (fin hk ⟨_, rfl⟩)
theorem s_set {o : PySem.Expr} {nm : PySem.Str} {v : PySem.Expr} {q q' : Pos} (G : Glo w glT) (he : nameX o fun x => onO (evN cs lk x) fun y => guard (isRd y && nm == PySem.Str.ofString "is_wrong") (onO R fun _ => evE R cs fs ms N lk 40 p v fun z p => onB z fun b => evS R cs fs ms N K n rest' lk (p.1, b) kn)) : Goal C R rest0 K rest' kn (.Assign [.Attribute o nm q'] v q) h tk := by
  revert he
  refine fun he => nameXE (P := fun o => Goal C R rest0 K rest' kn (.Assign [.Attribute o nm q'] v q) h tk) he fun x q2 he => onOE he fun y hy he => ?_
  obtain ⟨h1, h2⟩ := Bool.and_eq_true_iff.mp (guardE he).1
  obtain rfl := isRdE h1
  obtain rfl := eq_of_beq h2
  refine onOE (guardE he).2 fun r hR he2 => ?_
  subst hR
  refine plainObj_wpAny_Assign_Attribute ((sv _ _).1 _ _ _ he2 _ _ _ _ _ s fun z p v h' tk' tA' rest'' hk s' hr' rv => onBE (P := fun v => C.wp (eval (.Name x q2) C.env) (fun ov s₂ => wpAny (model C.prog w) C.A (setAttr ov (PySem.Str.ofString "is_wrong") v) (fun _ s' => wpAny (model C.prog w) C.A (execs rest' C.env) (EndS C (some r) rest0 K kn) E0 s') E0 s₂) h' tk') hk rv fun b hk => name_sound G s' hy fun u ru => ?_) (swap_of (t := some (.Attribute (.Name x q2) (PySem.Str.ofString "is_wrong") q')) (l := q.line) (env := C.env) he2)
  obtain ⟨r', e, rfl⟩ := ru
  cases e
  exact set_wrong s' fun h3 tk3 s3 => ih _ _ hk s3 fun q hq => hr' q (hr q hq)
theorem s_at {o : PySem.Expr} {nm : PySem.Str} {op : Operator} {v : PySem.Expr} {q q' : Pos} (G : Glo w glT) (he : nameX o fun x => onO (evN cs lk x) fun y => guard (isRd y && nm == PySem.Str.ofString "at" && isAdd op) (onO R fun _ => evE R cs fs ms N lk 40 p v fun z p' => onI z fun i => ∃ n' : Nat, (p.1 : Int) + i = (n' : Int) ∧ evS R cs fs ms N K n rest' lk (n', p'.2) kn)) : Goal C R rest0 K rest' kn (.AugAssign (.Attribute o nm q') op v q) h tk := by
  revert he
  refine fun he => nameXE (P := fun o => Goal C R rest0 K rest' kn (.AugAssign (.Attribute o nm q') op v q) h tk) he fun x q2 he => onOE he fun y hy he => ?_
  obtain ⟨h1, h3⟩ := Bool.and_eq_true_iff.mp (guardE he).1
  obtain ⟨h1, h2⟩ := Bool.and_eq_true_iff.mp h1
  obtain rfl := isRdE h1
  obtain rfl := eq_of_beq h2
  obtain rfl : op = .Add := by cases op <;> first | rfl | cases h3
  refine onOE (guardE he).2 fun r hR he2 => ?_
  subst hR
  refine wpAny_AugAssign_AttributeAny (name_sound G s hy fun u ru => ?_)
  obtain ⟨r', e, rfl⟩ := ru
  cases e
  refine at_sound (k := fun x => x = .int (p.1 : Int)) s rfl fun y u tk' hk ru => ?_
  obtain ⟨t, rfl⟩ : ∃ t, u = .int (p.1 : Int) t := by subst hk; exact ru
  exact (sv _ _).1 _ _ _ he2 _ _ _ _ _ s fun z p' v h' tk' tA' rest'' hk s' hr' rv => onIE (P := fun v => C.wp (inplaceOp .Add (.int (p.1 : Int) t) v) (fun new s₄ => wpAny (model C.prog w) C.A (setAttr (.ref r.x) (PySem.Str.ofString "at") new) (fun _ s' => wpAny (model C.prog w) C.A (execs rest' C.env) (EndS C (some r) rest0 K kn) E0 s') E0 s₄) h' tk') hk rv fun i t' hk => hk.elim fun n' hk =>
    iadd_int (set_at s' (by rw [hk.1]) fun h3 tk3 s3 => ih _ _ hk.2 s3 fun q hq => hr' q (hr q hq))
theorem s_expr {e : PySem.Expr} {q : Pos} (he : evE R cs fs ms N lk 40 p e fun z p => guard (notRef z) (evS R cs fs ms N K n rest' lk p kn)) : Goal C R rest0 K rest' kn (.Expr e q) h tk :=
  wpAny_Expr ((sv _ _).1 _ _ _ he _ _ _ _ _ s fun x p v h' tk' tA' rest'' hk s' hr' rv => by
    have z := ih _ kn (guardE hk).2 (tk := tk') s' fun q hq => hr' q (hr q hq)
    have g := (guardE hk).1
    cases x <;> first | (cases g; done) | (obtain ⟨t, rfl⟩ := rv; exact z) | (obtain ⟨_, t, rfl⟩ := rv; exact z) | (cases rv; exact z)) (by show (cs.kind == .module && _) = false; rw [C.hk]; rfl) (swap_of he)
theorem s_tuple {es : List PySem.Expr} {xs : List PySem.Str} {kk : Nat} {q' q : Pos} {v : PySem.Expr} (hxs : namesOf es = some xs) (he : guard (allLocal cs xs) (match v with
            | .Tuple vs _ _ => (∀ cn L a ccd cl, swappedStores [.Tuple es kk q'] v (envX cn cs L a ccd cl) = pure (bif swp xs vs then some xs else none)) ∧
                guard (vs.all notStar && allLocal cs xs.reverse) (evA (evE R cs fs ms N lk 40) vs p fun zs p => guard (Nat.beq xs.length (zs.map unl).length && Nat.ble zs.length 20) (evS R cs fs ms N K n rest' (bif swp xs vs then (xs.reverse.zip (zs.map unl).reverse).reverse ++ lk else (xs.zip (zs.map unl)).reverse ++ lk) p kn))
            | v => evE R cs fs ms N lk 40 p v fun z p => onT z fun is => guard (Nat.beq xs.length is.length) (evS R cs fs ms N K n rest' ((xs.zip (is.map .int)).reverse ++ lk) p kn))) : Goal C R rest0 K rest' kn (.Assign [.Tuple es kk q'] v q) h tk := by
  have hl := (guardE he).1
  replace he := (guardE he).2
  have ev := (sv lk m).1
  cases hv : notTuple v with
  | true =>
    refine asg_plain (ih _ _) hxs s hr ev hl ?_ ?_
    · cases v <;> first | exact he | cases hv
    · cases v <;> first | rfl | cases hv
  | false =>
    cases v <;> first | (cases hv; done) | skip
    rename_i vs _ _
    have hw := he.1 C.cn C.L C.a C.ccd C.cl
    have g0 := (Bool.and_eq_true_iff.mp (guardE he.2).1)
    have he := (guardE he.2).2
    cases hx : swp xs vs with
    | true => rw [hx] at hw he; exact asg_swap (ih _ _) hxs s hr ev g0.2 g0.1 he hw
    | false => rw [hx] at hw he; exact asg_tup (ih _ _) hxs s hr ev hl g0.1 he hw
end
theorem st_sound0 (G : Glo w glT) (hd : C.dp + N < recursionLimit) (hu : C.un + 8 * N < cLine) : ∀ (n : Nat) (rest0 : Led) (body : List PySem.Stmt) (kn : Lk → PS → Prop), Nx C R rest0 K fs ms N n body kn := by
  have sv := fun lk m => (ev_sound (C := C) (R := R) (lk := lk) (m := m) (fs := fs) (ms := ms) G hd hu 40)
  intro n
  induction n with
  | zero => intro rest0 body kn lk p he; cases he
  | succ n ih2 =>
    intro rest0 body kn lk p he m tA rest h tk s hr
    have ih := ih2 rest0
    cases body with
    | nil => exact wpAny_execs_nil ⟨_, _, _, _, _, _, _, he, s, rfl, hr⟩
    | cons st rest' =>
      refine wpAny_execs_cons ?_
      cases st <;> try exact he.elim
      case Return v q =>
        cases v with
        | none => exact wpAny_Return_none ⟨_, _, _, _, _, _, _, _, he, s, rfl, hr, rfl⟩
        | some e => exact wpAny_Return_some ((sv _ _).1 _ _ _ he _ _ _ _ _ s fun x p v h' tk' tA' rest'' hk s' hr' rv => ⟨_, _, _, _, _, _, _, _, hk, s', rfl, fun q hq => hr' q (hr q hq), rv⟩)
      case Expr e q => exact s_expr ih s hr sv he
      case If t a b q => exact s_if ih s hr sv he
      case While t b o q =>
        obtain rfl := List.isEmpty_iff.mp (guardE he).1
        exact (guardE he).2.elim fun I hI => s_while ih s hr sv hI.1 hI.2
      case For t it b o q =>
        revert he
        refine fun he => nameXE (P := fun t => Goal C R rest0 K rest' kn (.For t it b o q) h tk) he fun x q1 he => nameXE (P := fun it => Goal C R rest0 K rest' kn (.For (.Name x q1) it b o q) h tk) he fun y q2 he => ?_
        obtain ⟨e1, e2⟩ := Bool.and_eq_true_iff.mp (guardE he).1
        obtain rfl := List.isEmpty_iff.mp e1
        exact s_for ih s hr sv ih2 G (local1 e2).1 (guardE he).2
      case AugAssign t op v q =>
        cases t <;> try exact he.elim
        case Attribute o nm q' => exact s_at ih s hr sv G he
        exact s_aug ih s hr sv (local1 (guardE he).1).1 (guardE he).2
      case Assign ts v q =>
        cases ts with
        | nil => exact he.elim
        | cons t ts =>
          obtain rfl := List.isEmpty_iff.mp (guardE he).1
          replace he := (guardE he).2
          cases t <;> try exact he.elim
          case Name x q' =>
            exact wpAny_Assign_Name ((sv _ _).1 _ _ _ (guardE he).2 _ _ _ _ _ s fun z p v h' tk' tA' rest'' hk s' hr' rv => store_sound s' (unl_rv rv) (local1 (guardE he).1).1 fun m' h2 tk2 s2 => ih _ _ hk s2 fun q hq => hr' q (hr q hq)) (swap_of (guardE he).2)
          case Attribute o nm q' => exact s_set ih s hr sv G he
          case Tuple es kk q' => exact onOE he fun xs hxs he => s_tuple ih s hr sv hxs he
theorem st_sound (G : Glo w glT) (hd : C.dp + N < recursionLimit) (hu : C.un + 8 * N < cLine) (n : Nat) (body : List PySem.Stmt) (kn : Lk → PS → Prop) : Nx C R rest0 K fs ms N n body kn := st_sound0 G hd hu n rest0 body kn
end
theorem Glo.nil {w : World} : Glo w [] := ⟨fun _ _ h => by cases h⟩
theorem Glo.cons {w : World} {x : PySem.Str} {p : PV} {r : List (PySem.Str × PV)} {v : Value} (e : nsIn (Mine.hd.heap_1 w.params) mainGlobals x = some (some v) ∨ (nsIn (Mine.hd.heap_1 w.params) mainGlobals x = some none ∧ bootBuiltins x = some v ∧ x ≠ PySem.Str.ofString "__name__")) (rv : ∀ R rest, RV R rest p v) (G : Glo w r) : Glo w ((x, p) :: r) := ⟨fun y q h => by
  rw [List.lookup_cons] at h
  cases hy : y == x with
  | true => rw [hy] at h; cases h; rw [eq_of_beq hy]; exact ⟨v, e, rv⟩
  | false => rw [hy] at h; exact G.ok _ _ h⟩
theorem glT_ok (w : World) : Glo w glT := by
  unfold glT
  refine Glo.cons (.inl (by k_is)) (fun _ _ => ⟨_, rfl⟩) ?_
  refine Glo.cons (.inl (by k_is)) (fun _ _ => ⟨_, rfl⟩) ?_
  refine Glo.cons (.inl (by k_is)) (fun _ _ => ⟨_, rfl⟩) ?_
  refine Glo.cons (.inl (by k_is)) (fun _ _ => ⟨_, rfl⟩) ?_
  refine Glo.cons (.inl (by k_is)) (fun _ _ => ⟨_, rfl⟩) ?_
  refine Glo.cons (.inl (by k_is)) (fun _ _ => ⟨_, rfl⟩) ?_
  refine Glo.cons (.inl (by k_is)) (fun _ _ => ⟨_, rfl⟩) ?_
  refine Glo.cons (.inl (by k_is)) (fun _ _ => ⟨_, rfl⟩) ?_
  refine Glo.cons (.inl (by k_is)) (fun _ _ => rfl) ?_
  refine Glo.cons (.inl (by k_is)) (fun _ _ => rfl) ?_
  refine Glo.cons (.inl (by k_is)) (fun _ _ => rfl) ?_
  refine Glo.cons (.inl (by k_is)) (fun _ _ => rfl) ?_
  refine Glo.cons (.inl (by k_is)) (fun _ _ => rfl) ?_
  refine Glo.cons (.inl (by k_is)) (fun _ _ => rfl) ?_
  refine Glo.cons (.inl (by k_is)) (fun _ _ => rfl) ?_
  refine Glo.cons (.inl (by k_is)) (fun _ _ => rfl) ?_
  refine Glo.cons (.inl (by k_is)) (fun _ _ => rfl) ?_
  refine Glo.cons (.inl (by k_is)) (fun _ _ => rfl) ?_
  refine Glo.cons (.inl (by k_is)) (fun _ _ => rfl) ?_
  refine Glo.cons (.inl (by k_is)) (fun _ _ => rfl) ?_
  refine Glo.cons (.inl (by k_is)) (fun _ _ => rfl) ?_
  refine Glo.cons (.inl (by k_is)) (fun _ _ => rfl) ?_
  refine Glo.cons (.inl (by k_is)) (fun _ _ => rfl) ?_
  refine Glo.cons (.inl (by k_is)) (fun _ _ => rfl) ?_
  refine Glo.cons (.inl (by k_is)) (fun _ _ => rfl) ?_
  refine Glo.cons (.inl (by k_is)) (fun _ _ => rfl) ?_
  refine Glo.cons (.inl (by k_is)) (fun _ _ => rfl) ?_
  refine Glo.cons (.inl (by k_is)) (fun _ _ => rfl) ?_
  refine Glo.cons (.inl (by k_is)) (fun _ _ => rfl) ?_
  refine Glo.cons (.inl (by k_is)) (fun _ _ => rfl) ?_
  refine Glo.cons (.inl (by k_is)) (fun _ _ => rfl) ?_
  refine Glo.cons (.inl (by k_is)) (fun _ _ => rfl) ?_
  refine Glo.cons (.inl (by k_is)) (fun _ _ => rfl) ?_
  refine Glo.cons (.inl (by k_is)) (fun _ _ => rfl) ?_
  refine Glo.cons (.inl (by k_is)) (fun _ _ => rfl) ?_
  refine Glo.cons (.inl (by k_is)) (fun _ _ => rfl) ?_
  refine Glo.cons (.inl (by k_is)) (fun _ _ => rfl) ?_
  refine Glo.cons (.inl (by k_is)) (fun _ _ => rfl) ?_
  refine Glo.cons (.inl (by k_is)) (fun _ _ => rfl) ?_
  refine Glo.cons (.inl (by k_is)) (fun _ _ => rfl) ?_
  refine Glo.cons (.inl (by k_is)) (fun _ _ => rfl) ?_
  refine Glo.cons (.inl (by k_is)) (fun _ _ => rfl) ?_
  refine Glo.cons (.inl (by k_is)) (fun _ _ => rfl) ?_
  refine Glo.cons (.inl (by k_is)) (fun _ _ => rfl) ?_
  refine Glo.cons (.inl (by k_is)) (fun _ _ => rfl) ?_
  refine Glo.cons (.inl (by k_is)) (fun _ _ => rfl) ?_
  refine Glo.cons (.inl (by k_is)) (fun _ _ => rfl) ?_
  refine Glo.cons (.inl (by k_is)) (fun _ _ => rfl) ?_
  refine Glo.cons (.inl (by k_is)) (fun _ _ => rfl) ?_
  refine Glo.cons (.inl (by k_is)) (fun _ _ => rfl) ?_
  refine Glo.cons (.inl (by k_is)) (fun _ _ => rfl) ?_
  refine Glo.cons (.inl (by k_is)) (fun _ _ => rfl) ?_
  refine Glo.cons (.inl (by k_is)) (fun _ _ => rfl) ?_
  refine Glo.cons (.inl (by k_is)) (fun _ _ => rfl) ?_
  refine Glo.cons (.inl (by k_is)) (fun _ _ => rfl) ?_
  refine Glo.cons (.inl (by k_is)) (fun _ _ => rfl) ?_
  refine Glo.cons (.inl (by k_is)) (fun _ _ => rfl) ?_
  refine Glo.cons (.inl (by k_is)) (fun _ _ => rfl) ?_
  refine Glo.cons (.inl (by k_is)) (fun _ _ => rfl) ?_
  refine Glo.cons (.inl (by k_is)) (fun _ _ => rfl) ?_
  refine Glo.cons (.inl (by k_is)) (fun _ _ => rfl) ?_
  refine Glo.cons (.inl (by k_is)) (fun _ _ => rfl) ?_
  refine Glo.cons (.inl (by k_is)) (fun _ _ => ⟨by decide +kernel, _, by rw [S_of]⟩) ?_
  refine Glo.cons (.inl (by k_is)) (fun _ _ => ⟨by decide +kernel, _, by rw [S_of]⟩) ?_
  refine Glo.cons (.inl (by k_is)) (fun _ _ => ⟨by decide +kernel, _, by rw [S_of]⟩) ?_
  refine Glo.cons (.inl (by k_is)) (fun _ _ => ⟨by decide +kernel, _, by rw [S_of]⟩) ?_
  refine Glo.cons (.inl (by k_is)) (fun _ _ => ⟨by decide +kernel, _, by rw [S_of]⟩) ?_
  refine Glo.cons (.inl (by k_is)) (fun _ _ => ⟨by decide +kernel, _, by rw [S_of]⟩) ?_
  refine Glo.cons (.inl (by k_is)) (fun _ _ => ⟨by decide +kernel, _, by rw [S_of]⟩) ?_
  refine Glo.cons (.inl (by k_is)) (fun _ _ => ⟨by decide +kernel, _, by rw [S_of]⟩) ?_
  refine Glo.cons (.inr ⟨by k_is, by boot_fast, by decide⟩) (fun _ _ => rfl) ?_
  refine Glo.cons (.inr ⟨by k_is, by boot_fast, by decide⟩) (fun _ _ => rfl) ?_
  refine Glo.cons (.inr ⟨by k_is, by boot_fast, by decide⟩) (fun _ _ => rfl) ?_
  refine Glo.cons (.inr ⟨by k_is, by boot_fast, by decide⟩) (fun _ _ => rfl) ?_
  refine Glo.cons (.inr ⟨by k_is, by boot_fast, by decide⟩) (fun _ _ => rfl) ?_
  refine Glo.cons (.inr ⟨by k_is, by boot_fast, by decide⟩) (fun _ _ => rfl) ?_
  exact Glo.nil
section
variable {w : World} {f : Addr} {n N : Nat} {vs : List Value} {news : Led} {pre : Prop} {Ok : Value → Led → Prop} {name qual : PySem.Str} {params : Arguments} {body : List PySem.Stmt} {scope : PySem.Scope} {dV kV doc pm cdv ct oc : Value} {an od : Option Addr} {osl : Array (Option Value)}
  {fs : List (FnSpec w)} {ms : List (MtSpec w)} {R : Option Rd} {rest0 : Led} {p0 : PS} {tA0 : Tok} {pvs : List PV} {K : PV → PS → Prop}
theorem lk_zip {rest : Led} : ∀ (names : List PySem.Str) (pvs : List PV) (vs : List Value), RVs R rest pvs vs → ∀ (a : List (PySem.Str × PV)) (b : List (PySem.Str × Value)), (∀ y q, a.lookup y = some q → ∃ v, b.lookup y = some v ∧ RV R rest q v) →
    ∀ y q, ((names.zip pvs).reverse ++ a).lookup y = some q → ∃ v, ((names.zip vs).reverse ++ b).lookup y = some v ∧ RV R rest q v
  | [], _, _, _, _, _, h => h
  | _ :: _, [], vs, r, a, b, h => by cases r; exact h
  | x :: names, p :: pvs, vs, r, a, b, h => by
    obtain ⟨v, vs', rfl, rv, r⟩ := r
    rw [List.zip_cons_cons, List.zip_cons_cons, List.reverse_cons, List.reverse_cons, List.append_assoc, List.append_assoc]
    refine lk_zip names pvs vs' r _ _ fun y q e => ?_
    rw [List.singleton_append, List.lookup_cons] at *
    cases hy : y == x with
    | true => rw [hy] at e; cases e; exact ⟨v, rfl, rv⟩
    | false => rw [hy] at e; exact h y q e
/-- a def whose body is proved by any road -/
theorem fn_wp (ho : (Mine.hd.heap_1 w.params).lookup f = some ⟨oc, od, .func (fnOf name qual params body scope dV kV doc pm an cdv ct), osl⟩) (hcd : codeIn (Mine.hd.heap_1 w.params) cdv qual = true) (names : List PySem.Str)
    (hb : bindArgs (fnOf name qual params body scope dV kV doc pm an cdv ct) ⟨vs, []⟩ = pure (names.zip vs)) (hlen : names.length = pvs.length) (hl : ((names.zip vs).all fun x => decide (scope.names.lookup x.1 = some .local)) = true)
    (hg : scope.isCoroutine = false ∧ scope.isGenerator = false ∧ scope.kind = .function ∧ (scope.names.all fun x => !(x.2 == .cell)) = true) (hn : Nat.blt N n = true)
    (rv : RVs R rest0 pvs vs) (hN : ∀ q ∈ rdLed R p0 tA0 rest0, q ∈ news) (hR : pre → RdGood R rest0)
    (V : pre → ∀ (C : Cx w scope) (m : PySem.Str → Option Value) (h : Heap) (tk : Nat), C.dp + N < recursionLimit → C.un + 8 * N < cLine → Stt C R (names.zip pvs).reverse m p0 tA0 rest0 h → C.wp (execs body C.env) (EndS C R rest0 K fun _ p => K .none p) h tk)
    (hK : pre → ∀ x p v tA rest, K x p → (∀ q ∈ rest0, q ∈ rest) → RdGood R rest → RV R rest x v → ∃ news', (∀ q ∈ news', q ∈ rdLed R p tA rest) ∧ Ok v news') : Claim w f n vs news pre Ok := by
  refine ⟨fun hpre prog p₀ loose mean mg mb dp un gd cn cs a ccd cl outer A₀ base h₀ L m h gs dr tk os Q E B F X N' T hk hdp hun hret => ?_⟩
  have hn := Nat.le_of_ble_eq_true hn
  refine wpAny_call (code_def B F X N' T rfl rfl hk ho hcd (show dp < _ by omega) (BindsTo.of_eq (binds := names.zip vs) hb) (locs hl) ?_ hg.1 hg.2.1 hg.2.2.1 ?_)
  · intro g L' h₁ FG F' N2 B' X' T'
    refine wpAny_mono (V hpre (Cx.mk prog p₀ loose mean mg mb (dp + 1) (un + 3) gd qual L' f cdv [] (envX cn cs L a ccd cl :: outer) _ base g gs dr os B' X' T' hg.2.2.1) _ h₁ _ (show dp + 1 + N < _ by omega) (show un + 3 + 8 * N < _ by omega)
      ⟨F', fun q hq => N2 q (hN q hq), hR hpre, fun y q e => ?_⟩) (fun fl s' hp => ?_) fun _ _ h => h.elim
    · have := lk_zip (R := R) (rest := rest0) names pvs vs rv [] [] (fun _ _ h => by cases h) y q (by rw [List.append_nil]; exact e)
      rw [List.append_nil] at this; exact this
    have fin : ∀ x p lk m₂ tA rest h tk v, K x p → Stt (Cx.mk prog p₀ loose mean mg mb (dp + 1) (un + 3) gd qual L' f cdv [] (envX cn cs L a ccd cl :: outer) _ base g gs dr os B' X' T' hg.2.2.1) R lk m₂ p tA rest h → (∀ q ∈ rest0, q ∈ rest) → RV R rest x v →
        LeaveK h₀ L m g (fun r s' => match r with | .ok (.ret v) => Q v s' | .ok _ => False | .error e => E e s') v ⟨h, gs, dr, tk, os⟩ := fun x p lk m₂ tA rest h tk v hx s hr r => by
      obtain ⟨news', n1, ok⟩ := hK hpre x p _ tA rest hx hr s.G r
      exact leaveK_ s.F (fun q hq => s.N q (n1 q hq)) fun F3 N3 => hret _ news' _ tk F3 N3 ok
    cases fl with
    | next => obtain ⟨lk, m, p, tA, rest, h, tk, hk, s, rfl, hr⟩ := hp; exact fin _ _ _ _ _ _ _ _ _ hk s hr rfl
    | ret v => obtain ⟨x, p, lk, m, tA, rest, h, tk, hk, s, rfl, hr, rv⟩ := hp; exact fin _ _ _ _ _ _ _ _ _ hk s hr rv
    | brk => exact hp.elim
    | cont => exact hp.elim
  · intro x hx e
    have := List.all_eq_true.mp hg.2.2.2 x hx
    rw [e] at this
    cases this
theorem fn_any (ho : (Mine.hd.heap_1 w.params).lookup f = some ⟨oc, od, .func (fnOf name qual params body scope dV kV doc pm an cdv ct), osl⟩) (hcd : codeIn (Mine.hd.heap_1 w.params) cdv qual = true) (names : List PySem.Str)
    (hb : bindArgs (fnOf name qual params body scope dV kV doc pm an cdv ct) ⟨vs, []⟩ = pure (names.zip vs)) (hlen : names.length = pvs.length) (hl : ((names.zip vs).all fun x => decide (scope.names.lookup x.1 = some .local)) = true)
    (hg : scope.isCoroutine = false ∧ scope.isGenerator = false ∧ scope.kind = .function ∧ (scope.names.all fun x => !(x.2 == .cell)) = true) (hn : Nat.blt N n = true) (G : Glo w glT)
    (rv : RVs R rest0 pvs vs) (hN : ∀ q ∈ rdLed R p0 tA0 rest0, q ∈ news) (hR : pre → RdGood R rest0)
    (V : pre → evS R scope fs ms N K 60 body (names.zip pvs).reverse p0 fun _ p => K .none p)
    (hK : pre → ∀ x p v tA rest, K x p → (∀ q ∈ rest0, q ∈ rest) → RdGood R rest → RV R rest x v → ∃ news', (∀ q ∈ news', q ∈ rdLed R p tA rest) ∧ Ok v news') : Claim w f n vs news pre Ok :=
  fn_wp ho hcd names hb hlen hl hg hn rv hN hR (fun hp C m h tk hd hu s => st_sound (rest0 := rest0) G hd hu 60 body _ (V hp) s fun _ h => h) hK
end
section
variable {R : Option Rd} {rest : Led} {ps : List PV} {vs : List Value}
theorem RVs.nil : RVs R rest [] [] := rfl
theorem RVs.cI {i : Int} {t : Tok} (h : RVs R rest ps vs) : RVs R rest (.int i :: ps) (.int i t :: vs) := ⟨_, _, rfl, ⟨_, rfl⟩, h⟩
theorem RVs.cB {b : Bool} (h : RVs R rest ps vs) : RVs R rest (.bool b :: ps) (.bool b :: vs) := ⟨_, _, rfl, rfl, h⟩
theorem RVs.cN (h : RVs R rest ps vs) : RVs R rest (.none :: ps) (.none :: vs) := ⟨_, _, rfl, rfl, h⟩
theorem RVs.cT {x : Addr} {ws : List Value} {xs : List Int} (hm : (x, tupO ws) ∈ rest) (hi : IntsAre ws xs) (h : RVs R rest ps vs) : RVs R rest (.tup xs :: ps) (.ref x :: vs) := ⟨_, _, rfl, ⟨_, _, rfl, hm, hi⟩, h⟩
end
noncomputable def OkV (pv : PV) (news : Led) (r : Value) (news' : Led) : Prop := (∀ q ∈ news, q ∈ news') ∧ RV none news' pv r
theorem RV.any {R : Option Rd} {rest : Led} {pv : PV} {v : Value} (h : RV none rest pv v) : RV R rest pv v := by
  cases pv <;> first | exact h | (obtain ⟨r, e, _⟩ := h; cases e)
section
variable {w : World} {f : Addr} {n N : Nat} {vs : List Value} {news : Led} {pre : Prop} {name qual : PySem.Str} {params : Arguments} {body : List PySem.Stmt} {scope : PySem.Scope} {dV kV doc pm cdv ct oc : Value} {an od : Option Addr} {osl : Array (Option Value)}
  {fs : List (FnSpec w)} {pvs : List PV}
theorem fn_V {K : PV → PS → Prop} {y : PV} (hK : ∀ R rest x p v, K x p → RV R rest x v → RV none rest y v) (ho : (Mine.hd.heap_1 w.params).lookup f = some ⟨oc, od, .func (fnOf name qual params body scope dV kV doc pm an cdv ct), osl⟩) (hcd : codeIn (Mine.hd.heap_1 w.params) cdv qual = true)
    (rv : RVs none news pvs vs) (hn : Nat.blt N n = true) (hb : bindArgs (fnOf name qual params body scope dV kV doc pm an cdv ct) ⟨vs, []⟩ = pure ((params.args.map (·.arg)).zip vs)) (hlen : (params.args.map (·.arg)).length = pvs.length) (hl : (((params.args.map (·.arg)).zip vs).all fun x => decide (scope.names.lookup x.1 = some .local)) = true)
    (hg : scope.isCoroutine = false ∧ scope.isGenerator = false ∧ scope.kind = .function ∧ (scope.names.all fun x => !(x.2 == .cell)) = true)
    (V : pre → evS none scope fs [] N K 60 body ((params.args.map (·.arg)).zip pvs).reverse (0, false) fun _ p => K .none p) : Claim w f n vs news pre (OkV y news) :=
  fn_any (R := none) (rest0 := news) (tA0 := 0) ho hcd _ hb hlen hl hg hn (glT_ok w) rv (fun _ h => h) (fun _ => trivial) V fun _ x p v _ rest hx hr _ r => ⟨rest, fun _ h => h, hr, hK _ _ _ _ _ hx r⟩
theorem fn_O {o : Option Int} (ho : (Mine.hd.heap_1 w.params).lookup f = some ⟨oc, od, .func (fnOf name qual params body scope dV kV doc pm an cdv ct), osl⟩) (hcd : codeIn (Mine.hd.heap_1 w.params) cdv qual = true)
    (rv : RVs none news pvs vs) (hn : Nat.blt N n = true) (hb : bindArgs (fnOf name qual params body scope dV kV doc pm an cdv ct) ⟨vs, []⟩ = pure ((params.args.map (·.arg)).zip vs)) (hlen : (params.args.map (·.arg)).length = pvs.length) (hl : (((params.args.map (·.arg)).zip vs).all fun x => decide (scope.names.lookup x.1 = some .local)) = true)
    (hg : scope.isCoroutine = false ∧ scope.isGenerator = false ∧ scope.kind = .function ∧ (scope.names.all fun x => !(x.2 == .cell)) = true)
    (V : pre → evS none scope fs [] N (fun x _ => (x = .none ∧ o = none) ∨ ∃ i, x = .int i ∧ o = some i) 60 body ((params.args.map (·.arg)).zip pvs).reverse (0, false) fun _ _ => o = none) : Claim w f n vs news pre (OkN o news) :=
  fn_any (R := none) (rest0 := news) (tA0 := 0) ho hcd _ hb hlen hl hg hn (glT_ok w) rv (fun _ h => h) (fun _ => trivial) (fun h => cast (congrArg _ (funext fun _ => funext fun _ => propext ⟨fun h => .inl ⟨rfl, h⟩, fun h => h.elim (fun h => h.2) fun h => h.elim fun _ h => by cases h.1⟩)) (V h)) fun _ x p v _ rest hx hr _ r => ⟨rest, fun _ h => h, hr, by
    rcases hx with ⟨rfl, rfl⟩ | ⟨i, rfl, rfl⟩ <;> exact r⟩
theorem kI {y : Int} : ∀ (R : Option Rd) (rest : Led) (x : PV) (p : PS) (v : Value), (onI x fun i => i = y) → RV R rest x v → RV none rest (.int y) v := fun R rest x p v h r => onIE (P := fun v => RV none rest (.int y) v) h r fun i t e => ⟨t, by rw [e]⟩
theorem kB {y : Bool} : ∀ (R : Option Rd) (rest : Led) (x : PV) (p : PS) (v : Value), (onB x fun i => i = y) → RV R rest x v → RV none rest (.bool y) v := fun R rest x p v h r => onBE (P := fun v => RV none rest (.bool y) v) h r fun i e => by rw [e]; rfl
theorem kS {l : List Nat} {b : Nat} : ∀ (R : Option Rd) (rest : Led) (x : PV) (p : PS) (v : Value), (onS x fun i c => i = l ∧ i.length ≤ b) → RV R rest x v → RV none rest (.str l b) v := fun R rest x p v h r => onSE (P := fun v => RV none rest (.str l b) v) h r fun i c t e _ => ⟨e.1 ▸ e.2, t, by rw [e.1]⟩
theorem kT {l : List Int} : ∀ (R : Option Rd) (rest : Led) (x : PV) (p : PS) (v : Value), (onT x fun i => i = l) → RV R rest x v → RV none rest (.tup l) v := fun R rest x p v h r => onTE (P := fun v => RV none rest (.tup l) v) h r fun i a vs e hm hi => ⟨a, vs, rfl, hm, e ▸ hi⟩
end
section
variable {w : World} {f : Addr} {n : Nat}
theorem sound_V {vs : List Value} {pv : PV} {k : PV → Prop} {R : Option Rd} {P : Prop} {news : Led} (hp : P) (C : Claim w f n vs news P (OkV pv news)) (hk : k pv) :
    ∃ n1 : Led, (∀ q ∈ n1, q ∈ news) ∧ Claim w f n vs n1 True (fun r news' => (∀ q ∈ news, q ∈ news') ∧ ∃ pv, k pv ∧ RV R news' pv r) :=
  ⟨news, fun _ h => h, ⟨fun _ prog p loose mean mg mb dp un gd cn cs a ccd cl outer A₀ base h₀ L m h gs dr tk os Q E B F X N T hk' hd hu ret => C.use B F X N T hp hk' hd hu fun r news' h' tk' F' N' ok => ret r news' h' tk' F' N' ⟨ok.1, pv, hk, ok.2.any⟩⟩⟩
noncomputable def onc (xs : List PV) (k : PV → List PV → Prop) : Prop := match xs with
  | x :: r => k x r
  | [] => False
theorem oncE {P : Prop} {R : Option Rd} {rest : Led} {xs : List PV} {vs : List Value} {k : PV → List PV → Prop} (h : onc xs k) (r : RVs R rest xs vs) (f : ∀ x xs v vs', k x xs → RV R rest x v → RVs R rest xs vs' → vs = v :: vs' → P) : P := by
  cases xs with
  | nil => exact h.elim
  | cons x xs => obtain ⟨v, r, rfl, rv, rs⟩ := r; exact f _ _ _ _ h rv rs rfl
noncomputable abbrev Snd (w : World) (f : Addr) (n : Nat) (news : Led) (R : Option Rd) (k : PV → Prop) (vs : List Value) : Prop := ∃ n1 : Led, (∀ q ∈ n1, q ∈ news) ∧ Claim w f n vs n1 True (fun r news' => (∀ q ∈ news, q ∈ news') ∧ ∃ pv, k pv ∧ RV R news' pv r)
noncomputable def mk1 (f : Addr) (n : Nat) (g : Int → PV) (keep : keepIn (Mine.hd.heap_1 w.params) (.ref f) = true) (C : ∀ i t news, Claim w f n [.int i t] news True (OkV (g i) news)) : FnSpec w where
  f := f
  n := n
  sp xs k := on1 xs fun x => onI x fun i => k (g i)
  keep := keep
  sound {R rest pvs vs k} rv h news hn := on1E h rv fun x v h rv e => e ▸ onIE (P := fun v => Snd w f n news R k [v]) h rv fun i t hk => sound_V trivial (C i t news) hk
noncomputable def mk1P (f : Addr) (n : Nat) (P : Int → Prop) (g : Int → PV) (keep : keepIn (Mine.hd.heap_1 w.params) (.ref f) = true) (C : ∀ i t news, Claim w f n [.int i t] news (P i) (OkV (g i) news)) : FnSpec w where
  f := f
  n := n
  sp xs k := on1 xs fun x => onI x fun i => P i ∧ k (g i)
  keep := keep
  sound {R rest pvs vs k} rv h news hn := on1E h rv fun x v h rv e => e ▸ onIE (P := fun v => Snd w f n news R k [v]) h rv fun i t hk => sound_V hk.1 (C i t news) hk.2
noncomputable def mkO (f : Addr) (n : Nat) (g : Int → Option Int) (keep : keepIn (Mine.hd.heap_1 w.params) (.ref f) = true) (C : ∀ i t news, Claim w f n [.int i t] news True (OkN (g i) news)) : FnSpec w where
  f := f
  n := n
  sp xs k := on1 xs fun x => onI x fun i => (g i = none → k .none) ∧ ∀ j, g i = some j → k (.int j)
  keep := keep
  sound {R rest pvs vs k} rv h news hn := on1E h rv fun x v h rv e => e ▸ onIE (P := fun v => Snd w f n news R k [v]) h rv fun i t hk => by
    cases hg : g i with
    | none => have c := C i t news; rw [hg] at c; exact sound_V (pv := .none) trivial c (hk.1 hg)
    | some j => have c := C i t news; rw [hg] at c; exact sound_V (pv := .int j) trivial c (hk.2 j hg)
noncomputable def mk2 (f : Addr) (n : Nat) (P : Int → Int → Prop) (g : Int → Int → PV) (keep : keepIn (Mine.hd.heap_1 w.params) (.ref f) = true) (C : ∀ i j t u news, Claim w f n [.int i t, .int j u] news (P i j) (OkV (g i j) news)) : FnSpec w where
  f := f
  n := n
  sp xs k := onc xs fun x xs => on1 xs fun y => onI x fun i => onI y fun j => P i j ∧ k (g i j)
  keep := keep
  sound {R rest pvs vs k} rv h news hn := oncE h rv fun x xs v vs' h rx rs e => on1E h rs fun y u h ry e' => e ▸ e' ▸ onIE (P := fun v => Snd w f n news R k [v, u]) h rx fun i t h => onIE (P := fun u => Snd w f n news R k [.int i t, u]) h ry fun j t' hk => sound_V hk.1 (C i j t t' news) hk.2
noncomputable def mkIB (f : Addr) (n : Nat) (P : Int → Bool → Prop) (g : Int → Bool → PV) (keep : keepIn (Mine.hd.heap_1 w.params) (.ref f) = true) (C : ∀ i b t news, Claim w f n [.int i t, .bool b] news (P i b) (OkV (g i b) news)) : FnSpec w where
  f := f
  n := n
  sp xs k := onc xs fun x xs => on1 xs fun y => onI x fun i => onB y fun j => P i j ∧ k (g i j)
  keep := keep
  sound {R rest pvs vs k} rv h news hn := oncE h rv fun x xs v vs' h rx rs e => on1E h rs fun y u h ry e' => e ▸ e' ▸ onIE (P := fun v => Snd w f n news R k [v, u]) h rx fun i t h => onBE (P := fun u => Snd w f n news R k [.int i t, u]) h ry fun j hk => sound_V hk.1 (C i j t news) hk.2
noncomputable def mk3 (f : Addr) (n : Nat) (P : Int → Int → Int → Prop) (g : Int → Int → Int → PV) (keep : keepIn (Mine.hd.heap_1 w.params) (.ref f) = true) (C : ∀ i j l t u s news, Claim w f n [.int i t, .int j u, .int l s] news (P i j l) (OkV (g i j l) news)) : FnSpec w where
  f := f
  n := n
  sp xs k := onc xs fun x xs => onc xs fun y xs => on1 xs fun z => onI x fun i => onI y fun j => onI z fun l => P i j l ∧ k (g i j l)
  keep := keep
  sound {R rest pvs vs k} rv h news hn := oncE h rv fun x xs v vs' h rx rs e => oncE h rs fun y xs u vs' h ry rs e' => on1E h rs fun z s h rz e2 => e ▸ e' ▸ e2 ▸ onIE (P := fun v => Snd w f n news R k [v, u, s]) h rx fun i t h => onIE (P := fun u => Snd w f n news R k [.int i t, u, s]) h ry fun j t' h => onIE (P := fun s => Snd w f n news R k [.int i t, .int j t', s]) h rz fun l t2 hk => sound_V hk.1 (C i j l t t' t2 news) hk.2
noncomputable def mk4 (f : Addr) (n : Nat) (g : Int → Int → Int → Int → PV) (keep : keepIn (Mine.hd.heap_1 w.params) (.ref f) = true) (C : ∀ i j l a t u s r news, Claim w f n [.int i t, .int j u, .int l s, .int a r] news True (OkV (g i j l a) news)) : FnSpec w where
  f := f
  n := n
  sp xs k := onc xs fun x xs => onc xs fun y xs => onc xs fun z xs => on1 xs fun a => onI x fun i => onI y fun j => onI z fun l => onI a fun a => k (g i j l a)
  keep := keep
  sound {R rest pvs vs k} rv h news hn := oncE h rv fun x xs v vs' h rx rs e => oncE h rs fun y xs u vs' h ry rs e' => oncE h rs fun z xs s vs' h rz rs e2 => on1E h rs fun a b h ra e3 => e ▸ e' ▸ e2 ▸ e3 ▸ onIE (P := fun v => Snd w f n news R k [v, u, s, b]) h rx fun i t h => onIE (P := fun u => Snd w f n news R k [.int i t, u, s, b]) h ry fun j t' h => onIE (P := fun s => Snd w f n news R k [.int i t, .int j t', s, b]) h rz fun l t2 h => onIE (P := fun b => Snd w f n news R k [.int i t, .int j t', .int l t2, b]) h ra fun a t3 hk => sound_V trivial (C i j l a t t' t2 t3 news) hk
noncomputable def mkT (f : Addr) (n : Nat) (g : List Int → (PV → Prop) → Prop) (keep : keepIn (Mine.hd.heap_1 w.params) (.ref f) = true) (C : ∀ xs k, g xs k → ∃ pv, k pv ∧ ∀ x vs news, IntsAre vs xs → Claim w f n [.ref x] ((x, tupO vs) :: news) True (OkV pv ((x, tupO vs) :: news))) : FnSpec w where
  f := f
  n := n
  sp xs k := on1 xs fun x => onT x fun is => g is k
  keep := keep
  sound {R rest pvs vs k} rv h news hn := on1E h rv fun x v h rv e => e ▸ onTE (P := fun v => Snd w f n news R k [v]) h rv fun is a vs h hm hi => (C is k h).elim fun pv c =>
    ⟨(a, tupO vs) :: news, fun q hq => (List.mem_cons.mp hq).elim (fun e => e ▸ hn _ hm) id, ⟨fun _ prog p loose mean mg mb dp un gd cn cs b ccd cl outer A₀ base h₀ L m h gs dr tk os Q E B F X N T hk' hd hu ret => (c.2 a vs news hi).use B F X N T trivial hk' hd hu fun r news' h' tk' F' N' ok => ret r news' h' tk' F' N' ⟨fun q hq => ok.1 q (.tail _ hq), pv, c.1, ok.2.any⟩⟩⟩
end
/-- what a method of the reader gives back -/
noncomputable def OkM (r : Rd) (rest : Led) (pv : PV) (p : PS) (v : Value) (news' : Led) : Prop := ∃ tA' rest', rdLed (some r) p tA' rest' = news' ∧ (∀ q ∈ rest, q ∈ rest') ∧ RdGood (some r) rest' ∧ RV (some r) rest' pv v
section
variable {w : World} {f : Addr} {n N : Nat} {vs : List Value} {r : Rd} {rest : Led} {p : PS} {tA : Tok} {pre : Prop} {name qual : PySem.Str} {params : Arguments} {body : List PySem.Stmt} {scope : PySem.Scope} {dV kV doc pm cdv ct oc : Value} {an od : Option Addr} {osl : Array (Option Value)}
  {fs : List (FnSpec w)} {ms : List (MtSpec w)} {pvs : List PV}
theorem fn_M {K : PV → Prop} {y : PV} {q : PS} (hK : ∀ R rest x (p : PS) v, K x → RV R rest x v → RV none rest y v) (ho : (Mine.hd.heap_1 w.params).lookup f = some ⟨oc, od, .func (fnOf name qual params body scope dV kV doc pm an cdv ct), osl⟩) (hcd : codeIn (Mine.hd.heap_1 w.params) cdv qual = true)
    (rv : RVs (some r) rest pvs vs) (hn : Nat.blt N n = true) (hb : bindArgs (fnOf name qual params body scope dV kV doc pm an cdv ct) ⟨.ref r.x :: vs, []⟩ = pure ((params.args.map (·.arg)).zip (.ref r.x :: vs))) (hlen : (params.args.map (·.arg)).length = (PV.rd :: pvs).length) (hl : (((params.args.map (·.arg)).zip (.ref r.x :: vs)).all fun x => decide (scope.names.lookup x.1 = some .local)) = true)
    (hg : scope.isCoroutine = false ∧ scope.isGenerator = false ∧ scope.kind = .function ∧ (scope.names.all fun x => !(x.2 == .cell)) = true)
    (V : r.l.length ≤ 1000 → pre → evS (some r) scope fs ms N (fun x p => K x ∧ p = q) 60 body ((params.args.map (·.arg)).zip (.rd :: pvs)).reverse p fun _ p => K .none ∧ p = q) : Claim w f n (.ref r.x :: vs) (rdLed (some r) p tA rest) (RdGood (some r) rest ∧ pre) (OkM r rest y q) :=
  fn_any (R := some r) (rest0 := rest) (p0 := p) (tA0 := tA) (pvs := .rd :: pvs) ho hcd _ hb hlen hl hg hn (glT_ok w) ⟨_, _, rfl, ⟨r, rfl, rfl⟩, rv⟩ (fun _ h => h) (fun h => h.1) (fun h => V h.1.2.2 h.2) fun _ x p v tA rest' hx hr g rv => ⟨_, fun _ h => h, tA, rest', by rw [hx.2], hr, g, (hK _ _ _ p _ hx.1 rv).any⟩
theorem kN : ∀ (R : Option Rd) (rest : Led) (x : PV) (p : PS) (v : Value), isNone x = true → RV R rest x v → RV none rest .none v := fun R rest x p v h r => by cases x <;> first | exact r | cases h
end
section
variable {w : World}
noncomputable def mkMt (nm : PySem.Str) (f : Addr) (n : Nat) (sp : List Nat → PS → List PV → (PV → PS → Prop) → Prop) (keep : keepIn (Mine.hd.heap_1 w.params) (.ref f) = true) (fn : isFn (Mine.hd.heap_1 w.params) (.ref f) = true) (plain : plainGet (Mine.hd.heap_1 w.params) 328 nm = true) (find : findIn (Mine.hd.heap_1 w.params) (.ref 328) nm = some (some (.ref f)))
    (own : ∀ (r : Rd) (p : PS) (tA : Tok), getL nm (rdEs r p tA) = some none) (C : ∀ r rest p xs vs k, RVs (some r) rest xs vs → sp r.l p xs k → ∃ pv p' pre, k pv p' ∧ pre ∧ ∀ tA, Claim w f n (.ref r.x :: vs) (rdLed (some r) p tA rest) (RdGood (some r) rest ∧ pre) (OkM r rest pv p')) : MtSpec w where
  nm := nm
  f := f
  n := n
  sp := sp
  keep := keep
  fn := fn
  plain := plain
  find := find
  own := own
  sound {r rest p pvs vs k} rv h tA := (C r rest p pvs vs k rv h).elim fun pv c => c.elim fun p' c => c.elim fun pre c =>
    ⟨fun hg prog p loose mean mg mb dp un gd cn cs b ccd cl outer A₀ base h₀ L m h gs dr tk os Q E B F X N T hk' hd hu ret => (c.2.2 tA).use B F X N T ⟨hg, c.2.1⟩ hk' hd hu fun v news' h' tk' F' N' ok => ret v news' h' tk' F' N' (by
      obtain ⟨tA', rest', e, a, b, r⟩ := ok; exact ⟨pv, p', tA', rest', c.1, e, a, b, r⟩)⟩
end
noncomputable def leapB (y : Int) : Bool := decide (y % 4 = 0) && (decide (y % 100 ≠ 0) || decide (y % 400 = 0))
noncomputable def dfy (y : Int) : Int := 365 * (y - 1970) + (y - 1969) / 4 - (y - 1901) / 100 + (y - 1601) / 400
theorem fd1 (t : Int) {k : Nat} : t.fdiv ((k : Nat) : Int) = t / ((k : Nat) : Int) := Int.fdiv_eq_ediv_of_nonneg _ (Int.natCast_nonneg _)
theorem fm1 (t : Int) {k : Nat} : t.fmod ((k : Nat) : Int) = t % ((k : Nat) : Int) := Int.fmod_eq_emod_of_nonneg _ (Int.natCast_nonneg _)
theorem c_day_of (w : World) (t : Int) (tk : Tok) (news : Led) : Claim w 22 1 [.int t tk] news True (OkV (.int (t / 86400000)) news) :=
  fn_V (N := 0) (fs := []) kI (by k_is) (by k_is) (.cI .nil) rfl (by exact rfl) (by exact rfl) (by exact rfl) (by exact ⟨rfl, rfl, rfl, rfl⟩) (by intro hp; exact fd1 _)
noncomputable def s22 (w : World) : FnSpec w := mk1 22 1 (fun t => .int (t / 86400000)) (by k_is) (c_day_of w)
theorem c_time_in_day (w : World) (t : Int) (tk : Tok) (news : Led) : Claim w 29 1 [.int t tk] news True (OkV (.int (t % 86400000)) news) :=
  fn_V (N := 0) (fs := []) kI (by k_is) (by k_is) (.cI .nil) rfl (by exact rfl) (by exact rfl) (by exact rfl) (by exact ⟨rfl, rfl, rfl, rfl⟩) (by intro hp; exact fm1 _)
noncomputable def s29 (w : World) : FnSpec w := mk1 29 1 (fun t => .int (t % 86400000)) (by k_is) (c_time_in_day w)
theorem c_day_from_year (w : World) (t : Int) (tk : Tok) (news : Led) : Claim w 43 1 [.int t tk] news True (OkV (.int (dfy t)) news) :=
  fn_V (N := 0) (fs := []) kI (by k_is) (by k_is) (.cI .nil) rfl (by exact rfl) (by exact rfl) (by exact rfl) (by exact ⟨rfl, rfl, rfl, rfl⟩) (by intro hp; show 365 * (t - 1970) + (t - 1969).fdiv 4 - (t - 1901).fdiv 100 + (t - 1601).fdiv 400 = dfy t; rw [show (t - 1969).fdiv 4 = (t - 1969) / 4 from fd1 _, show (t - 1901).fdiv 100 = (t - 1901) / 100 from fd1 _, show (t - 1601).fdiv 400 = (t - 1601) / 400 from fd1 _]; rfl)
noncomputable def s43 (w : World) : FnSpec w := mk1 43 1 (fun t => .int (dfy t)) (by k_is) (c_day_from_year w)
theorem c_week_day_of (w : World) (t : Int) (tk : Tok) (news : Led) : Claim w 99 2 [.int t tk] news True (OkV (.int ((t / 86400000 + 4) % 7)) news) :=
  fn_V (N := 1) (fs := [s22 w]) kI (by k_is) (by k_is) (.cI .nil) rfl (by exact rfl) (by exact rfl) (by exact rfl) (by exact ⟨rfl, rfl, rfl, rfl⟩) (by intro hp; exact fm1 _)
noncomputable def s99 (w : World) : FnSpec w := mk1 99 2 (fun t => .int ((t / 86400000 + 4) % 7)) (by k_is) (c_week_day_of w)
theorem c_hour_of (w : World) (t : Int) (tk : Tok) (news : Led) : Claim w 106 2 [.int t tk] news True (OkV (.int (t % 86400000 / 3600000)) news) :=
  fn_V (N := 1) (fs := [s29 w]) kI (by k_is) (by k_is) (.cI .nil) rfl (by exact rfl) (by exact rfl) (by exact rfl) (by exact ⟨rfl, rfl, rfl, rfl⟩) (by intro hp; exact fd1 _)
noncomputable def s106 (w : World) : FnSpec w := mk1 106 2 (fun t => .int (t % 86400000 / 3600000)) (by k_is) (c_hour_of w)
theorem c_minute_of (w : World) (t : Int) (tk : Tok) (news : Led) : Claim w 113 2 [.int t tk] news True (OkV (.int (t % 86400000 / 60000 % 60)) news) :=
  fn_V (N := 1) (fs := [s29 w]) kI (by k_is) (by k_is) (.cI .nil) rfl (by exact rfl) (by exact rfl) (by exact rfl) (by exact ⟨rfl, rfl, rfl, rfl⟩) (by intro hp; show ((t % 86400000).fdiv 60000).fmod 60 = _; rw [show (t % 86400000).fdiv 60000 = t % 86400000 / 60000 from fd1 _]; exact fm1 _)
noncomputable def s113 (w : World) : FnSpec w := mk1 113 2 (fun t => .int (t % 86400000 / 60000 % 60)) (by k_is) (c_minute_of w)
theorem c_second_of (w : World) (t : Int) (tk : Tok) (news : Led) : Claim w 120 2 [.int t tk] news True (OkV (.int (t % 86400000 / 1000 % 60)) news) :=
  fn_V (N := 1) (fs := [s29 w]) kI (by k_is) (by k_is) (.cI .nil) rfl (by exact rfl) (by exact rfl) (by exact rfl) (by exact ⟨rfl, rfl, rfl, rfl⟩) (by intro hp; show ((t % 86400000).fdiv 1000).fmod 60 = _; rw [show (t % 86400000).fdiv 1000 = t % 86400000 / 1000 from fd1 _]; exact fm1 _)
noncomputable def s120 (w : World) : FnSpec w := mk1 120 2 (fun t => .int (t % 86400000 / 1000 % 60)) (by k_is) (c_second_of w)
theorem c_ms_of (w : World) (t : Int) (tk : Tok) (news : Led) : Claim w 127 1 [.int t tk] news True (OkV (.int (t % 1000)) news) :=
  fn_V (N := 0) (fs := []) kI (by k_is) (by k_is) (.cI .nil) rfl (by exact rfl) (by exact rfl) (by exact rfl) (by exact ⟨rfl, rfl, rfl, rfl⟩) (by intro hp; exact fm1 _)
noncomputable def s127 (w : World) : FnSpec w := mk1 127 1 (fun t => .int (t % 1000)) (by k_is) (c_ms_of w)
theorem leap_ok (t : Int) : ((t.fmod 4 == 0) = true → ((t.fmod 100 != 0) = true → (t.fmod 100 != 0) = leapB t) ∧ ((t.fmod 100 != 0) = false → (t.fmod 400 == 0) = leapB t)) ∧ ((t.fmod 4 == 0) = false → (t.fmod 4 == 0) = leapB t) := by
  rw [show t.fmod 4 = t % 4 from fm1 t, show t.fmod 100 = t % 100 from fm1 t, show t.fmod 400 = t % 400 from fm1 t]
  unfold leapB
  refine ⟨fun a => ⟨fun b => ?_, fun b => ?_⟩, fun a => ?_⟩ <;> simp_all [bne, BEq.beq]
theorem c_is_leap_year (w : World) (t : Int) (tk : Tok) (news : Led) : Claim w 36 1 [.int t tk] news True (OkV (.bool (leapB t)) news) :=
  fn_V (N := 0) (fs := []) kB (by k_is) (by k_is) (.cI .nil) rfl (by exact rfl) (by exact rfl) (by exact rfl) (by exact ⟨rfl, rfl, rfl, rfl⟩) (by intro hp; exact leap_ok t)
noncomputable def s36 (w : World) : FnSpec w := mk1 36 1 (fun t => .bool (leapB t)) (by k_is) (c_is_leap_year w)
noncomputable def aheadI (m : Int) (b : Bool) : Int := aheadT.getD m.toNat 0 + if b = true ∧ 1 < m then 1 else 0
theorem ahead_ok (t : Int) (b : Bool) : (b = true → (decide (1 < t) = true → aheadT.getD t.toNat 0 + 1 = aheadI t b) ∧ (decide (1 < t) = false → aheadT.getD t.toNat 0 + 0 = aheadI t b)) ∧ (b = false → (b = true → aheadT.getD t.toNat 0 + 1 = aheadI t b) ∧ (b = false → aheadT.getD t.toNat 0 + 0 = aheadI t b)) := by
  unfold aheadI
  refine ⟨fun a => ⟨fun c => ?_, fun c => ?_⟩, fun a => ⟨fun c => ?_, fun c => ?_⟩⟩
  · rw [if_pos ⟨a, of_decide_eq_true c⟩]
  · rw [if_neg fun h => of_decide_eq_false c h.2]
  · rw [a] at c; cases c
  · rw [if_neg fun h => by rw [a] at h; cases h.1]
theorem c_days_ahead (w : World) (t : Int) (b : Bool) (tk : Tok) (news : Led) : Claim w 71 1 [.int t tk, .bool b] news (0 ≤ t ∧ t ≤ 12) (OkV (.int (aheadI t b)) news) :=
  fn_V (N := 0) (fs := []) kI (by k_is) (by k_is) (.cI (.cB .nil)) rfl (by exact rfl) (by exact rfl) (by exact rfl) (by exact ⟨rfl, rfl, rfl, rfl⟩) (by intro hp; exact ⟨⟨hp.1, Int.lt_of_le_of_lt hp.2 (by decide)⟩, ahead_ok t b⟩)
noncomputable def s71 (w : World) : FnSpec w := mkIB 71 1 (fun t _ => 0 ≤ t ∧ t ≤ 12) (fun t b => .int (aheadI t b)) (by k_is) (c_days_ahead w)
theorem dfy_step (y : Int) : dfy y + 365 ≤ dfy (y + 1) := by unfold dfy; omega
theorem dfy_mono {a b : Int} (h : a ≤ b) : dfy a ≤ dfy b := by
  obtain ⟨n, rfl⟩ : ∃ n : Nat, b = a + n := ⟨(b - a).toNat, by omega⟩
  clear h
  induction n with
  | zero => simp
  | succ n ih => have := dfy_step (a + n); have e : a + ((n + 1 : Nat) : Int) = a + n + 1 := by omega
                 rw [e]; omega
theorem c_year_of_day (w : World) (d y : Int) (tk : Tok) (news : Led) : Claim w 50 2 [.int d tk] news (dfy y ≤ d ∧ d < dfy (y + 1)) (OkV (.int y) news) := by
  refine fn_V (N := 1) (fs := [s43 w]) kI (by k_is) (by k_is) (.cI .nil) rfl (by exact rfl) (by exact rfl) (by exact rfl) (by exact ⟨rfl, rfl, rfl, rfl⟩) (fun ⟨h1, h2⟩ => ?_)
  have hA : ∀ g, d < dfy g → y < g := fun g hg => Int.not_le.mp fun c => Int.not_lt.mpr (Int.le_trans (dfy_mono c) h1) hg
  have hB : ∀ g, dfy g ≤ d → g ≤ y := fun g hg => Int.not_lt.mp fun c => Int.not_lt.mpr (Int.le_trans (dfy_mono c) hg) h2
  refine ⟨fun μ lk _ => ∃ g : Int, lk = [(PySem.Str.ofString "year", .int g), (PySem.Str.ofString "day", .int d)] ∧ μ = (g - y).toNat, ⟨_, _, ?_, 1970 + (d * 400).fdiv 146097, rfl, rfl⟩, ?_⟩
  · exact ⟨rfl, rfl, trivial⟩
  rintro μ lk p ⟨g, rfl, rfl⟩
  refine ⟨fun c => ⟨_, _, ?_, ?_, g - 1, rfl, rfl⟩, fun c => ?_⟩
  · have := hA g (of_decide_eq_true c); omega
  · exact ⟨rfl, rfl, trivial⟩
  refine ⟨fun μ lk _ => ∃ g : Int, lk = [(PySem.Str.ofString "year", .int g), (PySem.Str.ofString "day", .int d)] ∧ μ = (y - g).toNat ∧ g ≤ y, ⟨_, _, ?_, g, rfl, rfl, hB g (Int.not_lt.mp (of_decide_eq_false c))⟩, ?_⟩
  · exact ⟨rfl, rfl, trivial⟩
  rintro μ lk p ⟨g, rfl, rfl, hg⟩
  refine ⟨fun c => ?_, fun c => ?_⟩
  · have q := hB (g + 1) (of_decide_eq_true c)
    refine ⟨_, _, ?_, ?_, g + 1, rfl, rfl, q⟩
    · omega
    · exact ⟨rfl, rfl, trivial⟩
  · have q := hA (g + 1) (Int.not_le.mp (of_decide_eq_false c))
    show g = y
    omega
noncomputable def yod (d : Int) : Int := if d < dfy (1970 + d * 400 / 146097) then 1970 + d * 400 / 146097 - 1 else if dfy (1970 + d * 400 / 146097 + 1) ≤ d then 1970 + d * 400 / 146097 + 1 else 1970 + d * 400 / 146097
theorem yod_spec (d : Int) : dfy (yod d) ≤ d ∧ d < dfy (yod d + 1) := by
  unfold yod
  generalize hg : 1970 + d * 400 / 146097 = g
  split
  · rename_i h
    refine ⟨?_, by rw [Int.sub_add_cancel]; exact h⟩
    unfold dfy at *; omega
  · split
    · rename_i h1 h2
      refine ⟨h2, ?_⟩
      unfold dfy at *; omega
    · omega
theorem yod_eq {d y : Int} (h0 : dfy y ≤ d) (h1 : d < dfy (y + 1)) : yod d = y := by
  obtain ⟨a, b⟩ := yod_spec d
  by_cases c : yod d ≤ y
  · by_cases c' : y ≤ yod d
    · omega
    · have := dfy_mono (show yod d + 1 ≤ y by omega); omega
  · have := dfy_mono (show y + 1 ≤ yod d by omega); omega
theorem dfy_next (y : Int) : dfy (y + 1) = dfy y + if leapB y = true then 366 else 365 := by
  have i1 : y % 100 = 0 → y % 4 = 0 := fun h => by omega
  have i2 : y % 400 = 0 → y % 100 = 0 := fun h => by omega
  have e1 : (y + 1 - 1969) / 4 = (y - 1969) / 4 + if y % 4 = 0 then 1 else 0 := by clear i1 i2; split <;> omega
  have e2 : (y + 1 - 1901) / 100 = (y - 1901) / 100 + if y % 100 = 0 then 1 else 0 := by clear i1 i2 e1; split <;> omega
  have e3 : (y + 1 - 1601) / 400 = (y - 1601) / 400 + if y % 400 = 0 then 1 else 0 := by clear i1 i2 e1 e2; split <;> omega
  unfold dfy leapB
  rw [e1, e2, e3]
  clear e1 e2 e3
  generalize (y - 1969) / 4 = a; generalize (y - 1901) / 100 = b; generalize (y - 1601) / 400 = c
  by_cases h4 : y % 4 = 0
  · by_cases h1 : y % 100 = 0
    · by_cases h2 : y % 400 = 0
      · simp only [h4, h1, h2, if_true, ne_eq, not_true_eq_false, decide_true, decide_false, Bool.false_or, Bool.true_and]; clear i1 i2 h4 h1 h2; omega
      · simp only [h4, h1, h2, if_true, if_false, ne_eq, not_true_eq_false, decide_true, decide_false, Bool.or_self, Bool.and_false, Bool.false_eq_true]; clear i1 i2 h4 h1 h2; omega
    · have h2 : ¬ y % 400 = 0 := fun q => h1 (i2 q)
      simp only [h4, h1, h2, if_true, if_false, ne_eq, not_false_eq_true, decide_true, decide_false, Bool.true_or, Bool.true_and]; clear i1 i2 h4 h1 h2; omega
  · have h1 : ¬ y % 100 = 0 := fun q => h4 (i1 q)
    have h2 : ¬ y % 400 = 0 := fun q => h1 (i2 q)
    simp only [h4, h1, h2, if_false, ne_eq, decide_false, Bool.false_and, Bool.false_eq_true]; clear i1 i2 h4 h1 h2; omega
theorem c_year_of_day' (w : World) (d : Int) (tk : Tok) (news : Led) : Claim w 50 2 [.int d tk] news True (OkV (.int (yod d)) news) :=
  ⟨fun _ => (c_year_of_day w d (yod d) tk news).out (yod_spec d)⟩
noncomputable def s50 (w : World) : FnSpec w := mk1 50 2 (fun t => .int (yod t)) (by k_is) (c_year_of_day' w)
/-- the year, its length, the day in it -/
noncomputable def yrT (t : Int) : Int := yod (t / 86400000)
noncomputable def diyT (t : Int) : Int := t / 86400000 - dfy (yrT t)
theorem c_year_of (w : World) (t : Int) (tk : Tok) (news : Led) : Claim w 57 3 [.int t tk] news True (OkV (.int (yrT t)) news) :=
  fn_V (N := 2) (fs := [s22 w, s50 w]) kI (by k_is) (by k_is) (.cI .nil) rfl (by exact rfl) (by exact rfl) (by exact rfl) (by exact ⟨rfl, rfl, rfl, rfl⟩) (by intro hp; exact rfl)
noncomputable def s57 (w : World) : FnSpec w := mk1 57 3 (fun t => .int (yrT t)) (by k_is) (c_year_of w)
theorem c_day_in_year (w : World) (t : Int) (tk : Tok) (news : Led) : Claim w 64 4 [.int t tk] news True (OkV (.int (diyT t)) news) :=
  fn_V (N := 3) (fs := [s22 w, s57 w, s43 w]) kI (by k_is) (by k_is) (.cI .nil) rfl (by exact rfl) (by exact rfl) (by exact rfl) (by exact ⟨rfl, rfl, rfl, rfl⟩) (by intro hp; exact rfl)
noncomputable def s64 (w : World) : FnSpec w := mk1 64 4 (fun t => .int (diyT t)) (by k_is) (c_day_in_year w)
noncomputable def mo (p : Int) (l : Bool) : Int := if p < aheadI 1 l then 0 else if p < aheadI 2 l then 1 else if p < aheadI 3 l then 2 else if p < aheadI 4 l then 3 else if p < aheadI 5 l then 4 else if p < aheadI 6 l then 5 else if p < aheadI 7 l then 6 else if p < aheadI 8 l then 7 else if p < aheadI 9 l then 8 else if p < aheadI 10 l then 9 else if p < aheadI 11 l then 10 else 11
theorem mo_range (p : Int) (l : Bool) : 0 ≤ mo p l ∧ mo p l ≤ 11 := by
  have e : ∀ (c : Prop) [Decidable c] (a b : Int), (0 ≤ a ∧ a ≤ 11) → (0 ≤ b ∧ b ≤ 11) → 0 ≤ (if c then a else b) ∧ (if c then a else b) ≤ 11 := fun c _ a b ha hb => by split <;> assumption
  unfold mo
  exact e _ _ _ (by decide) (e _ _ _ (by decide) (e _ _ _ (by decide) (e _ _ _ (by decide) (e _ _ _ (by decide) (e _ _ _ (by decide) (e _ _ _ (by decide) (e _ _ _ (by decide) (e _ _ _ (by decide) (e _ _ _ (by decide) (e _ _ _ (by decide) (by decide)))))))))))
theorem uptoN {P : Nat → Prop} (N : Nat) (H : ∀ n ∈ List.range N, P n) (n : Nat) (h : n < N) : P n := H n (List.mem_range.mpr h)
theorem upto11 {P : Int → Prop} {m : Int} (h0 : 0 ≤ m) (h1 : m ≤ 11) (H : P 0 ∧ P 1 ∧ P 2 ∧ P 3 ∧ P 4 ∧ P 5 ∧ P 6 ∧ P 7 ∧ P 8 ∧ P 9 ∧ P 10 ∧ P 11) : P m := by
  obtain ⟨n, rfl⟩ := Int.eq_ofNat_of_zero_le h0
  have hn : n < 12 := by omega
  clear h0 h1
  obtain ⟨a0, a1, a2, a3, a4, a5, a6, a7, a8, a9, a10, a11⟩ := H
  match n, hn with
  | 0, _ => exact a0
  | 1, _ => exact a1
  | 2, _ => exact a2
  | 3, _ => exact a3
  | 4, _ => exact a4
  | 5, _ => exact a5
  | 6, _ => exact a6
  | 7, _ => exact a7
  | 8, _ => exact a8
  | 9, _ => exact a9
  | 10, _ => exact a10
  | 11, _ => exact a11
theorem ahead_step (l : Bool) {m : Int} (h0 : 0 ≤ m) (h1 : m ≤ 11) : aheadI m l + 28 ≤ aheadI (m + 1) l := by
  cases l
  · exact upto11 (P := fun m => aheadI m false + 28 ≤ aheadI (m + 1) false) h0 h1 (by decide)
  · exact upto11 (P := fun m => aheadI m true + 28 ≤ aheadI (m + 1) true) h0 h1 (by decide)
theorem ahead_long (l : Bool) {m : Int} (h0 : 0 ≤ m) (h1 : m ≤ 11) : aheadI (m + 1) l ≤ aheadI m l + 31 := by
  cases l
  · exact upto11 (P := fun m => aheadI (m + 1) false ≤ aheadI m false + 31) h0 h1 (by decide)
  · exact upto11 (P := fun m => aheadI (m + 1) true ≤ aheadI m true + 31) h0 h1 (by decide)
theorem ahead_12 (l : Bool) : aheadI 12 l = if l = true then 366 else 365 := by cases l <;> decide
theorem ahead_0 (l : Bool) : aheadI 0 l = 0 := by cases l <;> decide
theorem ahead_le (l : Bool) {a b : Int} (h0 : 0 ≤ a) (h1 : a ≤ b) (h2 : b ≤ 12) : aheadI a l ≤ aheadI b l := by
  obtain ⟨n, rfl⟩ : ∃ n : Nat, b = a + n := ⟨(b - a).toNat, by omega⟩
  clear h1
  induction n with
  | zero => simp
  | succ n ih =>
    have q := ahead_step l (m := a + n) (by omega) (by omega)
    have e : a + ((n + 1 : Nat) : Int) = a + n + 1 := by omega
    rw [e]; have := ih (by omega); omega
theorem mo_eq {p m : Int} {l : Bool} (h0 : 0 ≤ m) (h1 : m ≤ 11) (ha : aheadI m l ≤ p) (hb : p < aheadI (m + 1) l) : mo p l = m := by
  have up : ∀ k, 0 ≤ k → k ≤ m → aheadI k l ≤ p := fun k q r => Int.le_trans (ahead_le l q r (by omega)) ha
  have dn : ∀ k, m + 1 ≤ k → k ≤ 12 → p < aheadI k l := fun k q r => Int.lt_of_lt_of_le hb (ahead_le l (by omega) q r)
  have ite : ∀ (k : Int) (x : Int), 0 ≤ k → k ≤ 12 → (if p < aheadI k l then k - 1 else x) = if m < k then k - 1 else x := fun k x q r => by
    by_cases c : m < k
    · rw [if_pos c, if_pos (dn k (by omega) r)]
    · rw [if_neg c, if_neg (Int.not_lt.mpr (up k q (by omega)))]
  unfold mo
  have i1 := ite 1; have i2 := ite 2; have i3 := ite 3; have i4 := ite 4; have i5 := ite 5; have i6 := ite 6; have i7 := ite 7; have i8 := ite 8; have i9 := ite 9; have i10 := ite 10; have i11 := ite 11
  simp only [Int.reduceSub] at i1 i2 i3 i4 i5 i6 i7 i8 i9 i10 i11
  rw [i1 _ (by decide) (by decide), i2 _ (by decide) (by decide), i3 _ (by decide) (by decide), i4 _ (by decide) (by decide), i5 _ (by decide) (by decide), i6 _ (by decide) (by decide), i7 _ (by decide) (by decide), i8 _ (by decide) (by decide), i9 _ (by decide) (by decide), i10 _ (by decide) (by decide), i11 _ (by decide) (by decide)]
  exact upto11 (P := fun m => (if m < 1 then 0 else if m < 2 then 1 else if m < 3 then 2 else if m < 4 then 3 else if m < 5 then 4 else if m < 6 then 5 else if m < 7 then 6 else if m < 8 then 7 else if m < 9 then 8 else if m < 10 then 9 else if m < 11 then 10 else 11) = m) h0 h1 (by decide)
theorem mo_spec {p : Int} {l : Bool} (h0 : 0 ≤ p) (h1 : p < aheadI 12 l) : aheadI (mo p l) l ≤ p ∧ p < aheadI (mo p l + 1) l := by
  have z := ahead_0 l
  unfold mo
  repeat' split
  all_goals (first | exact ⟨by omega, by assumption⟩ | exact ⟨Int.not_lt.mp (by assumption), by assumption⟩)
noncomputable def moT (t : Int) : Int := mo (diyT t) (leapB (yrT t))
noncomputable def dtT (t : Int) : Int := diyT t - aheadI (moT t) (leapB (yrT t)) + 1
theorem diy_range (t : Int) : 0 ≤ diyT t ∧ diyT t < aheadI 12 (leapB (yrT t)) := by
  have h := yod_spec (t / 86400000)
  rw [dfy_next] at h
  rw [ahead_12]
  unfold diyT yrT
  omega
theorem dt_range (t : Int) : 1 ≤ dtT t ∧ dtT t ≤ 31 := by
  obtain ⟨a, b⟩ := diy_range t
  obtain ⟨c, d⟩ := mo_spec a b
  obtain ⟨e, f⟩ := mo_range (diyT t) (leapB (yrT t))
  have g := ahead_long (leapB (yrT t)) e f
  unfold dtT moT
  omega
theorem c_month_of (w : World) (t : Int) (tk : Tok) (news : Led) : Claim w 85 5 [.int t tk] news True (OkV (.int (moT t)) news) := by
  refine fn_V (N := 4) (fs := [s36 w, s57 w, s64 w, s71 w]) kI (by k_is) (by k_is) (.cI .nil) rfl (by exact rfl) (by exact rfl) (by exact rfl) (by exact ⟨rfl, rfl, rfl, rfl⟩) (fun _ => ?_)
  obtain ⟨hA, hB⟩ := diy_range t
  have hZ := ahead_0 (leapB (yrT t))
  have hT : ∀ m, 0 ≤ m → m ≤ 11 → aheadI (m + 1) (leapB (yrT t)) ≤ diyT t → m + 1 ≤ 11 := fun m h0 h1 h => by
    by_cases c : m + 1 ≤ 11
    · exact c
    · have e : m + 1 = 12 := by omega
      rw [e] at h; omega
  refine ⟨fun _ _ _ _ _ => rfl, fun μ lk _ => ∃ m : Int, lk = [(PySem.Str.ofString "is_leap", .bool (leapB (yrT t))), (PySem.Str.ofString "past", .int (diyT t)), (PySem.Str.ofString "month", .int m)] ∧ μ = (12 - m).toNat ∧ 0 ≤ m ∧ m ≤ 11 ∧ aheadI m (leapB (yrT t)) ≤ diyT t, ?_, ?_⟩
  · exact ⟨_, [(PySem.Str.ofString "is_leap", .bool (leapB (yrT t))), (PySem.Str.ofString "past", .int (diyT t)), (PySem.Str.ofString "month", .int 0)], ⟨rfl, rfl, rfl, trivial⟩, 0, rfl, rfl, by decide, by decide, by rw [hZ]; exact hA⟩
  rintro μ lk p ⟨m, rfl, rfl, h0, h1, h2⟩
  refine ⟨⟨by omega, by omega⟩, fun c => ?_, fun c => ?_⟩
  · have q := hT m h0 h1 (of_decide_eq_true c)
    exact ⟨(12 - (m + 1)).toNat, [(PySem.Str.ofString "is_leap", .bool (leapB (yrT t))), (PySem.Str.ofString "past", .int (diyT t)), (PySem.Str.ofString "month", .int (m + 1))], by omega, ⟨rfl, rfl, rfl, trivial⟩, m + 1, rfl, rfl, by omega, q, of_decide_eq_true c⟩
  · exact (mo_eq h0 h1 h2 (Int.not_le.mp (of_decide_eq_false c))).symm
noncomputable def s85 (w : World) : FnSpec w := mk1 85 5 (fun t => .int (moT t)) (by k_is) (c_month_of w)
theorem moT_range (t : Int) : 0 ≤ moT t ∧ moT t ≤ 11 := mo_range _ _
theorem moT_12 (t : Int) : 0 ≤ moT t ∧ moT t ≤ 12 := ⟨(moT_range t).1, Int.le_trans (moT_range t).2 (by decide)⟩
theorem c_date_of (w : World) (t : Int) (tk : Tok) (news : Led) : Claim w 92 6 [.int t tk] news True (OkV (.int (dtT t)) news) :=
  fn_V (N := 5) (fs := [s22 w, s57 w, s64 w, s85 w, s36 w, s71 w]) kI (by k_is) (by k_is) (.cI .nil) rfl (by exact rfl) (by exact rfl) (by exact rfl) (by exact ⟨rfl, rfl, rfl, rfl⟩) (by intro hp; exact ⟨moT_12 t, rfl⟩)
noncomputable def s92 (w : World) : FnSpec w := mk1 92 6 (fun t => .int (dtT t)) (by k_is) (c_date_of w)
noncomputable abbrev fldT (t : Int) : List Int := [yrT t, moT t, dtT t, t % 86400000 / 3600000, t % 86400000 / 60000 % 60, t % 86400000 / 1000 % 60, t % 1000]
theorem c_fields_of (w : World) (t : Int) (tk : Tok) (news : Led) : Claim w 134 7 [.int t tk] news True (OkV (.tup (fldT t)) news) :=
  fn_V (N := 6) (fs := [s57 w, s85 w, s92 w, s106 w, s113 w, s120 w, s127 w]) kT (by k_is) (by k_is) (.cI .nil) rfl (by exact rfl) (by exact rfl) (by exact rfl) (by exact ⟨rfl, rfl, rfl, rfl⟩) (by intro hp; exact rfl)
noncomputable def s134 (w : World) : FnSpec w := mk1 134 7 (fun t => .tup (fldT t)) (by k_is) (c_fields_of w)
theorem c_make_time (w : World) (h mi se ms : Int) (t1 t2 t3 t4 : Tok) (news : Led) : Claim w 141 1 [.int h t1, .int mi t2, .int se t3, .int ms t4] news True (OkV (.int (h * 3600000 + mi * 60000 + se * 1000 + ms)) news) :=
  fn_V (N := 0) (fs := []) kI (by k_is) (by k_is) (.cI (.cI (.cI (.cI .nil)))) rfl (by exact rfl) (by exact rfl) (by exact rfl) (by exact ⟨rfl, rfl, rfl, rfl⟩) (by intro hp; exact ⟨nofun, fun _ => rfl⟩)
noncomputable def s141 (w : World) : FnSpec w := mk4 141 1 (fun h mi se ms => .int (h * 3600000 + mi * 60000 + se * 1000 + ms)) (by k_is) (c_make_time w)
theorem c_local_of (w : World) (t o : Int) (t1 t2 : Tok) (news : Led) : Claim w 176 1 [.int t t1, .int o t2] news True (OkV (.int (t + o * 60000)) news) :=
  fn_V (N := 0) (fs := []) kI (by k_is) (by k_is) (.cI (.cI .nil)) rfl (by exact rfl) (by exact rfl) (by exact rfl) (by exact ⟨rfl, rfl, rfl, rfl⟩) (by intro hp; exact ⟨nofun, fun _ => rfl⟩)
noncomputable def s176 (w : World) : FnSpec w := mk2 176 1 (fun _ _ => True) (fun t o => .int (t + o * 60000)) (by k_is) (c_local_of w)
theorem c_utc_of (w : World) (t o : Int) (t1 t2 : Tok) (news : Led) : Claim w 183 1 [.int t t1, .int o t2] news True (OkV (.int (t - o * 60000)) news) :=
  fn_V (N := 0) (fs := []) kI (by k_is) (by k_is) (.cI (.cI .nil)) rfl (by exact rfl) (by exact rfl) (by exact rfl) (by exact ⟨rfl, rfl, rfl, rfl⟩) (by intro hp; exact ⟨nofun, fun _ => rfl⟩)
noncomputable def s183 (w : World) : FnSpec w := mk2 183 1 (fun _ _ => True) (fun t o => .int (t - o * 60000)) (by k_is) (c_utc_of w)
theorem c_make_date (w : World) (t o : Int) (t1 t2 : Tok) (news : Led) : Claim w 155 1 [.int t t1, .int o t2] news True (OkV (.int (t * 86400000 + o)) news) :=
  fn_V (N := 0) (fs := []) kI (by k_is) (by k_is) (.cI (.cI .nil)) rfl (by exact rfl) (by exact rfl) (by exact rfl) (by exact ⟨rfl, rfl, rfl, rfl⟩) (by intro hp; exact ⟨nofun, fun _ => ⟨nofun, fun _ => rfl⟩⟩)
noncomputable def s155 (w : World) : FnSpec w := mk2 155 1 (fun _ _ => True) (fun t o => .int (t * 86400000 + o)) (by k_is) (c_make_date w)
noncomputable def clipI (t : Int) : Option Int := if t.natAbs ≤ 8640000000000000 then some t else none
noncomputable def mkDay (y m d : Int) : Int := dfy (y + m / 12) + aheadI (m % 12) (leapB (y + m / 12)) + d - 1
theorem fmod12 (m : Int) : 0 ≤ m.fmod 12 ∧ m.fmod 12 ≤ 12 := by rw [show m.fmod 12 = m % 12 from fm1 m]; omega
theorem mk_day (y m d : Int) : dfy (y + m.fdiv 12) + aheadI (m.fmod 12) (leapB (y + m.fdiv 12)) + d - 1 = mkDay y m d := by rw [show m.fmod 12 = m % 12 from fm1 m, show m.fdiv 12 = m / 12 from fd1 m]; rfl
theorem c_make_day (w : World) (y m d : Int) (t1 t2 t3 : Tok) (news : Led) : Claim w 148 2 [.int y t1, .int m t2, .int d t3] news True (OkV (.int (mkDay y m d)) news) :=
  fn_V (N := 1) (fs := [s43 w, s36 w, s71 w]) kI (by k_is) (by k_is) (.cI (.cI (.cI .nil))) rfl (by exact rfl) (by exact rfl) (by exact rfl) (by exact ⟨rfl, rfl, rfl, rfl⟩) (by intro hp; exact ⟨nofun, fun _ => ⟨fun _ _ _ _ _ => rfl, fmod12 m, mk_day y m d⟩⟩)
noncomputable def s148 (w : World) : FnSpec w := mk3 148 2 (fun _ _ _ => True) (fun y m d => .int (mkDay y m d)) (by k_is) (c_make_day w)
theorem clip_ok (t : Int) : (decide ((if t < 0 then -t else t) ≤ 8640000000000000) = true → clipI t = some t) ∧ (decide ((if t < 0 then -t else t) ≤ 8640000000000000) = false → clipI t = none) := by
  unfold clipI
  refine ⟨fun h => if_pos ?_, fun h => if_neg ?_⟩
  · have := of_decide_eq_true h; split at this <;> omega
  · have := of_decide_eq_false h; split at this <;> omega
theorem c_time_clip (w : World) (t : Int) (tk : Tok) (news : Led) : Claim w 162 1 [.int t tk] news True (OkN (clipI t) news) :=
  fn_O (N := 0) (fs := [])  (by k_is) (by k_is) (.cI .nil) rfl (by exact rfl) (by exact rfl) (by exact rfl) (by exact ⟨rfl, rfl, rfl, rfl⟩) (by intro hp; exact ⟨fun _ => ⟨fun h => .inr ⟨t, rfl, (clip_ok t).1 h⟩, fun h => .inl ⟨rfl, (clip_ok t).2 h⟩⟩, nofun⟩)
noncomputable def s162 (w : World) : FnSpec w := mkO 162 1 clipI (by k_is) (c_time_clip w)
noncomputable def tfI (xs : List Int) : Int := mkDay (xs.getD 0 0) (xs.getD 1 0) (xs.getD 2 0) * 86400000 + (xs.getD 3 0 * 3600000 + xs.getD 4 0 * 60000 + xs.getD 5 0 * 1000 + xs.getD 6 0)
theorem l7 {xs : List Int} (h : Nat.beq xs.length 7 = true) : ∃ a b c d e f g, xs = [a, b, c, d, e, f, g] := by
  have h := Nat.eq_of_beq_eq_true h
  obtain ⟨a, xs, rfl⟩ := List.exists_cons_of_length_eq_add_one h
  obtain ⟨b, xs, rfl⟩ := List.exists_cons_of_length_eq_add_one (Nat.succ.inj h)
  obtain ⟨c, xs, rfl⟩ := List.exists_cons_of_length_eq_add_one (Nat.succ.inj (Nat.succ.inj h))
  obtain ⟨d, xs, rfl⟩ := List.exists_cons_of_length_eq_add_one (Nat.succ.inj (Nat.succ.inj (Nat.succ.inj h)))
  obtain ⟨e, xs, rfl⟩ := List.exists_cons_of_length_eq_add_one (Nat.succ.inj (Nat.succ.inj (Nat.succ.inj (Nat.succ.inj h))))
  obtain ⟨f, xs, rfl⟩ := List.exists_cons_of_length_eq_add_one (Nat.succ.inj (Nat.succ.inj (Nat.succ.inj (Nat.succ.inj (Nat.succ.inj h)))))
  obtain ⟨g, xs, rfl⟩ := List.exists_cons_of_length_eq_add_one (Nat.succ.inj (Nat.succ.inj (Nat.succ.inj (Nat.succ.inj (Nat.succ.inj (Nat.succ.inj h))))))
  exact ⟨a, b, c, d, e, f, g, by rw [List.eq_nil_of_length_eq_zero (Nat.succ.inj (Nat.succ.inj (Nat.succ.inj (Nat.succ.inj (Nat.succ.inj (Nat.succ.inj (Nat.succ.inj h)))))))]⟩
theorem c_time_of_fields (w : World) (x : Addr) (vs : List Value) (y m d h mi se ms : Int) (hi : IntsAre vs [y, m, d, h, mi, se, ms]) (news : Led) : Claim w 169 3 [.ref x] ((x, tupO vs) :: news) True (OkV (.int (tfI [y, m, d, h, mi, se, ms])) ((x, tupO vs) :: news)) :=
  fn_V (N := 2) (fs := [s148 w, s141 w, s155 w]) kI (by k_is) (by k_is) (.cT (.head _) hi .nil) rfl (by exact rfl) (by exact rfl) (by exact rfl) (by exact ⟨rfl, rfl, rfl, rfl⟩) (by intro hp; exact ⟨trivial, trivial, rfl⟩)
noncomputable def s169 (w : World) : FnSpec w := mkT 169 3 (fun xs k => guard (Nat.beq xs.length 7) (k (.int (tfI xs)))) (by k_is) fun xs k h => ⟨_, (guardE h).2, fun x vs news hi => by
  obtain ⟨a, b, c, d, e, f, g, rfl⟩ := l7 (guardE h).1
  exact c_time_of_fields w x vs a b c d e f g hi news⟩

noncomputable def decL (n : Nat) : List Nat := if n < 10 then [48 + n] else decL (n / 10) ++ [48 + n % 10]
noncomputable def padK (k w : Nat) : List Nat := if k = 0 then List.replicate w 48 else List.replicate (w - (decL k).length) 48 ++ decL k
theorem padK_step {k w : Nat} (h : 0 < k ∨ 0 < w) : padK k w = padK (k / 10) (w - 1) ++ [48 + k % 10] := by
  unfold padK
  by_cases hk : k = 0
  · subst hk
    obtain ⟨v, rfl⟩ : ∃ v, w = v + 1 := ⟨w - 1, by omega⟩
    simp [List.replicate_succ']
  · rw [if_neg hk]
    by_cases h10 : k < 10
    · have e : k / 10 = 0 := by omega
      have e2 : k % 10 = k := by omega
      rw [decL, if_pos h10, e, if_pos rfl, e2]; simp
    · have e : k / 10 ≠ 0 := by omega
      rw [decL, if_neg h10, if_neg e]
      simp only [List.length_append, List.length_singleton, List.append_assoc]
      congr 2; omega
theorem padK_len (k w : Nat) : w ≤ (padK k w).length := by
  unfold padK; split <;> simp <;> omega
noncomputable def yearL (y : Int) : List Nat := (if y < 0 then [45] else []) ++ padK y.natAbs 4
noncomputable def yearS (y : Int) : PySem.Str := S (yearL y)

theorem app_cps (x y : PySem.Str) : (x ++ y).cps.toList = x.cps.toList ++ y.cps.toList := by
  show (PySem.Str.append x y).cps.toList = _
  simp [PySem.Str.append]
theorem app_len (x y : PySem.Str) : (x ++ y).length = x.length + y.length := by
  show (PySem.Str.append x y).length = _
  simp [PySem.Str.append, PySem.Str.length]
theorem S_str (s : String) : PySem.Str.ofString s = S (s.toList.map Char.toNat) := by rw [PySem.Str.ofString_eq_toList]; rfl
theorem item_S (l : List Nat) {i : Int} (h0 : 0 ≤ i) (h1 : i < l.length) : Txt.item (S l) i = S [l.getD i.toNat 0] := by
  obtain ⟨n, rfl⟩ : ∃ n : Nat, i = n := ⟨i.toNat, by omega⟩
  have hn : n < l.length := by omega
  unfold Txt.item Txt.charAt
  rw [S_len, StrLaws.seqIndex_nonneg h0 h1]
  simp [S, hn]
theorem item_fig {i : Int} (h0 : 0 ≤ i) (h1 : i < 10) : Txt.item (PySem.Str.ofString "0123456789") i = S [48 + i.toNat] := by
  obtain ⟨n, rfl⟩ := Int.eq_ofNat_of_zero_le h0
  exact (by decide +kernel : ∀ n : Nat, n < 10 → Txt.item (PySem.Str.ofString "0123456789") (n : Int) = S [48 + (n : Int).toNat]) n (by omega)
theorem pad_start {n wd : Int} (h : 0 ≤ n ∧ n ≤ 999999 ∧ 0 ≤ wd ∧ wd ≤ 10) : 0 ≤ n ∧ padK n.toNat wd.toNat = padK n.toNat (wd.toNat - (PySem.Str.ofString "").length) ++ (PySem.Str.ofString "").cps.toList ∧ (PySem.Str.ofString "").length + n.toNat + (wd.toNat - (PySem.Str.ofString "").length) ≤ n.toNat + wd.toNat := by
  have e : PySem.Str.ofString "" = S [] := by decide +kernel
  rw [e, S_len, S_cps]; simp; omega
theorem fd10 (n : Nat) : ((n : Int).fdiv 10) = ((n / 10 : Nat) : Int) := by rw [Int.fdiv_eq_ediv_of_nonneg _ (by decide)]; rfl
theorem fm10 (n : Nat) : ((n : Int).fmod 10) = ((n % 10 : Nat) : Int) := by rw [Int.fmod_eq_emod_of_nonneg _ (by decide)]; rfl
theorem item_m10 (n : Nat) : Txt.item (PySem.Str.ofString "0123456789") ((n : Int).fmod 10) = S [48 + n % 10] := by
  have h : n % 10 < 10 := Nat.mod_lt _ (by decide)
  rw [fm10, item_fig (Int.natCast_nonneg _) (by omega)]; rfl
theorem pad_turn {n wd k : Int} {f : PySem.Str} (h0 : 0 ≤ k) (h1 : padK n.toNat wd.toNat = padK k.toNat (wd.toNat - f.length) ++ f.cps.toList) (h2 : f.length + k.toNat + (wd.toNat - f.length) ≤ n.toNat + wd.toNat) (hc : 0 < k ∨ (f.length : Int) < wd) :
    0 ≤ k.fdiv 10 ∧ padK n.toNat wd.toNat = padK (k.fdiv 10).toNat (wd.toNat - (Txt.item (PySem.Str.ofString "0123456789") (k.fmod 10) ++ f).length) ++ (Txt.item (PySem.Str.ofString "0123456789") (k.fmod 10) ++ f).cps.toList ∧
      (Txt.item (PySem.Str.ofString "0123456789") (k.fmod 10) ++ f).length + (k.fdiv 10).toNat + (wd.toNat - (Txt.item (PySem.Str.ofString "0123456789") (k.fmod 10) ++ f).length) ≤ n.toNat + wd.toNat := by
  obtain ⟨j, rfl⟩ := Int.eq_ofNat_of_zero_le h0
  have hc' : 0 < j ∨ 0 < wd.toNat - f.length := by omega
  rw [item_m10, fd10, app_len, app_cps, S_len, S_cps, Int.toNat_natCast]
  rw [Int.toNat_natCast] at h1 h2
  generalize wd.toNat = u at *; generalize n.toNat = v at *; generalize f.length = z at *
  clear hc h0
  refine ⟨Int.natCast_nonneg _, ?_, by simp only [List.length_singleton]; omega⟩
  rw [h1, padK_step hc', show u - z - 1 = u - (([48 + j % 10] : List Nat).length + z) by rw [Nat.sub_sub, Nat.add_comm]; rfl, List.append_assoc]
theorem pad_end {n wd k : Int} {f : PySem.Str} (h0 : 0 ≤ k) (h1 : padK n.toNat wd.toNat = padK k.toNat (wd.toNat - f.length) ++ f.cps.toList) (ha : ¬ 0 < k) (hb : ¬ (f.length : Int) < wd) : f = S (padK n.toNat wd.toNat) := by
  have e1 : k.toNat = 0 := by omega
  have e2 : wd.toNat - f.length = 0 := by omega
  rw [h1, e1, e2]
  simp [padK, S_of]

theorem decL_len : ∀ (k n : Nat), n < 10 ^ (k + 1) → (decL n).length ≤ k + 1
  | 0, n, h => by
    rw [decL, if_pos (by simpa using h)]; simp
  | k + 1, n, h => by
    rw [decL]
    split
    · simp
    · have := decL_len k (n / 10) (by rw [Nat.pow_succ] at h; omega)
      simp; omega
theorem padK_len_le {n w : Nat} (h : n ≤ 999999) (hw : w ≤ 10) : (padK n w).length ≤ 10 := by
  have := decL_len 5 n (by omega)
  unfold padK
  split <;> simp <;> omega
theorem decL_pos (n : Nat) : 1 ≤ (decL n).length := by rw [decL]; split <;> simp
theorem padK_2 {n : Nat} (h : n ≤ 99) : padK n 2 = [48 + n / 10, 48 + n % 10] := by
  rw [padK_step (by omega), padK_step (by omega)]
  have e : n / 10 / 10 = 0 := by omega
  have e2 : n / 10 % 10 = n / 10 := by omega
  simp [padK, e, e2]

theorem pad_less {wd k : Int} {f : PySem.Str} (h0 : 0 ≤ k) (hc : 0 < k ∨ (f.length : Int) < wd) :
    (k.fdiv 10).toNat + (wd.toNat - (Txt.item (PySem.Str.ofString "0123456789") (k.fmod 10) ++ f).length) < k.toNat + (wd.toNat - f.length) := by
  obtain ⟨j, rfl⟩ := Int.eq_ofNat_of_zero_le h0
  have hc' : 0 < j ∨ 0 < wd.toNat - f.length := by omega
  rw [item_m10, fd10, app_len, S_len, Int.toNat_natCast, Int.toNat_natCast]
  generalize wd.toNat = u at *; generalize f.length = z at *
  clear hc h0
  simp only [List.length_singleton]; omega
theorem off_n {o : Int} (h : o < 0) : ((-o) / 60).toNat = o.natAbs / 60 ∧ ((-o) % 60).toNat = o.natAbs % 60 := by
  obtain ⟨n, rfl⟩ : ∃ n : Nat, o = -(n : Int) := ⟨o.natAbs, by omega⟩
  rw [Int.neg_neg, Int.natAbs_neg, Int.natAbs_natCast]
  exact ⟨rfl, rfl⟩
theorem off_p {o : Int} (h : ¬ o < 0) : (o / 60).toNat = o.natAbs / 60 ∧ (o % 60).toNat = o.natAbs % 60 := by
  obtain ⟨n, rfl⟩ := Int.eq_ofNat_of_zero_le (Int.not_lt.mp h)
  exact ⟨rfl, rfl⟩
theorem neg_nat {y : Int} (h : y < 0) : (-y).toNat = y.natAbs := by
  obtain ⟨n, rfl⟩ : ∃ n : Nat, y = -(n : Int) := ⟨y.natAbs, by omega⟩
  rw [Int.neg_neg, Int.natAbs_neg]; rfl
theorem pos_nat {y : Int} (h : ¬ y < 0) : y.toNat = y.natAbs := by
  obtain ⟨n, rfl⟩ := Int.eq_ofNat_of_zero_le (Int.not_lt.mp h); rfl
theorem s_e : PySem.Str.ofString "" = S [] := by decide +kernel
theorem s_colon : PySem.Str.ofString ":" = S [58] := by decide +kernel
theorem s_sp : PySem.Str.ofString " " = S [32] := by decide +kernel
theorem s_comma : PySem.Str.ofString ", " = S [44, 32] := by decide +kernel
theorem s_gmt : PySem.Str.ofString "GMT" = S [71, 77, 84] := by decide +kernel
theorem s_sgmt : PySem.Str.ofString " GMT" = S [32, 71, 77, 84] := by decide +kernel
theorem s_minus : PySem.Str.ofString "-" = S [45] := by decide +kernel
theorem s_plus : PySem.Str.ofString "+" = S [43] := by decide +kernel
theorem s_zero : PySem.Str.ofString "0" = S [48] := by decide +kernel
theorem s_nodate : PySem.Str.ofString "Invalid Date" = S [73, 110, 118, 97, 108, 105, 100, 32, 68, 97, 116, 101] := by decide +kernel
noncomputable def clockL (h mi se : Int) : List Nat := padK h.toNat 2 ++ [58] ++ padK mi.toNat 2 ++ [58] ++ padK se.toNat 2
noncomputable def offL (o : Int) : List Nat := [71, 77, 84] ++ (if o < 0 then [45] else [43]) ++ padK (o.natAbs / 60) 2 ++ padK (o.natAbs % 60) 2
theorem guardI {b : Bool} {P : Prop} (h : b = true) (p : P) : guard b P := by rw [h]; exact p
noncomputable abbrev PadP (n wd : Int) : Prop := 0 ≤ n ∧ n ≤ 999999 ∧ 0 ≤ wd ∧ wd ≤ 10
theorem pad_pre {n : Int} (a : 0 ≤ n) (b : n ≤ 99) : PadP n 2 := ⟨a, Int.le_trans b (by decide), by decide, by decide⟩
theorem padL_len {n w : Int} (h : PadP n w) : (padK n.toNat w.toNat).length ≤ 10 := padK_len_le (by have := h.2.1; omega) (by have := h.2.2.2; omega)
theorem pad_len {n w : Int} (h : PadP n w) : (S (padK n.toNat w.toNat)).length ≤ 10 := by rw [S_len]; exact padL_len h
theorem fig_at {k : Int} (h : 0 ≤ k) : (0 ≤ k.fmod 10 ∧ k.fmod 10 < (PySem.Str.ofString "0123456789").cps.toList.length) ∧ (PySem.Str.ofString "0123456789").cps.toList.getD (k.fmod 10).toNat 0 = 48 + k.toNat % 10 := by
  obtain ⟨j, rfl⟩ := Int.eq_ofNat_of_zero_le h
  rw [fm10, Int.toNat_natCast, Int.toNat_natCast]
  have q := (by decide +kernel : ∀ n : Nat, n < 10 → ((0 : Int) ≤ n ∧ (n : Int) < (PySem.Str.ofString "0123456789").cps.toList.length) ∧ (PySem.Str.ofString "0123456789").cps.toList.getD n 0 = 48 + n) (j % 10) (Nat.mod_lt _ (by decide))
  exact q
theorem pad_go {n wd k : Int} {f : List Nat} (h0 : 0 ≤ k) (h1 : padK n.toNat wd.toNat = padK k.toNat (wd.toNat - f.length) ++ f) (hc : 0 < k ∨ (f.length : Int) < wd) :
    (k.fdiv 10).toNat + (wd.toNat - ((48 + k.toNat % 10) :: f).length) < k.toNat + (wd.toNat - f.length) ∧ 0 ≤ k.fdiv 10 ∧ padK n.toNat wd.toNat = padK (k.fdiv 10).toNat (wd.toNat - ((48 + k.toNat % 10) :: f).length) ++ ((48 + k.toNat % 10) :: f) := by
  obtain ⟨j, rfl⟩ := Int.eq_ofNat_of_zero_le h0
  have hc' : 0 < j ∨ 0 < wd.toNat - f.length := by omega
  rw [fd10, Int.toNat_natCast, Int.toNat_natCast, List.length_cons]
  rw [Int.toNat_natCast] at h1
  generalize wd.toNat = u at *; generalize n.toNat = v at *
  clear hc h0
  refine ⟨by omega, Int.natCast_nonneg _, ?_⟩
  rw [h1, padK_step hc', Nat.sub_sub, List.append_assoc]; rfl
theorem pad_fin {n wd k : Int} {f : List Nat} (hn : PadP n wd) (h0 : 0 ≤ k) (h1 : padK n.toNat wd.toNat = padK k.toNat (wd.toNat - f.length) ++ f) (ha : decide (0 < k) = false) (hb : decide ((f.length : Int) < wd) = false) : f = padK n.toNat wd.toNat ∧ f.length ≤ 10 := by
  have e1 : k.toNat = 0 := by have := of_decide_eq_false ha; omega
  have e2 : wd.toNat - f.length = 0 := by have := of_decide_eq_false hb; omega
  rw [e1, e2] at h1
  have e : f = padK n.toNat wd.toNat := by rw [h1]; rfl
  exact ⟨e, e ▸ padL_len hn⟩
theorem c_padded (w : World) (n wd : Int) (t1 t2 : Tok) (news : Led) : Claim w 192 1 [.int n t1, .int wd t2] news (PadP n wd) (OkV (.str (padK n.toNat wd.toNat) 10) news) := by
  refine fn_V (N := 0) (fs := []) kS (by k_is) (by k_is) (.cI (.cI .nil)) rfl (by exact rfl) (by exact rfl) (by exact rfl) (by exact ⟨rfl, rfl, rfl, rfl⟩) (fun hp => ?_)
  refine ⟨fun μ lk _ => ∃ (k : Int) (f : List Nat), lk = [(PySem.Str.ofString "found", .str f f.length), (PySem.Str.ofString "number", .int k), (PySem.Str.ofString "wide", .int wd)] ∧ μ = k.toNat + (wd.toNat - f.length) ∧ f.length + μ ≤ 1000009 ∧ 0 ≤ k ∧ padK n.toNat wd.toNat = padK k.toNat (wd.toNat - f.length) ++ f, ?_, ?_⟩
  · exact ⟨n.toNat + wd.toNat, [(PySem.Str.ofString "found", .str [] 0), (PySem.Str.ofString "number", .int n), (PySem.Str.ofString "wide", .int wd)], ⟨rfl, rfl, rfl, trivial⟩, n, [], rfl, rfl, by have := hp.2; simp only [List.length_nil]; omega, hp.1, (List.append_nil _).symm⟩
  rintro μ lk p ⟨k, f, rfl, rfl, hs, h0, h1⟩
  have hf := fig_at h0
  have go := pad_go h0 h1
  refine ⟨fun a => ⟨fun _ => ⟨hf.1, guardI (Nat.ble_eq_true_of_le (by omega)) ?_⟩, fun b => ?_⟩, fun a => guardI (Nat.ble_eq_true_of_le (by omega)) ⟨fun b => ⟨hf.1, guardI (Nat.ble_eq_true_of_le (by omega)) ?_⟩, fun b => ?_⟩⟩
  · have g := go (.inl (of_decide_eq_true a))
    rw [hf.2]
    exact ⟨_, [(PySem.Str.ofString "found", .str ((48 + k.toNat % 10) :: f) ((48 + k.toNat % 10) :: f).length), (PySem.Str.ofString "number", .int (k.fdiv 10)), (PySem.Str.ofString "wide", .int wd)], g.1, ⟨by rw [List.length_cons, Nat.add_comm f.length 1]; rfl, rfl, rfl, trivial⟩, _, _, rfl, rfl, by have := g.1; simp only [List.length_cons] at *; omega, g.2⟩
  · rw [a] at b; cases b
  · have g := go (.inr (of_decide_eq_true b))
    rw [hf.2]
    exact ⟨_, [(PySem.Str.ofString "found", .str ((48 + k.toNat % 10) :: f) ((48 + k.toNat % 10) :: f).length), (PySem.Str.ofString "number", .int (k.fdiv 10)), (PySem.Str.ofString "wide", .int wd)], g.1, ⟨by rw [List.length_cons, Nat.add_comm f.length 1]; rfl, rfl, rfl, trivial⟩, _, _, rfl, rfl, by have := g.1; simp only [List.length_cons] at *; omega, g.2⟩
  · exact pad_fin hp h0 h1 a b
noncomputable def s192 (w : World) : FnSpec w := mk2 192 1 PadP (fun n wd => .str (padK n.toNat wd.toNat) 10) (by k_is) (c_padded w)
theorem fin {l l' : List Nat} {b : Nat} (e : l = l') (h : l'.length ≤ b) : l = l' ∧ l.length ≤ b := ⟨e, e ▸ h⟩
theorem sl (s : String) (l : List Nat) (h : PySem.Str.ofString s = S l) : (PySem.Str.ofString s).cps.toList = l := by rw [h, S_cps]
theorem yearL_len {y : Int} (h : -999999 ≤ y ∧ y ≤ 999999) : (yearL y).length ≤ 11 := by
  have := padK_len_le (n := y.natAbs) (w := 4) (by omega) (by decide)
  unfold yearL; split <;> simp <;> omega
theorem year_ok {y : Int} (h : -999999 ≤ y ∧ y ≤ 999999) : PadP (if y < 0 then -y else y) 4 := by unfold PadP; split <;> omega
theorem year_n (y : Int) : (if y < 0 then -y else y).toNat = y.natAbs := by split <;> omega
theorem c_plain_year (w : World) (y : Int) (t1 : Tok) (news : Led) : Claim w 199 2 [.int y t1] news (-999999 ≤ y ∧ y ≤ 999999) (OkV (.str (yearL y) 11) news) :=
  fn_V (N := 1) (fs := [s192 w]) kS (by k_is) (by k_is) (.cI .nil) rfl (by exact rfl) (by exact rfl) (by exact rfl) (by exact ⟨rfl, rfl, rfl, rfl⟩) (by
    intro hp
    refine ⟨fun a => ⟨year_ok hp, ?_, ?_⟩, fun a => ⟨year_ok hp, ?_, ?_⟩⟩
    · rw [year_n, sl "-" _ s_minus, yearL, if_pos (of_decide_eq_true a)]; rfl
    · rw [year_n, sl "-" _ s_minus]; have q := yearL_len hp; rw [yearL, if_pos (of_decide_eq_true a)] at q; exact q
    · rw [year_n, sl "" _ s_e, yearL, if_neg (of_decide_eq_false a)]; rfl
    · rw [year_n, sl "" _ s_e]; have q := yearL_len hp; rw [yearL, if_neg (of_decide_eq_false a)] at q; exact q)
noncomputable def s199 (w : World) : FnSpec w := mk1P 199 2 (fun y => -999999 ≤ y ∧ y ≤ 999999) (fun y => .str (yearL y) 11) (by k_is) (c_plain_year w)
noncomputable abbrev CkP (h mi se : Int) : Prop := 0 ≤ h ∧ h ≤ 99 ∧ 0 ≤ mi ∧ mi ≤ 99 ∧ 0 ≤ se ∧ se ≤ 99
theorem clockL_len {h mi se : Int} (hp : CkP h mi se) : (clockL h mi se).length ≤ 32 := by
  have a := padL_len (pad_pre hp.1 hp.2.1); have b := padL_len (pad_pre hp.2.2.1 hp.2.2.2.1); have c := padL_len (pad_pre hp.2.2.2.2.1 hp.2.2.2.2.2)
  rw [show (2 : Int).toNat = 2 from rfl] at a b c
  unfold clockL; simp only [List.length_append, List.length_singleton]; omega
theorem c_clock_text (w : World) (h mi se : Int) (t1 t2 t3 : Tok) (news : Led) : Claim w 206 2 [.int h t1, .int mi t2, .int se t3] news (CkP h mi se) (OkV (.str (clockL h mi se) 32) news) :=
  fn_V (N := 1) (fs := [s192 w]) kS (by k_is) (by k_is) (.cI (.cI (.cI .nil))) rfl (by exact rfl) (by exact rfl) (by exact rfl) (by exact ⟨rfl, rfl, rfl, rfl⟩) (by
    intro hp
    exact ⟨pad_pre hp.1 hp.2.1, pad_pre hp.2.2.1 hp.2.2.2.1, pad_pre hp.2.2.2.2.1 hp.2.2.2.2.2, by rw [sl ":" _ s_colon]; exact ⟨rfl, clockL_len hp⟩⟩)
noncomputable def s206 (w : World) : FnSpec w := mk3 206 2 CkP (fun h mi se => .str (clockL h mi se) 32) (by k_is) (c_clock_text w)
noncomputable abbrev OffP (o : Int) : Prop := -1439 ≤ o ∧ o ≤ 1439
theorem offL_len {o : Int} (h : OffP o) : (offL o).length ≤ 32 := by
  have a := padK_len_le (n := o.natAbs / 60) (w := 2) (by have := h.1; have := h.2; omega) (by decide)
  have b := padK_len_le (n := o.natAbs % 60) (w := 2) (by omega) (by decide)
  unfold offL; split <;> simp only [List.length_append, List.length_cons, List.length_nil] <;> omega
theorem off_1 {o : Int} (h : OffP o) : PadP ((if o < 0 then -o else o).fdiv 60) 2 ∧ ((if o < 0 then -o else o).fdiv 60).toNat = o.natAbs / 60 := by
  rw [show (if o < 0 then -o else o).fdiv 60 = (if o < 0 then -o else o) / 60 from fd1 _]; unfold PadP; have := h.1; have := h.2; split <;> omega
theorem off_2 {o : Int} (h : OffP o) : PadP ((if o < 0 then -o else o).fmod 60) 2 ∧ ((if o < 0 then -o else o).fmod 60).toNat = o.natAbs % 60 := by
  rw [show (if o < 0 then -o else o).fmod 60 = (if o < 0 then -o else o) % 60 from fm1 _]; unfold PadP; have := h.1; have := h.2; split <;> omega
theorem off_eq {o : Int} (hp : OffP o) {sg : PySem.Str} {c : Nat} (hs : sg = S [c]) (hc : offL o = [71, 77, 84] ++ [c] ++ padK (o.natAbs / 60) 2 ++ padK (o.natAbs % 60) 2) :
    (PySem.Str.ofString "GMT").cps.toList ++ sg.cps.toList ++ padK ((if o < 0 then -o else o).fdiv 60).toNat (Int.toNat 2) ++ padK ((if o < 0 then -o else o).fmod 60).toNat (Int.toNat 2) = offL o := by
  rw [(off_1 hp).2, (off_2 hp).2, sl "GMT" _ s_gmt, hs, S_cps, hc]; rfl
theorem c_offset_text (w : World) (o : Int) (t1 : Tok) (news : Led) : Claim w 220 2 [.int o t1] news (OffP o) (OkV (.str (offL o) 32) news) :=
  fn_V (N := 1) (fs := [s192 w]) kS (by k_is) (by k_is) (.cI .nil) rfl (by exact rfl) (by exact rfl) (by exact rfl) (by exact ⟨rfl, rfl, rfl, rfl⟩) (by
    intro hp
    refine ⟨fun a => ⟨(off_1 hp).1, (off_2 hp).1, ?_⟩, fun a => ⟨(off_1 hp).1, (off_2 hp).1, ?_⟩⟩
    · have e := off_eq hp s_minus (by rw [offL, if_pos (of_decide_eq_true a)])
      exact ⟨e, e ▸ offL_len hp⟩
    · have e := off_eq hp s_plus (by rw [offL, if_neg (of_decide_eq_false a)])
      exact ⟨e, e ▸ offL_len hp⟩)
noncomputable def s220 (w : World) : FnSpec w := mk1P 220 2 OffP (fun o => .str (offL o) 32) (by k_is) (c_offset_text w)
/-- times that are asked about -/
noncomputable abbrev Tm (t : Int) : Prop := -8700000000000000 ≤ t ∧ t ≤ 8700000000000000
theorem yr_range {t : Int} (h : Tm t) : -999999 ≤ yrT t ∧ yrT t ≤ 999999 := by
  have hd : t / 86400000 ≤ 100694445 ∧ -100694445 ≤ t / 86400000 := by obtain ⟨a, b⟩ := h; omega
  obtain ⟨a, b⟩ := yod_spec (t / 86400000)
  have u : 200000000 < dfy 1000000 := by decide +kernel
  have l : dfy (-999998) < -200000000 := by decide +kernel
  constructor
  · by_cases c : -999999 ≤ yrT t
    · exact c
    · have := dfy_mono (show yrT t + 1 ≤ -999998 by omega)
      unfold yrT at this; omega
  · by_cases c : yrT t ≤ 999999
    · exact c
    · have := dfy_mono (show 1000000 ≤ yrT t by omega)
      unfold yrT at this; omega
noncomputable def wdT (t : Int) : Int := (t / 86400000 + 4) % 7
noncomputable def dayL (t : Int) : List Nat := wkL (wdT t) ++ [32] ++ monL (moT t) ++ [32] ++ padK (dtT t).toNat 2 ++ [32] ++ yearL (yrT t)
theorem dt_pad (t : Int) : PadP (dtT t) 2 := by have := dt_range t; unfold PadP; omega
theorem wd_i (t : Int) : 0 ≤ (t / 86400000 + 4) % 7 ∧ (t / 86400000 + 4) % 7 < 7 := by omega
theorem mo_i (t : Int) : 0 ≤ moT t ∧ moT t < 12 := by have := moT_range t; omega
theorem tm_r (t : Int) : 0 ≤ t % 86400000 / 3600000 ∧ t % 86400000 / 3600000 ≤ 23 ∧ 0 ≤ t % 86400000 / 60000 % 60 ∧ t % 86400000 / 60000 % 60 ≤ 59 ∧ 0 ≤ t % 86400000 / 1000 % 60 ∧ t % 86400000 / 1000 % 60 ≤ 59 := by omega
theorem tm_ck (t : Int) : CkP (t % 86400000 / 3600000) (t % 86400000 / 60000 % 60) (t % 86400000 / 1000 % 60) := by
  obtain ⟨a, b, c, d, e, f⟩ := tm_r t
  exact ⟨a, Int.le_trans b (by decide), c, Int.le_trans d (by decide), e, Int.le_trans f (by decide)⟩
theorem dayL_len {t : Int} (h : Tm t) : (dayL t).length ≤ 64 := by
  have b := yearL_len (yr_range h)
  have c := padL_len (dt_pad t)
  rw [show (2 : Int).toNat = 2 from rfl] at c
  have d := getD3 (T := wkT) (by decide) (wdT t).toNat
  have e := getD3 (T := monT) (by decide) (moT t).toNat
  unfold dayL wkL monL; simp only [List.length_append, List.length_cons, List.length_nil]; omega
theorem c_day_text (w : World) (t : Int) (t1 : Tok) (news : Led) : Claim w 213 8 [.int t t1] news (Tm t) (OkV (.str (dayL t) 64) news) :=
  fn_V (N := 7) (fs := [s134 w, s99 w, s192 w, s199 w]) kS (by k_is) (by k_is) (.cI .nil) rfl (by exact rfl) (by exact rfl) (by exact rfl) (by exact ⟨rfl, rfl, rfl, rfl⟩) (by
    intro hp
    refine ⟨wd_i t, mo_i t, dt_pad t, yr_range hp, ?_⟩
    rw [sl " " _ s_sp]
    exact ⟨rfl, dayL_len hp⟩)
noncomputable def s213 (w : World) : FnSpec w := mk1P 213 8 Tm (fun t => .str (dayL t) 64) (by k_is) (c_day_text w)
noncomputable def tmL (t : Int) : List Nat := clockL (t % 86400000 / 3600000) (t % 86400000 / 60000 % 60) (t % 86400000 / 1000 % 60)
theorem tm_range (t : Int) : 0 ≤ t % 86400000 / 3600000 ∧ t % 86400000 / 3600000 ≤ 23 ∧ 0 ≤ t % 86400000 / 60000 % 60 ∧ t % 86400000 / 60000 % 60 ≤ 59 ∧ 0 ≤ t % 86400000 / 1000 % 60 ∧ t % 86400000 / 1000 % 60 ≤ 59 := tm_r t
theorem tmL_len (t : Int) : (tmL t).length ≤ 32 := clockL_len (tm_ck t)
theorem c_time_text (w : World) (t o : Int) (t1 t2 : Tok) (news : Led) : Claim w 227 8 [.int t t1, .int o t2] news (OffP o) (OkV (.str (tmL t ++ [32] ++ offL o) 80) news) :=
  fn_V (N := 7) (fs := [s134 w, s206 w, s220 w]) kS (by k_is) (by k_is) (.cI (.cI .nil)) rfl (by exact rfl) (by exact rfl) (by exact rfl) (by exact ⟨rfl, rfl, rfl, rfl⟩) (by
    intro hp
    refine ⟨tm_ck t, hp, ?_⟩
    rw [sl " " _ s_sp]
    exact ⟨rfl, by have a := tmL_len t; have b := offL_len hp; unfold tmL at a; simp only [List.length_append, List.length_singleton]; omega⟩)
noncomputable def s227 (w : World) : FnSpec w := mk2 227 8 (fun _ o => OffP o) (fun t o => .str (tmL t ++ [32] ++ offL o) 80) (by k_is) (c_time_text w)
noncomputable def shownL (t o : Int) : List Nat := dayL (t + o * 60000) ++ [32] ++ (tmL (t + o * 60000) ++ [32] ++ offL o)
theorem c_whole_text (w : World) (t o : Int) (t1 t2 : Tok) (news : Led) : Claim w 234 9 [.int t t1, .int o t2] news (Tm (t + o * 60000) ∧ OffP o) (OkV (.str (shownL t o) 150) news) :=
  fn_V (N := 8) (fs := [s176 w, s213 w, s227 w]) kS (by k_is) (by k_is) (.cI (.cI .nil)) rfl (by exact rfl) (by exact rfl) (by exact rfl) (by exact ⟨rfl, rfl, rfl, rfl⟩) (by
    intro hp
    refine ⟨nofun, fun _ => ⟨trivial, hp.1, hp.2, ?_⟩⟩
    rw [sl " " _ s_sp]
    exact ⟨rfl, by have a := tmL_len (t + o * 60000); have b := offL_len hp.2; have c := dayL_len hp.1; simp only [List.length_append, List.length_singleton]; omega⟩)
noncomputable def s234 (w : World) : FnSpec w := mk2 234 9 (fun t o => Tm (t + o * 60000) ∧ OffP o) (fun t o => .str (shownL t o) 150) (by k_is) (c_whole_text w)
noncomputable abbrev noD : List Nat := (PySem.Str.ofString "Invalid Date").cps.toList
theorem c_whole_text_none (w : World) (o : Int) (t2 : Tok) (news : Led) : Claim w 234 9 [.none, .int o t2] news True (OkV (.str noD 12) news) :=
  fn_V (N := 8) (fs := []) kS (by k_is) (by k_is) (.cN (.cI .nil)) rfl (by exact rfl) (by exact rfl) (by exact rfl) (by exact ⟨rfl, rfl, rfl, rfl⟩) (by intro hp; exact ⟨fun _ => ⟨rfl, by decide +kernel⟩, nofun⟩)
noncomputable def utcL (t : Int) : List Nat := wkL (wdT t) ++ [44, 32] ++ padK (dtT t).toNat 2 ++ [32] ++ monL (moT t) ++ [32] ++ yearL (yrT t) ++ [32] ++ tmL t ++ [32, 71, 77, 84]
theorem utcL_len {t : Int} (h : Tm t) : (utcL t).length ≤ 150 := by
  have a := tmL_len t
  have b := yearL_len (yr_range h)
  have c := padL_len (dt_pad t)
  rw [show (2 : Int).toNat = 2 from rfl] at c
  have d := getD3 (T := wkT) (by decide) (wdT t).toNat
  have e := getD3 (T := monT) (by decide) (moT t).toNat
  unfold utcL wkL monL; simp only [List.length_append, List.length_cons, List.length_nil]; omega
theorem c_utc_text (w : World) (t : Int) (t1 : Tok) (news : Led) : Claim w 241 9 [.int t t1] news (Tm t) (OkV (.str (utcL t) 150) news) :=
  fn_V (N := 8) (fs := [s134 w, s99 w, s192 w, s199 w, s206 w]) kS (by k_is) (by k_is) (.cI .nil) rfl (by exact rfl) (by exact rfl) (by exact rfl) (by exact ⟨rfl, rfl, rfl, rfl⟩) (by
    intro hp
    refine ⟨nofun, fun _ => ⟨wd_i t, dt_pad t, mo_i t, yr_range hp, tm_ck t, fin ?_ (utcL_len hp)⟩⟩
    rw [sl " " _ s_sp, sl ", " _ s_comma, sl " GMT" _ s_sgmt]; rfl)
theorem c_utc_text_none (w : World) (news : Led) : Claim w 241 9 [.none] news True (OkV (.str noD 12) news) :=
  fn_V (N := 8) (fs := []) kS (by k_is) (by k_is) (.cN .nil) rfl (by exact rfl) (by exact rfl) (by exact rfl) (by exact ⟨rfl, rfl, rfl, rfl⟩) (by intro hp; exact ⟨fun _ => ⟨rfl, by decide +kernel⟩, nofun⟩)
theorem find_not {x : PySem.Str} {c : Nat} (h : c ∉ x.cps.toList) : Txt.find x ⟨#[c]⟩ = -1 := by
  have q := StrLaws.found_one x c
  rw [decide_eq_false h] at q
  unfold Txt.find
  split
  · rename_i e; rw [e] at q; cases q
  · rfl
noncomputable def figv (c : Nat) : Int := if 48 ≤ c ∧ c ≤ 57 then (c : Int) - 48 else -1
theorem find_fig (c : Nat) : Txt.find (PySem.Str.ofString "0123456789") ⟨#[c]⟩ = figv c := by
  by_cases h : 48 ≤ c ∧ c ≤ 57
  · exact (by decide +kernel : ∀ c, c < 58 → 48 ≤ c ∧ c ≤ 57 → Txt.find (PySem.Str.ofString "0123456789") ⟨#[c]⟩ = figv c) c (by omega) h
  · rw [find_not, figv, if_neg h]
    rw [show PySem.Str.ofString "0123456789" = S [48, 49, 50, 51, 52, 53, 54, 55, 56, 57] by decide +kernel, S_cps]
    simp only [List.mem_cons, List.not_mem_nil, or_false]; omega
noncomputable def figStep (o : Option Int) (c : Int) : Option Int := o.bind fun f => if 48 ≤ c ∧ c ≤ 57 then some (f * 10 + (c - 48)) else none
noncomputable def figN (l : List Nat) : Option Int := if l = [] then none else (l.map fun (c : Nat) => (c : Int)).foldl figStep (some 0)
theorem codes_S (l : List Nat) : KStt.codes (S l) = l.map fun (c : Nat) => (c : Int) := by unfold KStt.codes; rw [S_cps]
theorem foldl_none {g : Option Int → Int → Option Int} (hg : ∀ c, g none c = none) : ∀ l : List Int, l.foldl g none = none
  | [] => rfl
  | c :: l => by rw [List.foldl_cons, hg]; exact foldl_none hg l
theorem fig_start : List.foldl figStep (some 0) [] = some 0 ∧ (0 : Int) ≤ 0 := ⟨rfl, Int.le_refl _⟩
theorem fig_turn {pre : List Int} {f : Int} {c : Nat} (h : pre.foldl figStep (some 0) = some f) (h0 : 0 ≤ f) (hc : ¬ Txt.find (PySem.Str.ofString "0123456789") ⟨#[c]⟩ < 0) :
    (pre ++ [(c : Int)]).foldl figStep (some 0) = some (f * 10 + Txt.find (PySem.Str.ofString "0123456789") ⟨#[c]⟩) ∧ 0 ≤ f * 10 + Txt.find (PySem.Str.ofString "0123456789") ⟨#[c]⟩ := by
  rw [find_fig] at *
  unfold figv at *
  rw [List.foldl_append, h]
  by_cases q : 48 ≤ c ∧ c ≤ 57
  · rw [if_pos q]
    have q' : (48 : Int) ≤ c ∧ (c : Int) ≤ 57 := by omega
    simp only [List.foldl_cons, List.foldl_nil, figStep, Option.bind_some, if_pos q']
    exact ⟨trivial, by omega⟩
  · rw [if_neg q] at hc; omega
theorem fig_bad {l : List Nat} {pre post : List Int} {f : Int} {c : Nat} (e : KStt.codes (S l) = pre ++ (c : Int) :: post) (h : pre.foldl figStep (some 0) = some f) (hc : Txt.find (PySem.Str.ofString "0123456789") ⟨#[c]⟩ < 0) : none = figN l := by
  rw [codes_S] at e
  rw [find_fig] at hc
  have hne : l ≠ [] := by rintro rfl; simp at e
  rw [figN, if_neg hne, e, List.foldl_append, h, List.foldl_cons]
  have q : ¬ ((48 : Int) ≤ c ∧ (c : Int) ≤ 57) := fun q => by
    unfold figv at hc; rw [if_pos (by omega)] at hc; omega
  have z : figStep (some f) c = none := by simp only [figStep, Option.bind_some, if_neg q]
  rw [z, foldl_none (fun _ => rfl)]
theorem fig_done {l : List Nat} {f : Int} (hn : (S l == PySem.Str.ofString "") = false) (h : (KStt.codes (S l)).foldl figStep (some 0) = some f) : some f = figN l := by
  have hne : l ≠ [] := by rintro rfl; revert hn; decide +kernel
  rw [figN, if_neg hne, ← h, codes_S]
theorem fig_empty {l : List Nat} (hn : (S l == PySem.Str.ofString "") = true) : none = figN l := by
  have e : S l = PySem.Str.ofString "" := beq_iff_eq.mp hn
  have e' : l = [] := by rw [s_e] at e; rw [← S_cps l, e, S_cps]
  rw [figN, if_pos e']

noncomputable def hasP (l sg : List Nat) (n : Nat) (b : Bool) : Bool := !b && ((l.drop n).take sg.length == sg)
noncomputable def numP (l : List Nat) (n : Nat) (b : Bool) (wd : Nat) (lo hi : Int) : Option Int :=
  if b = true ∨ l.length < n + wd then none else (figN ((l.drop n).take wd)).bind fun f => if lo ≤ f ∧ f ≤ hi then some f else none
noncomputable def amongP (T : List (List Nat)) (l : List Nat) (n : Nat) (b : Bool) : Option Nat := if b = true ∨ (l.drop n).take 3 ∉ T then none else some (T.idxOf ((l.drop n).take 3))
noncomputable def endsP (l : List Nat) (n : Nat) (b : Bool) : Bool := !b && (n == l.length)
noncomputable def stepN (o : Option α) (n w : Nat) : Nat := if o.isSome then n + w else n

theorem tk_nat {n k : Nat} : ((n : Int) + (k : Int) - (n : Int)).toNat = k := by omega
theorem hasP_b {l sg : List Nat} {n : Nat} {b : Bool} (h : b = true) : hasP l sg n b = false := by simp [hasP, h]
theorem hasP_ne {l sg : List Nat} {n : Nat} {b : Bool} (h : (S ((l.drop (n : Int).toNat).take ((n : Int) + (sg.length : Int) - (n : Int)).toNat) != S sg) = true) : hasP l sg n b = false := by
  rw [tk_nat, Int.toNat_natCast, bne_iff_ne, ne_eq, S_inj] at h
  simp [hasP, h]
theorem hasP_eq {l sg : List Nat} {n : Nat} {b : Bool} (hb : b = false) (h : (S ((l.drop (n : Int).toNat).take ((n : Int) + (sg.length : Int) - (n : Int)).toNat) != S sg) = false) : hasP l sg n b = true := by
  rw [tk_nat, Int.toNat_natCast, bne_eq_false_iff_eq, S_inj] at h
  simp [hasP, h, hb]

section
variable {l : List Nat} {n wd : Nat} {b : Bool} {lo hi f : Int}
theorem numP_b (h : b = true) : numP l n b wd lo hi = none := by simp [numP, h]
theorem numP_s (h : (l.length : Int) < n + wd) : numP l n b wd lo hi = none := by rw [numP, if_pos (.inr (by omega))]
theorem numP_f (h : figN (List.take ((n : Int) + (wd : Int) - (n : Int)).toNat (List.drop (n : Int).toNat l)) = none) : numP l n b wd lo hi = none := by
  rw [tk_nat, Int.toNat_natCast] at h
  unfold numP; split
  · rfl
  · rw [h]; rfl
theorem numP_x (h : figN (List.take ((n : Int) + (wd : Int) - (n : Int)).toNat (List.drop (n : Int).toNat l)) = some f) (hx : ¬ (lo ≤ f ∧ f ≤ hi)) : numP l n b wd lo hi = none := by
  rw [tk_nat, Int.toNat_natCast] at h
  unfold numP; split
  · rfl
  · rw [h, Option.bind_some, if_neg hx]
theorem numP_ok (hb : b = false) (hn : ¬ (l.length : Int) < n + wd) (h : figN (List.take ((n : Int) + (wd : Int) - (n : Int)).toNat (List.drop (n : Int).toNat l)) = some f) (hx : lo ≤ f ∧ f ≤ hi) : numP l n b wd lo hi = some f := by
  rw [tk_nat, Int.toNat_natCast] at h
  rw [numP, if_neg (by rintro (e | e); · rw [hb] at e; cases e
                       · omega), h, Option.bind_some, if_pos hx]
end

theorem tk_nat3 {n : Nat} : ((n : Int) + 3 - (n : Int)).toNat = 3 := by omega
section
variable {T : List (List Nat)} {l : List Nat} {n : Nat} {b : Bool}
theorem amongP_b (h : b = true) : amongP T l n b = none := by simp [amongP, h]
theorem amongP_no (h : ¬ List.take ((n : Int) + 3 - (n : Int)).toNat (List.drop (n : Int).toNat l) ∈ T) : amongP T l n b = none := by
  rw [tk_nat3, Int.toNat_natCast] at h
  rw [amongP, if_pos (.inr h)]
theorem amongP_in (h : ¬ ¬ List.take ((n : Int) + 3 - (n : Int)).toNat (List.drop (n : Int).toNat l) ∈ T) : List.take ((n : Int) + 3 - (n : Int)).toNat (List.drop (n : Int).toNat l) ∈ T :=
  Decidable.not_not.mp h
theorem amongP_ok (hb : b = false) (h : ¬ ¬ List.take ((n : Int) + 3 - (n : Int)).toNat (List.drop (n : Int).toNat l) ∈ T) : amongP T l n b = some (T.idxOf (List.take ((n : Int) + 3 - (n : Int)).toNat (List.drop (n : Int).toNat l))) := by
  have q := amongP_in h
  rw [tk_nat3, Int.toNat_natCast] at q ⊢
  rw [amongP, if_neg (by rintro (e | e); · rw [hb] at e; cases e
                         · exact e q)]
theorem endsP_b (h : b = true) : endsP l n b = false := by simp [endsP, h]
theorem endsP_n (h : b = false) : endsP l n b = ((n : Int) == (l.length : Int)) := by
  rw [endsP, h, Bool.eq_iff_iff]; simp; omega
end
noncomputable def p0 : PS := (0, false)
noncomputable def hasB (l sg : List Nat) (p : PS) : Bool := hasP l sg p.1 p.2
noncomputable def hasS (l sg : List Nat) (p : PS) : PS := (if hasP l sg p.1 p.2 = true then p.1 + sg.length else p.1, p.2)
noncomputable def needS (l sg : List Nat) (p : PS) : PS := (if hasP l sg p.1 p.2 = true then p.1 + sg.length else p.1, !hasP l sg p.1 p.2)
noncomputable def numS (l : List Nat) (p : PS) (wd : Nat) (lo hi : Int) : PS := (stepN (numP l p.1 p.2 wd lo hi) p.1 wd, (numP l p.1 p.2 wd lo hi).isNone)
noncomputable def numV (l : List Nat) (p : PS) (wd : Nat) (lo hi : Int) : Int := (numP l p.1 p.2 wd lo hi).getD lo
noncomputable def amS (T : List (List Nat)) (l : List Nat) (p : PS) : PS := (stepN (amongP T l p.1 p.2) p.1 3, (amongP T l p.1 p.2).isNone)
noncomputable def amV (T : List (List Nat)) (l : List Nat) (p : PS) : Int := (((amongP T l p.1 p.2).getD 0 : Nat) : Int)
noncomputable def endB (l : List Nat) (p : PS) : Bool := endsP l p.1 p.2
noncomputable def digs (l : List Nat) (n : Nat) : Nat := ((l.drop n).takeWhile digit).length
noncomputable def lyW (l : List Nat) (p : PS) : Nat := max 4 (digs l (hasS l (PySem.Str.ofString "-").cps.toList p).1)
noncomputable def lyS (l : List Nat) (p : PS) : PS := numS l (hasS l (PySem.Str.ofString "-").cps.toList p) (lyW l p) 0 999999
noncomputable def lyV (l : List Nat) (p : PS) : Int := if hasB l (PySem.Str.ofString "-").cps.toList p = true then -numV l (hasS l (PySem.Str.ofString "-").cps.toList p) (lyW l p) 0 999999 else numV l (hasS l (PySem.Str.ofString "-").cps.toList p) (lyW l p) 0 999999
theorem getD_drop (l : List Nat) (n k : Nat) : (l.drop n).getD k 0 = l.getD (n + k) 0 := by simp
theorem dg_stop {l : List Nat} {n : Nat} {e : Int} (h0 : (n : Int) ≤ e) (h1 : e ≤ (n : Int) + (digs l n : Int)) (h : ¬ e < (l.length : Int) ∨ digit (l.getD e.toNat 0) = false) : e = (n : Int) + (digs l n : Int) := by
  by_cases c : e = (n : Int) + (digs l n : Int)
  · exact c
  · have hk : (e - n).toNat < digs l n := by omega
    have a := takeWhile_all digit 0 (l.drop n) (e - n).toNat hk
    rw [getD_drop, show n + (e - n).toNat = e.toNat by omega] at a
    have b : digs l n ≤ (l.drop n).length := takeWhile_len_le _ _
    rw [List.length_drop] at b
    rcases h with h | h
    · omega
    · rw [h] at a; cases a
theorem dg_turn {l : List Nat} {n : Nat} {e : Int} (h0 : (n : Int) ≤ e) (h1 : e ≤ (n : Int) + (digs l n : Int)) (h3 : e < (l.length : Int)) (h : digit (l.getD e.toNat 0) = true) : (n : Int) ≤ e + 1 ∧ e + 1 ≤ (n : Int) + (digs l n : Int) := by
  refine ⟨by omega, ?_⟩
  by_cases c : e = (n : Int) + (digs l n : Int)
  · rcases takeWhile_stop digit 0 (l.drop n) with a | a
    · rw [List.length_drop] at a
      have : digs l n = l.length - n := a
      omega
    · rw [getD_drop, show n + ((l.drop n).takeWhile digit).length = e.toNat by unfold digs at c; omega, h] at a
      cases a
  · omega
theorem dg_wd {l : List Nat} {n : Nat} {e : Int} (h : e = (n : Int) + (digs l n : Int)) : (if e - (n : Int) > 4 then e - (n : Int) else 4).toNat = max 4 (digs l n) := by
  subst h; split <;> omega

noncomputable abbrev zMinus : List Nat := (PySem.Str.ofString "-").cps.toList
noncomputable abbrev zPlus : List Nat := (PySem.Str.ofString "+").cps.toList
noncomputable abbrev zColon : List Nat := (PySem.Str.ofString ":").cps.toList
noncomputable abbrev zSp : List Nat := (PySem.Str.ofString " ").cps.toList
noncomputable abbrev zComma : List Nat := (PySem.Str.ofString ", ").cps.toList
noncomputable abbrev zGmt : List Nat := (PySem.Str.ofString " GMT").cps.toList
noncomputable abbrev n2 : Nat := Int.toNat 2
noncomputable def ckA (l : List Nat) (p : PS) : PS := needS l zColon (numS l p n2 0 23)
noncomputable def ckB (l : List Nat) (p : PS) : PS := needS l zColon (numS l (ckA l p) n2 0 59)
noncomputable def ckS (l : List Nat) (p : PS) : PS := numS l (ckB l p) n2 0 59
noncomputable def ckH (l : List Nat) (p : PS) : Int := numV l p n2 0 23
noncomputable def ckM (l : List Nat) (p : PS) : Int := numV l (ckA l p) n2 0 59
noncomputable def ckC (l : List Nat) (p : PS) : Int := numV l (ckB l p) n2 0 59
noncomputable def znA (l : List Nat) (p : PS) : PS := if hasB l zMinus p = true then hasS l zMinus p else needS l zPlus (hasS l zMinus p)
noncomputable def znS (l : List Nat) (p : PS) : PS := numS l (numS l (znA l p) n2 0 23) n2 0 59
noncomputable def znV (l : List Nat) (p : PS) : Int := if hasB l zMinus p = true then -(numV l (znA l p) n2 0 23 * 60 + numV l (numS l (znA l p) n2 0 23) n2 0 59) else numV l (znA l p) n2 0 23 * 60 + numV l (numS l (znA l p) n2 0 23) n2 0 59
noncomputable def isoBad (l : List Nat) : Prop := hasP l zPlus 0 false = false ∧ hasP l zMinus 0 false = false ∧ numP l 0 false (Int.toNat 4) 0 9999 = none
theorem has_1 {l sg : List Nat} {p : PS} (h : p.2 = true) : hasB l sg p = false ∧ p = hasS l sg p := by
  have e : hasP l sg p.1 p.2 = false := by simp [hasP, h]
  exact ⟨e, by simp [hasS, e]⟩
theorem tk_nat' {n : Nat} {k : Nat} : ((n : Int) + (k : Int) - (n : Int)).toNat = k := by omega
theorem has_2 {l sg : List Nat} {p : PS} (h : p.2 = false) (hb : (List.take ((p.1 : Int) + (sg.length : Int) - (p.1 : Int)).toNat (List.drop (p.1 : Int).toNat l) != sg) = true) : hasB l sg p = false ∧ p = hasS l sg p := by
  rw [tk_nat', Int.toNat_natCast] at hb
  have e : hasP l sg p.1 p.2 = false := by
    unfold hasP
    cases q : (List.take sg.length (List.drop p.1 l) == sg) with
    | false => rw [Bool.and_false]
    | true => unfold bne at hb; rw [q] at hb; cases hb
  exact ⟨e, by simp [hasS, e]⟩
theorem has_3 {l sg : List Nat} {p : PS} (h : p.2 = false) (hb : (List.take ((p.1 : Int) + (sg.length : Int) - (p.1 : Int)).toNat (List.drop (p.1 : Int).toNat l) != sg) = false) : hasB l sg p = true ∧ (p.1 + sg.length, p.2) = hasS l sg p := by
  rw [tk_nat', Int.toNat_natCast] at hb
  have e : hasP l sg p.1 p.2 = true := by
    unfold hasP
    cases q : (List.take sg.length (List.drop p.1 l) == sg) with
    | true => rw [h]; rfl
    | false => unfold bne at hb; rw [q] at hb; cases hb
  exact ⟨e, by simp [hasS, e]⟩
theorem c_has (w : World) (r : Rd) (rest : Led) (p : PS) (tA : Tok) (sg : List Nat) (b : Nat) (v : Value) (hv : RVs (some r) rest [.str sg b] [v]) :
    Claim w 269 1 [.ref r.x, v] (rdLed (some r) p tA rest) (RdGood (some r) rest ∧ b ≤ 10) (OkM r rest (.bool (hasB r.l sg p)) (hasS r.l sg p)) := by
  refine fn_M (N := 0) (fs := []) (ms := []) kB (by k_is) (by k_is) hv rfl (by exact rfl) (by exact rfl) (by exact rfl) (by exact ⟨rfl, rfl, rfl, rfl⟩) (fun hl hb => ?_)
  have g : Nat.ble b 16777216 = true := Nat.ble_eq_true_of_le (Nat.le_trans hb (by decide))
  refine ⟨fun a => ⟨fun _ => ?_, fun c => ?_⟩, fun a => guardI g ⟨⟨Int.natCast_nonneg _, Int.le_add_of_nonneg_right (Int.natCast_nonneg _)⟩, fun c => ?_, fun c => guardI g ⟨p.1 + sg.length, rfl, ?_⟩⟩⟩
  · exact ⟨(has_1 a).1.symm, (has_1 a).2⟩
  · rw [a] at c; cases c
  · exact ⟨(has_2 a c).1.symm, (has_2 a c).2⟩
  · exact ⟨(has_3 a c).1.symm, (has_3 a c).2⟩
noncomputable def m_has (w : World) : MtSpec w := mkMt (PySem.Str.ofString "has") 269 1 (fun l p xs k => on1 xs fun x => onS x fun sg b => guard (Nat.ble b 10) (k (.bool (hasB l sg p)) (hasS l sg p))) (by k_is) (by k_is) (by k_is) (by k_is) (fun _ _ _ => rfl) fun r rest p xs vs k rv h => on1E h rv fun x v h rx e => by
  subst e
  cases x <;> first | exact h.elim | skip
  exact ⟨_, _, _, (guardE h).2, Nat.le_of_ble_eq_true (guardE h).1, fun tA => c_has w r rest p tA _ _ v ⟨_, _, rfl, rx, rfl⟩⟩
theorem need_1 {l sg : List Nat} {p : PS} (h : hasB l sg p = true) : hasS l sg p = needS l sg p := by
  have h : hasP l sg p.1 p.2 = true := h
  have hb : p.2 = false := by cases e : p.2 with | false => rfl | true => rw [e] at h; simp [hasP] at h
  unfold hasS needS; rw [h, hb]; rfl
theorem need_2 {l sg : List Nat} {p : PS} (h : hasB l sg p = false) : ((hasS l sg p).1, true) = needS l sg p := by
  have h : hasP l sg p.1 p.2 = false := h
  simp [hasS, needS, h]
theorem c_need (w : World) (r : Rd) (rest : Led) (p : PS) (tA : Tok) (sg : List Nat) (b : Nat) (v : Value) (hv : RVs (some r) rest [.str sg b] [v]) :
    Claim w 276 2 [.ref r.x, v] (rdLed (some r) p tA rest) (RdGood (some r) rest ∧ b ≤ 10) (OkM r rest .none (needS r.l sg p)) := by
  refine fn_M (N := 1) (fs := []) (ms := [m_has w]) (K := fun x => isNone x = true) kN (by k_is) (by k_is) hv rfl (by exact rfl) (by exact rfl) (by exact rfl) (by exact ⟨rfl, rfl, rfl, rfl⟩) (fun hl hb => ?_)
  refine guardI (Nat.ble_eq_true_of_le hb) ⟨fun c => ⟨rfl, need_2 ?_⟩, fun c => ⟨rfl, need_1 ?_⟩⟩
  · cases e : hasB r.l sg p with | false => rfl | true => rw [e] at c; cases c
  · cases e : hasB r.l sg p with | true => rfl | false => rw [e] at c; cases c
noncomputable def m_need (w : World) : MtSpec w := mkMt (PySem.Str.ofString "need") 276 2 (fun l p xs k => on1 xs fun x => onS x fun sg b => guard (Nat.ble b 10) (k .none (needS l sg p))) (by k_is) (by k_is) (by k_is) (by k_is) (fun _ _ _ => rfl) fun r rest p xs vs k rv h => on1E h rv fun x v h rx e => by
  subst e
  cases x <;> first | exact h.elim | skip
  exact ⟨_, _, _, (guardE h).2, Nat.le_of_ble_eq_true (guardE h).1, fun tA => c_need w r rest p tA _ _ v ⟨_, _, rfl, rx, rfl⟩⟩
theorem fig_find {c : Nat} : Txt.find (S (PySem.Str.ofString "0123456789").cps.toList) (S [c]) = figv c := by rw [S_of]; exact find_fig c
theorem codes_1 (l : List Nat) : (l.map fun (c : Nat) => (c : Int)) = KStt.codes (S l) := (codes_S l).symm
theorem c_number_of_figures (w : World) (l : List Nat) (b : Nat) (v : Value) (news : Led) (hv : RVs none news [.str l b] [v]) : Claim w 248 1 [v] news True (OkN (figN l) news) := by
  refine fn_O (N := 0) (fs := []) (by k_is) (by k_is) hv rfl (by exact rfl) (by exact rfl) (by exact rfl) (by exact ⟨rfl, rfl, rfl, rfl⟩) (fun _ => ?_)
  have e0 : (PySem.Str.ofString "").cps.toList = [] := sl "" _ s_e
  refine ⟨fun hc => .inl ⟨rfl, ?_⟩, fun hc => ⟨fun pre lk _ => ∃ f : Int, lk = [(PySem.Str.ofString "found", .int f), (PySem.Str.ofString "text", .str l b)] ∧ (pre.map fun (c : Nat) => (c : Int)).foldl figStep (some 0) = some f ∧ 0 ≤ f, ?_, ?_, ?_⟩⟩
  · rw [e0] at hc; rw [figN, if_pos (eq_of_beq hc)]
  · exact ⟨[(PySem.Str.ofString "found", .int 0), (PySem.Str.ofString "text", .str l b)], ⟨rfl, rfl, trivial⟩, 0, rfl, rfl, Int.le_refl _⟩
  · rintro pre c post lk p e ⟨f, rfl, h1, h2⟩
    refine ⟨fun n => .inl ⟨rfl, ?_⟩, fun n => ⟨[(PySem.Str.ofString "found", .int (f * 10 + Txt.find (S (PySem.Str.ofString "0123456789").cps.toList) (S [c]))), (PySem.Str.ofString "text", .str l b)], ⟨rfl, rfl, trivial⟩, guardI rfl ⟨_, rfl, ?_⟩⟩⟩
    · have n := of_decide_eq_true n
      rw [fig_find, ← find_fig] at n
      exact (fig_bad (l := l) (pre := pre.map fun (c : Nat) => (c : Int)) (post := post.map fun (c : Nat) => (c : Int)) (by rw [codes_S, e, List.map_append, List.map_cons]) h1 n).symm
    · have n := of_decide_eq_false n
      rw [fig_find, ← find_fig] at n ⊢
      have q := fig_turn h1 h2 n
      rw [List.map_append]; exact q
  · rintro lk p ⟨f, rfl, h1, h2⟩
    refine .inr ⟨f, rfl, ?_⟩
    rw [e0] at hc
    rw [figN, if_neg (ne_of_beq_false hc), h1]
noncomputable def s248 (w : World) : FnSpec w where
  f := 248
  n := 1
  sp xs k := on1 xs fun x => onS x fun l _ => (figN l = none → k .none) ∧ ∀ j, figN l = some j → k (.int j)
  keep := by k_is
  sound {R rest pvs vs k} rv h news hn := on1E h rv fun x v h rx e => by
    subst e
    cases x <;> first | exact h.elim | skip
    rename_i l b
    have c := c_number_of_figures w l b v news ⟨_, _, rfl, by obtain ⟨a, t, rfl⟩ := rx; exact ⟨a, t, rfl⟩, rfl⟩
    cases hg : figN l with
    | none => rw [hg] at c; exact sound_V (pv := .none) trivial c (h.1 hg)
    | some j => rw [hg] at c; exact sound_V (pv := .int j) trivial c (h.2 j hg)
theorem num_no {l : List Nat} {p : PS} {wd : Nat} {lo hi : Int} (h : numP l p.1 p.2 wd lo hi = none) : numV l p wd lo hi = lo ∧ (p.1, true) = numS l p wd lo hi := by simp [numV, numS, h, stepN]
theorem num_yes {l : List Nat} {p : PS} {wd : Nat} {lo hi f : Int} (hb : p.2 = false) (h : numP l p.1 p.2 wd lo hi = some f) : numV l p wd lo hi = f ∧ (p.1 + wd, p.2) = numS l p wd lo hi := by
  unfold numV numS; rw [h, hb]; exact ⟨rfl, rfl⟩
theorem c_number (w : World) (r : Rd) (rest : Led) (p : PS) (tA : Tok) (wd lo hi : Int) (v1 v2 v3 : Value) (hv : RVs (some r) rest [.int wd, .int lo, .int hi] [v1, v2, v3]) :
    Claim w 283 2 [.ref r.x, v1, v2, v3] (rdLed (some r) p tA rest) (RdGood (some r) rest ∧ 0 ≤ wd) (OkM r rest (.int (numV r.l p wd.toNat lo hi)) (numS r.l p wd.toNat lo hi)) := by
  refine fn_M (N := 1) (fs := [s248 w]) (ms := []) kI (by k_is) (by k_is) hv rfl (by exact rfl) (by exact rfl) (by exact rfl) (by exact ⟨rfl, rfl, rfl, rfl⟩) (fun hl hw => ?_)
  obtain ⟨u, rfl⟩ := Int.eq_ofNat_of_zero_le hw
  rw [Int.toNat_natCast]
  have no := @num_no r.l p u lo hi
  have nn : numP r.l p.1 p.2 u lo hi = none → lo = numV r.l p u lo hi ∧ (p.1, true) = numS r.l p u lo hi := fun h => ⟨(no h).1.symm, (no h).2⟩
  refine ⟨⟨Int.natCast_nonneg _, Int.le_add_of_nonneg_right (Int.natCast_nonneg _)⟩, fun hf => ?_, fun f hf => ?_⟩
  · have z := nn (numP_f (b := p.2) hf)
    refine ⟨fun a => ⟨fun _ => z, fun c => ?_⟩, fun a => guardI rfl ⟨fun d => ⟨fun _ => z, fun c => ?_⟩, fun d => ⟨fun _ => ⟨fun _ => z, nofun⟩, nofun⟩⟩⟩
    · rw [a] at c; cases c
    · rw [d] at c; cases c
  · refine ⟨fun a => ⟨fun _ => nn (numP_b a), fun c => ?_⟩, fun a => guardI rfl ⟨fun d => ⟨fun _ => nn (numP_s (b := p.2) (of_decide_eq_true d)), fun c => ?_⟩, fun d => ⟨nofun, fun _ => ?_⟩⟩⟩
    · rw [a] at c; cases c
    · rw [d] at c; cases c
    have hd : ¬ (r.l.length : Int) < (p.1 : Int) + (u : Int) := of_decide_eq_false d
    refine ⟨fun c1 => ⟨fun c2 => nn (numP_x (b := p.2) hf fun q => ?_), fun c2 => ?_⟩, fun c1 => ⟨fun _ => nn (numP_x (b := p.2) hf fun q => of_decide_eq_false c1 q.1), fun c2 => ?_⟩⟩
    · have c2 : (!decide (f ≤ hi)) = true := c2
      rw [decide_eq_true q.2] at c2; cases c2
    · have c2 : (!decide (f ≤ hi)) = false := c2
      have q : f ≤ hi := by cases e : decide (f ≤ hi) with | true => exact of_decide_eq_true e | false => rw [e] at c2; cases c2
      have z := num_yes a (numP_ok (lo := lo) (hi := hi) a hd hf ⟨of_decide_eq_true c1, q⟩)
      exact ⟨p.1 + u, rfl, z.1.symm, z.2⟩
    · rw [c1] at c2; cases c2
noncomputable def m_number (w : World) : MtSpec w := mkMt (PySem.Str.ofString "number") 283 2 (fun l p xs k => onc xs fun x xs => onc xs fun y xs => on1 xs fun z => onI x fun wd => onI y fun lo => onI z fun hi => 0 ≤ wd ∧ k (.int (numV l p wd.toNat lo hi)) (numS l p wd.toNat lo hi)) (by k_is) (by k_is) (by k_is) (by k_is) (fun _ _ _ => rfl) fun r rest p xs vs k rv h =>
  oncE h rv fun x xs v vs' h rx rs e => oncE h rs fun y xs u vs' h ry rs e' => on1E h rs fun z s h rz e2 => e ▸ e' ▸ e2 ▸
    onIE (P := fun v => ∃ pv p' pre, k pv p' ∧ pre ∧ ∀ tA, Claim w 283 2 [.ref r.x, v, u, s] (rdLed (some r) p tA rest) (RdGood (some r) rest ∧ pre) (OkM r rest pv p')) h rx fun wd t1 h => onIE (P := fun u => ∃ pv p' pre, k pv p' ∧ pre ∧ ∀ tA, Claim w 283 2 [.ref r.x, .int wd t1, u, s] (rdLed (some r) p tA rest) (RdGood (some r) rest ∧ pre) (OkM r rest pv p')) h ry fun lo t2 h => onIE (P := fun s => ∃ pv p' pre, k pv p' ∧ pre ∧ ∀ tA, Claim w 283 2 [.ref r.x, .int wd t1, .int lo t2, s] (rdLed (some r) p tA rest) (RdGood (some r) rest ∧ pre) (OkM r rest pv p')) h rz fun hi t3 h =>
      ⟨_, _, _, h.2, h.1, fun tA => c_number w r rest p tA wd lo hi _ _ _ (.cI (.cI (.cI .nil)))⟩
theorem c_ends (w : World) (r : Rd) (rest : Led) (p : PS) (tA : Tok) : Claim w 297 1 [.ref r.x] (rdLed (some r) p tA rest) (RdGood (some r) rest ∧ True) (OkM r rest (.bool (endB r.l p)) p) := by
  refine fn_M (N := 0) (fs := []) (ms := []) kB (by k_is) (by k_is) .nil rfl (by exact rfl) (by exact rfl) (by exact rfl) (by exact ⟨rfl, rfl, rfl, rfl⟩) (fun hl _ => ?_)
  refine ⟨fun a => guardI rfl ⟨?_, rfl⟩, fun a => ⟨?_, rfl⟩⟩
  · have e : p.2 = false := by cases e : p.2 with | false => rfl | true => rw [e] at a; cases a
    unfold endB; rw [endsP_n e]; rfl
  · have e : p.2 = true := by cases e : p.2 with | true => rfl | false => rw [e] at a; cases a
    unfold endB; rw [endsP_b e, e]; rfl
noncomputable def m_ends (w : World) : MtSpec w := mkMt (PySem.Str.ofString "ends") 297 1 (fun l p xs k => guard xs.isEmpty (k (.bool (endB l p)) p)) (by k_is) (by k_is) (by k_is) (by k_is) (fun _ _ _ => rfl) fun r rest p xs vs k rv h => by
  obtain rfl := List.isEmpty_iff.mp (guardE h).1
  cases rv
  exact ⟨_, _, _, (guardE h).2, trivial, fun tA => c_ends w r rest p tA⟩
theorem am_no {T : List (List Nat)} {l : List Nat} {p : PS} (h : amongP T l p.1 p.2 = none) : 0 = amV T l p ∧ (p.1, true) = amS T l p := by
  unfold amV amS; rw [h]; exact ⟨rfl, rfl⟩
theorem am_yes {T : List (List Nat)} {l : List Nat} {p : PS} {i : Nat} (hb : p.2 = false) (h : amongP T l p.1 p.2 = some i) : (i : Int) = amV T l p ∧ (p.1 + 3, p.2) = amS T l p := by
  unfold amV amS; rw [h, hb]; exact ⟨rfl, rfl⟩
theorem c_among (w : World) (T : List (List Nat)) (a : Addr) (hT : (a = 185 ∧ T = wkT) ∨ (a = 184 ∧ T = monT)) (r : Rd) (rest : Led) (p : PS) (tA : Tok) : Claim w 290 1 [.ref r.x, .ref a] (rdLed (some r) p tA rest) (RdGood (some r) rest ∧ True) (OkM r rest (.int (amV T r.l p)) (amS T r.l p)) := by
  have hv : RVs (some r) rest [.ref a] [.ref a] := ⟨_, _, rfl, rfl, rfl⟩
  rcases hT with ⟨rfl, rfl⟩ | ⟨rfl, rfl⟩
  all_goals
    refine fn_M (N := 0) (fs := []) (ms := []) kI (by k_is) (by k_is) hv rfl (by exact rfl) (by exact rfl) (by exact rfl) (by exact ⟨rfl, rfl, rfl, rfl⟩) (fun hl _ => ?_)
    refine ⟨⟨Int.natCast_nonneg _, Int.le_add_of_nonneg_right (by decide)⟩, fun b => ⟨fun _ => am_no (amongP_b b), fun c => ?_⟩, fun b => ⟨fun c => am_no (amongP_no (b := p.2) ?_), fun c => ⟨p.1 + 3, rfl, ?_⟩⟩⟩
    · rw [b] at c; cases c
    · exact fun q => by rw [decide_eq_true q] at c; cases c
    · have q : ¬ ¬ _ := fun q => by rw [decide_eq_false q] at c; cases c
      have z := am_yes b (amongP_ok b q)
      exact ⟨Decidable.not_not.mp q, z.1, z.2⟩
noncomputable def m_among (w : World) : MtSpec w := mkMt (PySem.Str.ofString "among") 290 1 (fun l p xs k => on1 xs fun x => onR x fun a => bif Nat.beq a 185 then k (.int (amV wkT l p)) (amS wkT l p) else guard (Nat.beq a 184) (k (.int (amV monT l p)) (amS monT l p))) (by k_is) (by k_is) (by k_is) (by k_is) (fun _ _ _ => rfl) fun r rest p xs vs k rv h => on1E h rv fun x v h rx e => by
  subst e
  cases x <;> first | exact h.elim | skip
  rename_i a
  obtain rfl := rx
  have h : (bif Nat.beq a 185 then k (.int (amV wkT r.l p)) (amS wkT r.l p) else guard (Nat.beq a 184) (k (.int (amV monT r.l p)) (amS monT r.l p))) := h
  cases h1 : Nat.beq a 185 with
  | true => rw [h1] at h; exact ⟨_, _, _, h, trivial, c_among w wkT a (.inl ⟨Nat.eq_of_beq_eq_true h1, rfl⟩) r rest p⟩
  | false =>
    rw [h1] at h
    have g := guardE h
    exact ⟨_, _, _, g.2, trivial, c_among w monT a (.inr ⟨Nat.eq_of_beq_eq_true g.1, rfl⟩) r rest p⟩
theorem rvN {R : Option Rd} {rest : Led} : RVs R rest [] [] := rfl
theorem c_zone (w : World) (r : Rd) (rest : Led) (p : PS) (tA : Tok) : Claim w 325 3 [.ref r.x, .bool false] (rdLed (some r) p tA rest) (RdGood (some r) rest ∧ True) (OkM r rest (.int (znV r.l p)) (znS r.l p)) := by
  refine fn_M (N := 2) (fs := []) (ms := [m_has w, m_need w, m_number w]) kI (by k_is) (by k_is) (.cB rvN) rfl (by exact rfl) (by exact rfl) (by exact rfl) (by exact ⟨rfl, rfl, rfl, rfl⟩) (fun hl _ => ?_)
  have d : (0 : Int) ≤ 2 := by decide
  refine ⟨fun a => ?_, fun a => ?_⟩
  · have c : hasB r.l zMinus p = false := by cases e : hasB r.l zMinus p with | false => rfl | true => have a : (!hasB r.l zMinus p) = true := a; rw [e] at a; cases a
    have e : znA r.l p = needS r.l zPlus (hasS r.l zMinus p) := by unfold znA; rw [if_neg (by rw [c]; exact Bool.false_ne_true)]
    refine ⟨d, nofun, fun _ => ⟨d, fun b => ?_, fun b => ⟨?_, ?_⟩⟩⟩
    · have b : hasB r.l zMinus p = true := b
      rw [c] at b; cases b
    · unfold znV; rw [if_neg (by rw [c]; exact Bool.false_ne_true), e]; rfl
    · unfold znS; rw [e]
  · have c : hasB r.l zMinus p = true := by cases e : hasB r.l zMinus p with | true => rfl | false => have a : (!hasB r.l zMinus p) = false := a; rw [e] at a; cases a
    have e : znA r.l p = hasS r.l zMinus p := by unfold znA; rw [if_pos c]
    refine ⟨d, nofun, fun _ => ⟨d, fun b => ⟨?_, ?_⟩, fun b => ?_⟩⟩
    · unfold znV; rw [if_pos c, e]; rfl
    · unfold znS; rw [e]
    · have b : hasB r.l zMinus p = false := b
      rw [c] at b; cases b
noncomputable def m_zone (w : World) : MtSpec w := mkMt (PySem.Str.ofString "zone") 325 3 (fun l p xs k => on1 xs fun x => onB x fun b => guard (!b) (k (.int (znV l p)) (znS l p))) (by k_is) (by k_is) (by k_is) (by k_is) (fun _ _ _ => rfl) fun r rest p xs vs k rv h => on1E h rv fun x v h rx e => by
  subst e
  cases x <;> first | exact h.elim | skip
  rename_i b
  cases b with
  | true => cases (guardE h).1
  | false => cases rx; exact ⟨_, _, _, h, trivial, fun tA => c_zone w r rest p tA⟩
theorem c_clock (w : World) (r : Rd) (rest : Led) (p : PS) (tA : Tok) : Claim w 318 3 [.ref r.x] (rdLed (some r) p tA rest) (RdGood (some r) rest ∧ True) (OkM r rest (.tup [ckH r.l p, ckM r.l p, ckC r.l p, 0]) (ckS r.l p)) := by
  refine fn_M (N := 2) (fs := []) (ms := [m_need w, m_number w]) kT (by k_is) (by k_is) rvN rfl (by exact rfl) (by exact rfl) (by exact rfl) (by exact ⟨rfl, rfl, rfl, rfl⟩) (fun hl _ => ?_)
  have d : (0 : Int) ≤ 2 := by decide
  exact ⟨d, d, d, rfl, rfl⟩
noncomputable def m_clock (w : World) : MtSpec w := mkMt (PySem.Str.ofString "clock") 318 3 (fun l p xs k => guard xs.isEmpty (k (.tup [ckH l p, ckM l p, ckC l p, 0]) (ckS l p))) (by k_is) (by k_is) (by k_is) (by k_is) (fun _ _ _ => rfl) fun r rest p xs vs k rv h => by
  obtain rfl := List.isEmpty_iff.mp (guardE h).1
  cases rv
  exact ⟨_, _, _, (guardE h).2, trivial, fun tA => c_clock w r rest p tA⟩
theorem fig_mem (c : Nat) : decide (c ∈ (PySem.Str.ofString "0123456789").cps.toList) = digit c := (contains_one _ c).symm.trans (fig_in c)
theorem c_long_year (w : World) (r : Rd) (rest : Led) (p : PS) (tA : Tok) : Claim w 311 3 [.ref r.x] (rdLed (some r) p tA rest) (RdGood (some r) rest ∧ True) (OkM r rest (.int (lyV r.l p)) (lyS r.l p)) := by
  refine fn_M (N := 2) (fs := []) (ms := [m_has w, m_number w]) kI (by k_is) (by k_is) rvN rfl (by exact rfl) (by exact rfl) (by exact rfl) (by exact ⟨rfl, rfl, rfl, rfl⟩) (fun hl _ => ?_)
  refine ⟨fun _ _ _ _ _ => rfl, fun μ lk p' => ∃ e : Int, p' = hasS r.l zMinus p ∧ lk = [(PySem.Str.ofString "is_below", .bool (hasB r.l zMinus p)), (PySem.Str.ofString "end", .int e), (PySem.Str.ofString "self", .rd)] ∧ μ = (hasS r.l zMinus p).1 + digs r.l (hasS r.l zMinus p).1 - e.toNat ∧ ((hasS r.l zMinus p).1 : Int) ≤ e ∧ e ≤ ((hasS r.l zMinus p).1 : Int) + (digs r.l (hasS r.l zMinus p).1 : Int), ?_, ?_⟩
  · exact ⟨_, [(PySem.Str.ofString "is_below", .bool (hasB r.l zMinus p)), (PySem.Str.ofString "end", .int ((hasS r.l zMinus p).1 : Int)), (PySem.Str.ofString "self", .rd)], ⟨rfl, rfl, rfl, trivial⟩, _, rfl, rfl, rfl, Int.le_refl _, Int.le_add_of_nonneg_right (Int.natCast_nonneg _)⟩
  rintro μ lk p' ⟨e, rfl, rfl, rfl, h1, h2⟩
  have h0 : 0 ≤ e := Int.le_trans (Int.natCast_nonneg _) h1
  have out : (¬ e < (r.l.length : Int) ∨ digit (r.l.getD e.toNat 0) = false) → 0 ≤ (if e - ((hasS r.l zMinus p).1 : Int) > 4 then e - ((hasS r.l zMinus p).1 : Int) else 4) ∧
      (hasB r.l zMinus p = true → -numV r.l (hasS r.l zMinus p) (if e - ((hasS r.l zMinus p).1 : Int) > 4 then e - ((hasS r.l zMinus p).1 : Int) else 4).toNat 0 999999 = lyV r.l p ∧ numS r.l (hasS r.l zMinus p) (if e - ((hasS r.l zMinus p).1 : Int) > 4 then e - ((hasS r.l zMinus p).1 : Int) else 4).toNat 0 999999 = lyS r.l p) ∧
      (hasB r.l zMinus p = false → numV r.l (hasS r.l zMinus p) (if e - ((hasS r.l zMinus p).1 : Int) > 4 then e - ((hasS r.l zMinus p).1 : Int) else 4).toNat 0 999999 = lyV r.l p ∧ numS r.l (hasS r.l zMinus p) (if e - ((hasS r.l zMinus p).1 : Int) > 4 then e - ((hasS r.l zMinus p).1 : Int) else 4).toNat 0 999999 = lyS r.l p) := fun d => by
    have z := dg_wd (dg_stop h1 h2 d)
    refine ⟨by split <;> omega, fun b => ?_, fun b => ?_⟩
    · rw [z, lyV, if_pos b]; exact ⟨rfl, rfl⟩
    · rw [z, lyV, if_neg (by rw [b]; exact Bool.false_ne_true)]; exact ⟨rfl, rfl⟩
  refine guardI rfl ⟨fun a => guardI rfl ⟨⟨h0, of_decide_eq_true a⟩, fun d => ?_, fun d => ?_⟩, fun a => ⟨fun d => ?_, fun _ => out (.inl (of_decide_eq_false a))⟩⟩
  · have d : decide (r.l.getD e.toNat 0 ∈ (PySem.Str.ofString "0123456789").cps.toList) = true := d
    rw [fig_mem] at d
    have z := dg_turn h1 h2 (of_decide_eq_true a) d
    exact ⟨_, [(PySem.Str.ofString "is_below", .bool (hasB r.l zMinus p)), (PySem.Str.ofString "end", .int (e + 1)), (PySem.Str.ofString "self", .rd)], by omega, ⟨rfl, rfl, rfl, trivial⟩, _, rfl, rfl, rfl, z⟩
  · have d : decide (r.l.getD e.toNat 0 ∈ (PySem.Str.ofString "0123456789").cps.toList) = false := d
    rw [fig_mem] at d
    exact out (.inr d)
  · have d : decide (e < (r.l.length : Int)) = true := d
    have a : decide (e < (r.l.length : Int)) = false := a
    rw [a] at d; cases d
noncomputable def m_long_year (w : World) : MtSpec w := mkMt (PySem.Str.ofString "long_year") 311 3 (fun l p xs k => guard xs.isEmpty (k (.int (lyV l p)) (lyS l p))) (by k_is) (by k_is) (by k_is) (by k_is) (fun _ _ _ => rfl) fun r rest p xs vs k rv h => by
  obtain rfl := List.isEmpty_iff.mp (guardE h).1
  cases rv
  exact ⟨_, _, _, (guardE h).2, trivial, fun tA => c_long_year w r rest p tA⟩
example : KF PySem.Challenge.rw_nt0366_01 Mine.hd.heap_1 := by k_fill; trivial
section
variable {w : World} {cs : PySem.Scope} {lk : Lk} {m : PySem.Str → Option Value}
theorem new_rdr (C : Cx w cs) {l : List Nat} {t : Tok} {p : PS} {tA : Tok} {rest : Led} {h : Heap} {tk : Nat} {Q : Value → Shared → Prop} (s : Stt C none lk m p tA rest h) (hl : l.length ≤ 1000) (hd : C.dp + 1 < recursionLimit) (hu : C.un + 8 * 1 < cLine)
    (f : ∀ r h' tk' tA', r.l = l → Stt C (some r) lk m (0, false) tA' rest h' → Q (.ref r.x) (C.st h' tk')) : C.wp (call (.ref 328) [.str (S l) t]) Q h tk := by
  obtain ⟨prog, pp, loose, mean, mg, mb, dp, un, gd, cn, L, a, ccd, cl, outer, A₀, base, h₀, gs, dr, os, B, X, T, hk⟩ := C
  obtain ⟨F, N, G, H⟩ := s
  unfold Cx.wp
  dsimp only [Cx.A, Cx.st, Cx.env, rdLed] at *
  refine call_cls F X N (by k_is) (by k_is) (by k_is) ?_
  intro x dx h1 F1 N1 l1 l2
  refine code_def B F1 X N1 T rfl rfl hk (by k_is) (by k_is) (show dp + 1 < _ from hd) (BindsTo.of_eq (binds := [(_, _), (_, _)]) rfl) (locs rfl) ?_ rfl rfl rfl (by decide)
  intro g' L' h' FG' F' N' B' X' T'
  dsimp only
  k_steps
  refine set_dict F' X' N' (InstAt.of_news N' (.head _) (.tail _ (.head _))) rfl (by k_is) (by k_is) (by k_is) (by k_is) rfl rfl (.tail (Nat.ne_of_gt l2) (.head fun p hp => Nat.ne_of_lt (l1 p hp))) (by exact Nat.le_of_ble_eq_true rfl) ?_
  intro hh0 FF0 NN0
  clear F' N'
  k_steps
  refine set_dict FF0 X' NN0 (InstAt.of_news NN0 (.head _) (.tail _ (.head _))) rfl (by k_is) (by k_is) (by k_is) (by k_is) rfl rfl (.tail (Nat.ne_of_gt l2) (.head fun p hp => Nat.ne_of_lt (l1 p hp))) (by exact Nat.le_of_ble_eq_true rfl) ?_
  intro hh1 FF1 NN1
  clear FF0 NN0
  k_steps
  refine set_dict FF1 X' NN1 (InstAt.of_news NN1 (.head _) (.tail _ (.head _))) rfl (by k_is) (by k_is) (by k_is) (by k_is) rfl rfl (.tail (Nat.ne_of_gt l2) (.head fun p hp => Nat.ne_of_lt (l1 p hp))) (by exact Nat.le_of_ble_eq_true rfl) ?_
  intro hh2 FF2 NN2
  clear FF1 NN1
  k_steps
  exact f ⟨x, dx, l, t, PyData.keyHash w.params (PySem.Str.ofString "text"), PyData.keyHash w.params (PySem.Str.ofString "at"), PyData.keyHash w.params (PySem.Str.ofString "is_wrong"), tk + 1, tk + 2 + 1 + 1, tk + 2 + 1 + 2 + 1⟩ hh2 _ (tk + 2) rfl ⟨by assumption, by with_unfolding_all assumption, ⟨l2, fun p hp => Nat.ne_of_lt (l1 p hp), hl⟩, fun y q e => (H y q e).elim fun v e => ⟨v, e.1, e.2.any⟩⟩
end
noncomputable abbrev sRd : PySem.Str := PySem.Str.ofString "reader"
noncomputable abbrev sTx : PySem.Str := PySem.Str.ofString "text"
section
variable {w : World} {cs : PySem.Scope} {m : PySem.Str → Option Value} {fs : List (FnSpec w)} {ms : List (MtSpec w)} {N : Nat} {K : PV → PS → Prop}
theorem new_body (C : Cx w cs) (G : Glo w glT) {l : List Nat} {b : Nat} {q1 q2 q3 q4 q5 : Pos} {bs : List PySem.Stmt} {kn : Lk → PS → Prop} {p : PS} {tA : Tok} {rest : Led} {h : Heap} {tk : Nat}
    (hx : cs.names.lookup sRd = some .local) (hD : cs.names.lookup (PySem.Str.ofString "DateReader") = some .globalImplicit) (ht : cs.names.lookup sTx = some .local) (hd : C.dp + N < recursionLimit) (hu : C.un + 8 * N < cLine) (hN : 2 ≤ N) (hl : l.length ≤ 1000)
    (s : Stt C none [(sTx, .str l b)] m p tA rest h) (V : ∀ r : Rd, r.l = l → evS (some r) cs fs ms N K 60 bs [(sRd, .rd), (sTx, .str l b)] (0, false) kn) :
    C.wp (execs (.Assign [.Name sRd q1] (.Call (.Name (PySem.Str.ofString "DateReader") q2) [.Name sTx q3] [] q4) q5 :: bs) C.env) (fun fl s => ∃ r : Rd, EndS C (some r) rest K kn fl s) h tk := by
  refine wpAny_execs_cons (wpAny_Assign_Name (Call_ (nameX_K s.F C.X (topRead_of C.T) (by k_is) ?_ C.hk hD (by decide)) rfl) rfl)
  have ev := (ev_sound (C := C) (R := none) (lk := [(sTx, .str l b)]) (m := m) (fs := fs) (ms := ms) G hd hu 40).1
  have e : evN cs [(sTx, .str l b)] sTx = some (.str l b) := by unfold evN; rw [ht]; rfl
  refine callWith_K C.X (by k_is) (args_sound ev [.Name sTx q3] p (fun xs p => xs = [.str l b]) rfl ?_ _ _ _ _ _ s fun xs p vs h' tk' tA' rest' hz S' hr rvs => ⟨C.X.keeps S'.F.keep, ?_⟩) rfl rfl
  · show onO (evN cs [(sTx, .str l b)] sTx) fun v => [v] = [PV.str l b]
    rw [e]; exact rfl
  obtain rfl := hz
  obtain ⟨v, _, rfl, ⟨_, t, rfl⟩, rfl⟩ := rvs
  refine new_rdr C S' hl (by omega) (by omega) fun r h2 tk2 tA2 hr2 S2 => ?_
  refine store_sound (z := .rd) S2 ⟨r, rfl, rfl⟩ hx fun m3 h3 tk3 S3 => ?_
  exact wpAny_mono (st_sound (C := C) (rest0 := rest) G hd hu 60 bs kn (V r hr2) S3 hr) (fun fl s e => ⟨r, e⟩) fun _ _ e => e
end
section
variable {w : World} {f : Addr} {n N : Nat} {l : List Nat} {t : Tok} {news : Led} {pre : Prop} {name qual : PySem.Str} {params : Arguments} {bs : List PySem.Stmt} {scope : PySem.Scope} {dV kV doc pm cdv ct oc : Value} {an od : Option Addr} {osl : Array (Option Value)}
  {fs : List (FnSpec w)} {ms : List (MtSpec w)} {q1 q2 q3 q4 q5 : Pos}
theorem fn_R {o : Option Int} (ho : (Mine.hd.heap_1 w.params).lookup f = some ⟨oc, od, .func (fnOf name qual params (.Assign [.Name sRd q1] (.Call (.Name (PySem.Str.ofString "DateReader") q2) [.Name sTx q3] [] q4) q5 :: bs) scope dV kV doc pm an cdv ct), osl⟩) (hcd : codeIn (Mine.hd.heap_1 w.params) cdv qual = true)
    (hb : bindArgs (fnOf name qual params (.Assign [.Name sRd q1] (.Call (.Name (PySem.Str.ofString "DateReader") q2) [.Name sTx q3] [] q4) q5 :: bs) scope dV kV doc pm an cdv ct) ⟨[.str (S l) t], []⟩ = pure [(sTx, .str (S l) t)]) (hx : scope.names.lookup sRd = some .local) (hD : scope.names.lookup (PySem.Str.ofString "DateReader") = some .globalImplicit) (ht : scope.names.lookup sTx = some .local)
    (hg : scope.isCoroutine = false ∧ scope.isGenerator = false ∧ scope.kind = .function ∧ (scope.names.all fun x => !(x.2 == .cell)) = true) (hn : Nat.blt N n = true) (hN : Nat.ble 2 N = true)
    (V : pre → ∀ r : Rd, r.l = l → evS (some r) scope fs ms N (fun x _ => (x = .none ∧ o = none) ∨ ∃ i, x = .int i ∧ o = some i) 60 bs [(sRd, .rd), (sTx, .str l 1000)] (0, false) fun _ _ => o = none) : Claim w f n [.str (S l) t] news (l.length ≤ 1000 ∧ pre) (OkN o news) := by
  refine ⟨fun hpre prog p₀ loose mean mg mb dp un gd cn cs a ccd cl outer A₀ base h₀ L m h gs dr tk os Q E B F X N' T hk hdp hun hret => ?_⟩
  have hn := Nat.le_of_ble_eq_true hn
  refine wpAny_call (code_def B F X N' T rfl rfl hk ho hcd (show dp < _ by omega) (BindsTo.of_eq (binds := [(sTx, .str (S l) t)]) hb) (locs (by show (decide _ && true) = true; rw [ht]; rfl)) ?_ hg.1 hg.2.1 hg.2.2.1 ?_)
  · intro g L' h₁ FG F' N2 B' X' T'
    refine wpAny_mono (new_body (Cx.mk prog p₀ loose mean mg mb (dp + 1) (un + 3) gd qual L' f cdv [] (envX cn cs L a ccd cl :: outer) _ base g gs dr os B' X' T' hg.2.2.1) (glT_ok w) (p := (0, false)) (tA := 0) (rest := news) (b := 1000) hx hD ht (show dp + 1 + N < _ by omega) (show un + 3 + 8 * N < _ by omega) (Nat.le_of_ble_eq_true hN) hpre.1
      ⟨F', N2, trivial, fun y q e => ?_⟩ (V hpre.2)) (fun fl s' hp => ?_) fun _ _ h => h.elim
    · rw [List.lookup_cons] at e
      cases hy : y == sTx with
      | true => rw [hy] at e; cases e; exact ⟨_, by show List.lookup y [(sTx, _)] = _; rw [List.lookup_cons, hy], hpre.1, t, rfl⟩
      | false => rw [hy] at e; cases e
    obtain ⟨r, hp⟩ := hp
    have fin : ∀ x p lk m₂ tA rest h tk v, ((x = .none ∧ o = none) ∨ ∃ i, x = .int i ∧ o = some i) → Stt (Cx.mk prog p₀ loose mean mg mb (dp + 1) (un + 3) gd qual L' f cdv [] (envX cn cs L a ccd cl :: outer) _ base g gs dr os B' X' T' hg.2.2.1) (some r) lk m₂ p tA rest h → (∀ q ∈ news, q ∈ rest) → RV (some r) rest x v →
        LeaveK h₀ L m g (fun r s' => match r with | .ok (.ret v) => Q v s' | .ok _ => False | .error e => E e s') v ⟨h, gs, dr, tk, os⟩ := fun x p lk m₂ tA rest h tk v hx s hr r => by
      refine leaveK_ s.F (fun q hq => s.N q (rdLed_rest hq)) fun F3 N3 => hret _ rest _ tk F3 N3 ⟨hr, ?_⟩
      rcases hx with ⟨rfl, rfl⟩ | ⟨i, rfl, rfl⟩ <;> exact r
    cases fl with
    | next => obtain ⟨lk, m, p, tA, rest, h, tk, hk, s, rfl, hr⟩ := hp; exact fin .none _ _ _ _ _ _ _ _ (.inl ⟨rfl, hk⟩) s hr rfl
    | ret v => obtain ⟨x, p, lk, m, tA, rest, h, tk, hk, s, rfl, hr, rv⟩ := hp; exact fin _ _ _ _ _ _ _ _ _ hk s hr rv
    | brk => exact hp.elim
    | cont => exact hp.elim
  · intro x hx e
    have := List.all_eq_true.mp hg.2.2.2 x hx
    rw [e] at this
    cases this
end
/-- parse_shown in plain words -/
noncomputable def shMid (l : List Nat) : PS × Int × Int :=
  if hasB l zComma (amS wkT l p0) = true then
    (amS monT l (needS l zSp (numS l (hasS l zComma (amS wkT l p0)) n2 1 31)), numV l (hasS l zComma (amS wkT l p0)) n2 1 31, amV monT l (needS l zSp (numS l (hasS l zComma (amS wkT l p0)) n2 1 31)))
  else
    (numS l (needS l zSp (amS monT l (needS l zSp (hasS l zComma (amS wkT l p0))))) n2 1 31, numV l (needS l zSp (amS monT l (needS l zSp (hasS l zComma (amS wkT l p0))))) n2 1 31, amV monT l (needS l zSp (hasS l zComma (amS wkT l p0))))
noncomputable def shY (l : List Nat) : PS := needS l zSp (shMid l).1
noncomputable def shCk (l : List Nat) : PS := needS l zSp (lyS l (shY l))
noncomputable def shG (l : List Nat) : PS := needS l zGmt (ckS l (shCk l))
noncomputable def shE (l : List Nat) : PS := if hasB l zComma (amS wkT l p0) = true then shG l else znS l (shG l)
noncomputable def shO (l : List Nat) : Int := if hasB l zComma (amS wkT l p0) = true then 0 else znV l (shG l)
noncomputable def shT (l : List Nat) : Int := mkDay (lyV l (shY l)) (shMid l).2.2 (shMid l).2.1 * 86400000 + (ckH l (shCk l) * 3600000 + ckM l (shCk l) * 60000 + ckC l (shCk l) * 1000 + 0)
noncomputable def parseShown (l : List Nat) : Option Int :=
  if endB l (shE l) = false then none
  else if (shT l / 86400000 + 4) % 7 = amV wkT l p0 then clipI (shT l - shO l * 60000) else none

theorem z_minus : zMinus = [45] := by decide +kernel
theorem z_plus : zPlus = [43] := by decide +kernel
theorem z_colon : zColon = [58] := by decide +kernel
theorem z_sp : zSp = [32] := by decide +kernel
theorem z_comma : zComma = [44, 32] := by decide +kernel
theorem z_gmt : zGmt = [32, 71, 77, 84] := by decide +kernel
/-- at p, not wrong, with r to come -/
structure At (l : List Nat) (p : PS) (r : List Nat) : Prop where
  ok : p.2 = false
  eq : l.drop p.1 = r
  le : p.1 + r.length = l.length
theorem At.start (l : List Nat) : At l p0 l := ⟨rfl, rfl, by simp [p0]⟩
theorem At.of {l : List Nat} {p q : PS} {a r : List Nat} (h : At l p (a ++ r)) (e1 : q.1 = p.1 + a.length) (e2 : q.2 = false) : At l q r := by
  refine ⟨e2, ?_, ?_⟩
  · rw [e1, ← List.drop_drop, h.eq]; simp
  · have := h.le; rw [List.length_append] at this; omega
section
variable {l : List Nat} {p : PS} {a r sg : List Nat}
theorem At.take (h : At l p (a ++ r)) (hk : k = a.length) : (l.drop p.1).take k = a := by rw [h.eq, hk]; simp
theorem At.yes (h : At l p (sg ++ r)) : hasP l sg p.1 p.2 = true := by
  unfold hasP; rw [h.ok, h.take rfl]; simp
theorem At.hasB (h : At l p (sg ++ r)) : hasB l sg p = true := h.yes
theorem At.hasS (h : At l p (sg ++ r)) : At l (hasS l sg p) r := h.of (by unfold Mine.hasS; rw [h.yes, if_pos rfl]) h.ok
theorem At.need (h : At l p (sg ++ r)) : At l (needS l sg p) r := h.of (by unfold needS; rw [h.yes, if_pos rfl]) (by unfold needS; rw [h.yes]; rfl)
theorem At.no (h : At l p r) (hn : r.take sg.length ≠ sg) : hasP l sg p.1 p.2 = false := by
  unfold hasP; rw [h.eq]; simp [hn]
theorem At.hasB_no (h : At l p r) (hn : r.take sg.length ≠ sg) : Mine.hasB l sg p = false := h.no hn
theorem At.hasS_no (h : At l p r) (hn : r.take sg.length ≠ sg) : Mine.hasS l sg p = p := by
  unfold Mine.hasS; rw [h.no hn, if_neg (by decide)]
theorem At.need_no (h : At l p r) (hn : r.take sg.length ≠ sg) : (needS l sg p).2 = true := by
  unfold needS; rw [h.no hn]; rfl
theorem At.end (h : At l p []) : endB l p = true := by
  have := h.le
  unfold endB endsP; rw [h.ok]; simp at this ⊢; exact this
theorem At.end_no (h : At l p (c :: r)) : endB l p = false := by
  have := h.le
  unfold endB endsP; rw [h.ok]; simp at this ⊢; omega
theorem At.num {v : Int} {wd : Nat} {lo hi : Int} (h : At l p (a ++ r)) (hw : a.length = wd) (hv : figN a = some v) (h1 : lo ≤ v ∧ v ≤ hi) : numV l p wd lo hi = v ∧ At l (numS l p wd lo hi) r := by
  have q : numP l p.1 p.2 wd lo hi = some v := by
    unfold numP
    have := h.le
    rw [List.length_append] at this
    rw [h.take hw.symm, hv, if_neg (by rw [h.ok]; simp; omega), Option.bind_some, if_pos h1]
  refine ⟨by unfold numV; rw [q]; rfl, h.of ?_ ?_⟩
  · unfold numS stepN; rw [q, hw]; rfl
  · unfold numS; rw [q]; rfl
theorem At.num_no {wd : Nat} {lo hi : Int} (h : At l p r) (hn : r.length < wd ∨ figN (r.take wd) = none) : (numS l p wd lo hi).2 = true := by
  have q : numP l p.1 p.2 wd lo hi = none := by
    unfold numP
    have := h.le
    split
    · rfl
    · rename_i c
      rw [h.eq]
      rcases hn with hn | hn
      · exact absurd (.inr (by omega)) c
      · rw [hn]; rfl
  unfold numS; rw [q]; rfl
theorem At.am {T : List (List Nat)} {i : Nat} (h : At l p (a ++ r)) (hw : a.length = 3) (hi : T.idxOf a = i) (hm : a ∈ T) : amV T l p = (i : Int) ∧ At l (amS T l p) r := by
  have q : amongP T l p.1 p.2 = some i := by
    unfold amongP
    rw [h.take hw.symm, hi, if_neg (by rw [h.ok]; simp [hm])]
  refine ⟨by unfold amV; rw [q]; rfl, h.of ?_ ?_⟩
  · unfold amS stepN; rw [q, hw]; rfl
  · unfold amS; rw [q]; rfl
theorem At.am_no {T : List (List Nat)} (h : At l p r) (hn : r.take 3 ∉ T) : (amS T l p).2 = true := by
  have q : amongP T l p.1 p.2 = none := by
    unfold amongP
    rw [h.eq, if_pos (.inr hn)]
  unfold amS; rw [q]; rfl
-- wrong stays wrong
theorem bad_has (h : p.2 = true) : Mine.hasB l sg p = false := by unfold Mine.hasB hasP; rw [h]; rfl
theorem bad_hasS (h : p.2 = true) : (Mine.hasS l sg p).2 = true := h
theorem bad_need (h : p.2 = true) : (needS l sg p).2 = true := by unfold needS hasP; rw [h]; rfl
theorem bad_num {wd : Nat} {lo hi : Int} (h : p.2 = true) : (numS l p wd lo hi).2 = true := by unfold numS numP; rw [if_pos (.inl h)]; rfl
theorem bad_am {T : List (List Nat)} (h : p.2 = true) : (amS T l p).2 = true := by unfold amS amongP; rw [if_pos (.inl h)]; rfl
theorem bad_end (h : p.2 = true) : endB l p = false := by unfold endB endsP; rw [h]; rfl
theorem bad_ly (h : p.2 = true) : (lyS l p).2 = true := bad_num (bad_hasS h)
theorem bad_ckA (h : p.2 = true) : (ckA l p).2 = true := bad_need (bad_num h)
theorem bad_ckB (h : (ckA l p).2 = true) : (ckB l p).2 = true := bad_need (bad_num h)
theorem bad_ck (h : p.2 = true) : (ckS l p).2 = true := bad_num (bad_ckB (bad_ckA h))
theorem bad_znA (h : p.2 = true) : (znA l p).2 = true := by
  unfold znA; rw [bad_has h]; exact bad_need (bad_hasS h)
theorem bad_zn (h : p.2 = true) : (znS l p).2 = true := bad_num (bad_num (bad_znA h))
theorem bad_E (h : (shG l).2 = true) : parseShown l = none := by
  unfold parseShown shE
  rw [if_pos]
  split
  · exact bad_end h
  · exact bad_end (bad_zn h)
theorem bad_Ck (h : (shCk l).2 = true) : parseShown l = none := bad_E (bad_need (bad_ck h))
theorem bad_Y (h : (shY l).2 = true) : parseShown l = none := bad_Ck (bad_need (bad_ly h))
theorem bad_A (h : (amS wkT l p0).2 = true) : parseShown l = none := by
  refine bad_Y (bad_need ?_)
  unfold shMid
  rw [bad_has h]
  exact bad_num (bad_need (bad_am (bad_need (bad_hasS h))))
end
noncomputable def chY (l : List Nat) (m : PS) : PS := needS l zSp m
noncomputable def chCk (l : List Nat) (m : PS) : PS := needS l zSp (lyS l (chY l m))
noncomputable def chG (l : List Nat) (m : PS) : PS := needS l zGmt (ckS l (chCk l m))
noncomputable def chT (l : List Nat) (m : PS) (mo d : Int) : Int := mkDay (lyV l (chY l m)) mo d * 86400000 + (ckH l (chCk l m) * 3600000 + ckM l (chCk l m) * 60000 + ckC l (chCk l m) * 1000 + 0)
noncomputable def shOut (l : List Nat) (g : PS) (T o : Int) : Option Int := if endB l g = false then none else if (T / 86400000 + 4) % 7 = amV wkT l p0 then clipI (T - o * 60000) else none
theorem shOut_clip {l : List Nat} {g : PS} {T o : Int} (h : endB l g = true) (e : (T / 86400000 + 4) % 7 = amV wkT l p0) : clipI (T - o * 60000) = shOut l g T o := by unfold shOut; rw [h, if_neg (by decide), if_pos e]
theorem shOut_day {l : List Nat} {g : PS} {T o : Int} (h : endB l g = true) (e : ¬ (T / 86400000 + 4) % 7 = amV wkT l p0) : none = shOut l g T o := by unfold shOut; rw [h, if_neg (by decide), if_neg e]
theorem shOut_end {l : List Nat} {g : PS} {T o : Int} (h : endB l g = false) : none = shOut l g T o := by unfold shOut; rw [if_pos h]
noncomputable def uA (l : List Nat) : PS := needS l zSp (numS l (hasS l zComma (amS wkT l p0)) n2 1 31)
noncomputable def nA (l : List Nat) : PS := needS l zSp (hasS l zComma (amS wkT l p0))
theorem ps_u {l : List Nat} (u : hasB l zComma (amS wkT l p0) = true) : shOut l (chG l (amS monT l (uA l))) (chT l (amS monT l (uA l)) (amV monT l (uA l)) (numV l (hasS l zComma (amS wkT l p0)) n2 1 31)) 0 = parseShown l := by
  have hm : shMid l = (amS monT l (uA l), numV l (hasS l zComma (amS wkT l p0)) n2 1 31, amV monT l (uA l)) := by unfold shMid; rw [if_pos u]; rfl
  unfold parseShown shOut shE shO shT shG shCk shY
  rw [hm, if_pos u, if_pos u]; rfl
theorem ps_n {l : List Nat} (u : hasB l zComma (amS wkT l p0) = false) :
    shOut l (znS l (chG l (numS l (needS l zSp (amS monT l (nA l))) n2 1 31))) (chT l (numS l (needS l zSp (amS monT l (nA l))) n2 1 31) (amV monT l (nA l)) (numV l (needS l zSp (amS monT l (nA l))) n2 1 31)) (znV l (chG l (numS l (needS l zSp (amS monT l (nA l))) n2 1 31))) = parseShown l := by
  have hm : shMid l = (numS l (needS l zSp (amS monT l (nA l))) n2 1 31, numV l (needS l zSp (amS monT l (nA l))) n2 1 31, amV monT l (nA l)) := by unfold shMid; rw [u, if_neg (by decide)]; rfl
  unfold parseShown shOut shE shO shT shG shCk shY
  rw [hm, u]
  simp only [Bool.false_eq_true, if_false]; rfl
theorem retN {h₀ h' : Heap} {L : Addr} {m : PySem.Str → Option Value} {news news' : Led} {gs : Array GenState} {dr : Drawn} {os : OsState} {Q : Value → Shared → Prop} {tk' : Nat} {n1 : Led} {o o' : Option Int} {r : Value}
    (hret : ∀ r news' h' tk', Fr h₀ L h' m → News h₀ L h' news' → OkN o news r news' → Q r ⟨h', gs, dr, tk', os⟩)
    (F : Fr h₀ L h' m) (N : News h₀ L h' news') (hs : ∀ p ∈ news, p ∈ news') (h : OkN o' n1 r n1) (e : o' = o) : Q r ⟨h', gs, dr, tk', os⟩ := by
  subst e; exact hret _ _ _ _ F (fun p hp => N p (hs p hp)) ⟨fun _ h => h, h.2⟩
section
variable {w : World} {R : Option Rd} {cs : PySem.Scope} {fs : List (FnSpec w)} {ms : List (MtSpec w)} {N n : Nat} {K : PV → PS → Prop} {lk : Lk} {p : PS} {kn : Lk → PS → Prop} {es vs : List PySem.Expr} {kk k2 : Nat} {q q' q2 : Pos} {rest : List PySem.Stmt} {xs : List PySem.Str}
theorem asgT_i (h1 : namesOf es = some xs) (h2 : allLocal cs xs = true) (h3 : ∀ cn L a ccd cl, swappedStores [.Tuple es kk q'] (.Tuple vs k2 q2) (envX cn cs L a ccd cl) = pure (bif swp xs vs then some xs else none)) (h4 : (vs.all notStar && allLocal cs xs.reverse) = true)
    (h : evA (evE R cs fs ms N lk 40) vs p fun zs p => guard (Nat.beq xs.length (zs.map unl).length && Nat.ble zs.length 20) (evS R cs fs ms N K n rest (bif swp xs vs then (xs.reverse.zip (zs.map unl).reverse).reverse ++ lk else (xs.zip (zs.map unl)).reverse ++ lk) p kn)) :
    evS R cs fs ms N K (n + 1) (.Assign [.Tuple es kk q'] (.Tuple vs k2 q2) q :: rest) lk p kn := by
  show onO (namesOf es) _
  rw [h1]
  show guard (allLocal cs xs) _
  rw [h2]
  exact ⟨h3, guardI h4 h⟩
theorem evA_i {ev : PS → PySem.Expr → (PV → PS → Prop) → Prop} {e : PySem.Expr} {r : List PySem.Expr} {k : List PV → PS → Prop} (h : ev p e fun x p => evA ev r p fun xs p => k (x :: xs) p) : evA ev (e :: r) p k := h
end
theorem isoN {l : List Nat} (h : isoBad l) : numS l (0, false) (Int.toNat 4) 0 9999 = (0, true) ∧ numV l (0, false) (Int.toNat 4) 0 9999 = 0 := by
  obtain ⟨_, _, b3⟩ := h
  exact ⟨by simp only [numS, b3, stepN]; rfl, by simp only [numV, b3]; rfl⟩
theorem isoW (l sg : List Nat) : hasB l sg (0, true) = false ∧ hasS l sg (0, true) = (0, true) := by
  have e' : hasP l sg 0 true = false := by simp [hasP]
  exact ⟨e', by simp [hasS, e']⟩
theorem isoP {l sg : List Nat} (h : hasP l sg 0 false = false) : hasB l sg (0, false) = false ∧ hasS l sg (0, false) = (0, false) := ⟨h, by simp [hasS, h]⟩
theorem ft {b : Bool} {P : Prop} (h : b = false) (e : b = true) : P := by rw [h] at e; cases e
theorem tf {b : Bool} {P : Prop} (h : b = true) (e : b = false) : P := by rw [h] at e; cases e
theorem c_year_bad (w : World) (r : Rd) (rest : Led) (tA : Tok) : Claim w 304 3 [.ref r.x] (rdLed (some r) (0, false) tA rest) (RdGood (some r) rest ∧ isoBad r.l) (OkM r rest (.int 0) (0, true)) := by
  refine fn_M (N := 2) (fs := []) (ms := [m_has w, m_number w]) kI (by k_is) (by k_is) rvN rfl (by exact rfl) (by exact rfl) (by exact rfl) (by exact ⟨rfl, rfl, rfl, rfl⟩) (fun hl hb => ?_)
  have e1 := isoP hb.1
  have e2 := isoP hb.2.1
  refine ⟨ft e1.1, fun _ => ⟨fun c => ft (by rw [e1.2]; exact e2.1 : hasB r.l zMinus (hasS r.l zPlus (0, false)) = false) c, fun _ => ⟨by decide, ?_, ?_⟩⟩⟩
  · show numV r.l (hasS r.l zMinus (hasS r.l zPlus (0, false))) (Int.toNat 4) 0 9999 = 0
    rw [e1.2, e2.2]; exact (isoN hb).2
  · show numS r.l (hasS r.l zMinus (hasS r.l zPlus (0, false))) (Int.toNat 4) 0 9999 = (0, true)
    rw [e1.2, e2.2]; exact (isoN hb).1
noncomputable def m_year (w : World) : MtSpec w := mkMt (PySem.Str.ofString "year") 304 3 (fun l p xs k => guard xs.isEmpty (p = (0, false) ∧ isoBad l ∧ k (.int 0) (0, true))) (by k_is) (by k_is) (by k_is) (by k_is) (fun _ _ _ => rfl) fun r rest p xs vs k rv h => by
  obtain rfl := List.isEmpty_iff.mp (guardE h).1
  cases rv
  obtain ⟨rfl, hb, hk⟩ := (guardE h).2
  exact ⟨_, _, _, hk, hb, fun tA => c_year_bad w r rest tA⟩
/-- a function from a text to a number or None -/
noncomputable def mkP {w : World} (f : Addr) (n : Nat) (P : List Nat → Prop) (g : List Nat → Option Int) (keep : keepIn (Mine.hd.heap_1 w.params) (.ref f) = true) (C : ∀ l t news, Claim w f n [.str (S l) t] news (l.length ≤ 1000 ∧ P l) (OkN (g l) news)) : FnSpec w where
  f := f
  n := n
  sp xs k := on1 xs fun x => onS x fun l b => guard (Nat.ble b 1000) (P l ∧ (g l = none → k .none) ∧ ∀ j, g l = some j → k (.int j))
  keep := keep
  sound {R rest pvs vs k} rv h news hn := on1E h rv fun x v h rv e => e ▸ onSE (P := fun v => Snd w f n news R k [v]) h rv fun l b t hk hl => by
    have hb := Nat.le_trans hl (Nat.le_of_ble_eq_true (guardE hk).1)
    obtain ⟨h1, h2, h3⟩ := (guardE hk).2
    cases hg : g l with
    | none => have c := C l t news; rw [hg] at c; exact sound_V (pv := .none) ⟨hb, h1⟩ c (h2 hg)
    | some j => have c := C l t news; rw [hg] at c; exact sound_V (pv := .int j) ⟨hb, h1⟩ c (h3 j hg)
theorem c_parse_iso (w : World) (l : List Nat) (t1 : Tok) (news : Led) : Claim w 346 5 [.str (S l) t1] news (l.length ≤ 1000 ∧ isoBad l) (OkN none news) := by
  refine fn_R (N := 4) (fs := []) (ms := [m_year w, m_has w, m_ends w]) (by k_is) (by k_is) rfl rfl rfl rfl (by exact ⟨rfl, rfl, rfl, rfl⟩) rfl rfl (fun hb r hr => ?_)
  subst hr
  refine asgT_i rfl rfl (fun _ _ _ _ _ => rfl) rfl (evA_i ?_)
  refine ⟨rfl, hb, ?_⟩
  have e1 := isoW r.l zMinus
  have e2 := isoW r.l (PySem.Str.ofString "T").cps.toList
  refine ⟨ft e1.1, fun _ => ⟨fun c => ft (by rw [e1.2]; exact e2.1 : hasB r.l (PySem.Str.ofString "T").cps.toList (hasS r.l zMinus (0, true)) = false) c, fun _ => ⟨fun _ => .inl ⟨rfl, rfl⟩, fun c => ?_⟩⟩⟩
  have c : (!endB r.l (hasS r.l (PySem.Str.ofString "T").cps.toList (hasS r.l zMinus (0, true)))) = false := c
  rw [e1.2, e2.2, show endB r.l (0, true) = false by simp [endB, endsP]] at c
  cases c
noncomputable def s346 (w : World) : FnSpec w := mkP 346 5 isoBad (fun _ => none) (by k_is) (c_parse_iso w)
theorem nb {b : Bool} (h : (!b) = true) : b = false := by cases b <;> first | rfl | cases h
theorem nb' {b : Bool} (h : (!b) = false) : b = true := by cases b <;> first | rfl | cases h
theorem c_parse_shown (w : World) (l : List Nat) (t1 : Tok) (news : Led) : Claim w 353 5 [.str (S l) t1] news (l.length ≤ 1000 ∧ True) (OkN (parseShown l) news) := by
  refine fn_R (N := 4) (fs := [s169 w, s183 w, s162 w, s99 w]) (ms := [m_among w, m_has w, m_number w, m_need w, m_long_year w, m_clock w, m_zone w, m_ends w]) (by k_is) (by k_is) rfl rfl rfl rfl (by exact ⟨rfl, rfl, rfl, rfl⟩) rfl rfl (fun hb r hr => ?_)
  subst hr
  have d : (0 : Int) ≤ 2 := by decide
  have dy : ∀ {T : Int}, (((T / 86400000 + 4) % 7 == amV wkT r.l p0) = true) → (T / 86400000 + 4) % 7 = amV wkT r.l p0 := fun h => eq_of_beq h
  have dn : ∀ {T : Int}, (((T / 86400000 + 4) % 7 == amV wkT r.l p0) = false) → ¬ (T / 86400000 + 4) % 7 = amV wkT r.l p0 := fun h e => by rw [e, beq_self_eq_true] at h; cases h
  refine asgT_i rfl rfl (fun _ _ _ _ _ => rfl) rfl (evA_i ?_)
  refine ⟨fun u => ?_, fun u => ?_⟩
  · have e := ps_u u
    refine ⟨d, ⟨fun c => tf u (nb c), fun _ => ⟨fun z => .inl ⟨rfl, ?_⟩, fun z => ?_⟩⟩⟩
    · exact e.symm.trans (shOut_end (nb z)).symm
    · exact ⟨fun q => ⟨trivial, fun h => .inl ⟨rfl, e.symm.trans ((shOut_clip (nb' z) (dy q)).symm.trans h)⟩, fun j h => .inr ⟨j, rfl, e.symm.trans ((shOut_clip (nb' z) (dy q)).symm.trans h)⟩⟩, fun q => .inl ⟨rfl, e.symm.trans (shOut_day (nb' z) (dn q)).symm⟩⟩
  · have e := ps_n u
    refine ⟨d, ⟨fun _ => ⟨fun z => .inl ⟨rfl, e.symm.trans (shOut_end (nb z)).symm⟩, fun z => ⟨fun q => ⟨trivial, fun h => .inl ⟨rfl, e.symm.trans ((shOut_clip (nb' z) (dy q)).symm.trans h)⟩, fun j h => .inr ⟨j, rfl, e.symm.trans ((shOut_clip (nb' z) (dy q)).symm.trans h)⟩⟩, fun q => .inl ⟨rfl, e.symm.trans (shOut_day (nb' z) (dn q)).symm⟩⟩⟩, fun c => ft u (nb' c)⟩⟩
noncomputable def s353 (w : World) : FnSpec w := mkP 353 5 (fun _ => True) parseShown (by k_is) (c_parse_shown w)
theorem c_parse_date (w : World) (l : List Nat) (t1 : Tok) (news : Led) : Claim w 360 6 [.str (S l) t1] news (l.length ≤ 1000 ∧ isoBad l) (OkN (parseShown l) news) := by
  refine ⟨fun ⟨hl, hb⟩ => (fn_O (N := 5) (fs := [s346 w, s353 w]) (pvs := [.str l 1000]) (pre := True) (by k_is) (by k_is) ⟨_, _, rfl, ⟨hl, t1, rfl⟩, rfl⟩ rfl (by exact rfl) (by exact rfl) (by exact rfl) (by exact ⟨rfl, rfl, rfl, rfl⟩) (fun _ => ?_)).out trivial⟩
  exact ⟨hb, fun _ => ⟨fun _ => ⟨trivial, fun h => .inl ⟨rfl, h⟩, fun j h => .inr ⟨j, rfl, h⟩⟩, nofun⟩, nofun⟩
noncomputable def s360 (w : World) : FnSpec w := mkP 360 6 isoBad parseShown (by k_is) (c_parse_date w)
noncomputable def octL (n : Nat) : List Nat := [37, hexC (n / 16), hexC (n % 16)]
noncomputable def hexv (c : Nat) : Int := if 48 ≤ c ∧ c ≤ 57 then (c : Int) - 48 else if 65 ≤ c ∧ c ≤ 70 then (c : Int) - 55 else if 97 ≤ c ∧ c ≤ 102 then (c : Int) - 87 else -1
noncomputable def hexStep (o : Option Int) (c : Int) : Option Int := o.bind fun f => if hexv c.toNat < 0 then none else some (f * 16 + hexv c.toNat)
noncomputable def hexN (l : List Nat) : Option Int := (l.map fun (c : Nat) => (c : Int)).foldl hexStep (some 0)
noncomputable abbrev hexMx (c : Nat) : Int := if Txt.find (PySem.Str.ofString "0123456789abcdef") ⟨#[c]⟩ > Txt.find (PySem.Str.ofString "0123456789ABCDEF") ⟨#[c]⟩ then Txt.find (PySem.Str.ofString "0123456789abcdef") ⟨#[c]⟩ else Txt.find (PySem.Str.ofString "0123456789ABCDEF") ⟨#[c]⟩
theorem hexMx_eq (c : Nat) : hexMx c = hexv c := by
  by_cases h : c < 128
  · exact (by decide +kernel : ∀ c, c < 128 → hexMx c = hexv c) c h
  · have e1 : Txt.find (PySem.Str.ofString "0123456789abcdef") ⟨#[c]⟩ = -1 := find_not (by
      rw [show PySem.Str.ofString "0123456789abcdef" = S [48, 49, 50, 51, 52, 53, 54, 55, 56, 57, 97, 98, 99, 100, 101, 102] by decide +kernel, S_cps]
      simp only [List.mem_cons, List.not_mem_nil, or_false]; omega)
    have e2 : Txt.find (PySem.Str.ofString "0123456789ABCDEF") ⟨#[c]⟩ = -1 := find_not (by
      rw [show PySem.Str.ofString "0123456789ABCDEF" = S [48, 49, 50, 51, 52, 53, 54, 55, 56, 57, 65, 66, 67, 68, 69, 70] by decide +kernel, S_cps]
      simp only [List.mem_cons, List.not_mem_nil, or_false]; omega)
    unfold hexMx hexv
    rw [e1, e2, if_neg (by omega), if_neg (by omega), if_neg (by omega), if_neg (by omega)]
theorem hex_start : List.foldl hexStep (some 0) [] = some 0 ∧ (0 : Int) ≤ 0 := ⟨rfl, Int.le_refl _⟩
theorem hex_turn {pre : List Int} {f : Int} {c : Nat} (h : pre.foldl hexStep (some 0) = some f) (h0 : 0 ≤ f) (hc : ¬ hexMx c < 0) :
    (pre ++ [(c : Int)]).foldl hexStep (some 0) = some (f * 16 + hexMx c) ∧ 0 ≤ f * 16 + hexMx c := by
  rw [hexMx_eq] at *
  rw [List.foldl_append, h, List.foldl_cons, List.foldl_nil]
  simp only [hexStep, Option.bind_some, Int.toNat_natCast, if_neg hc]
  exact ⟨trivial, by omega⟩
theorem hex_bad {l : List Nat} {pre post : List Int} {f : Int} {c : Nat} (e : KStt.codes (S l) = pre ++ (c : Int) :: post) (h : pre.foldl hexStep (some 0) = some f) (hc : hexMx c < 0) : none = hexN l := by
  rw [codes_S] at e
  rw [hexMx_eq] at hc
  have z : hexStep (some f) c = none := by simp only [hexStep, Option.bind_some, Int.toNat_natCast, if_pos hc]
  rw [hexN, e, List.foldl_append, h, List.foldl_cons, z, foldl_none (fun _ => rfl)]
theorem hex_done {l : List Nat} {f : Int} (h : (KStt.codes (S l)).foldl hexStep (some 0) = some f) : some f = hexN l := by
  rw [hexN, ← h, codes_S]

noncomputable def keptL : List Nat := [65, 66, 67, 68, 69, 70, 71, 72, 73, 74, 75, 76, 77, 78, 79, 80, 81, 82, 83, 84, 85, 86, 87, 88, 89, 90, 97, 98, 99, 100, 101, 102, 103, 104, 105, 106, 107, 108, 109, 110, 111, 112, 113, 114, 115, 116, 117, 118, 119, 120, 121, 122, 48, 49, 50, 51, 52, 53, 54, 55, 56, 57, 64, 42, 95, 43, 45, 46, 47]
noncomputable def escC (c : Nat) : List Nat := if c ∈ keptL then [c] else if c < 256 then octL c else [37, 117, hexC (c / 4096), hexC (c / 256 % 16), hexC (c / 16 % 16), hexC (c % 16)]
noncomputable def escL (l : List Nat) : List Nat := l.flatMap escC
noncomputable abbrev zHex : List Nat := (PySem.Str.ofString "0123456789ABCDEF").cps.toList
noncomputable abbrev zLow : List Nat := (PySem.Str.ofString "0123456789abcdef").cps.toList
theorem hexC_at {i : Nat} (h : i < 16) : zHex.getD i 0 = hexC i := (by decide +kernel : ∀ i, i < 16 → zHex.getD i 0 = hexC i) i h
theorem c_octet_text (w : World) (o : Int) (t1 : Tok) (news : Led) : Claim w 367 1 [.int o t1] news (0 ≤ o ∧ o ≤ 255) (OkV (.str (octL o.toNat) 3) news) := by
  refine fn_V (N := 0) (fs := []) kS (by k_is) (by k_is) (.cI .nil) rfl (by exact rfl) (by exact rfl) (by exact rfl) (by exact ⟨rfl, rfl, rfl, rfl⟩) (fun hp => ?_)
  obtain ⟨n, rfl⟩ := Int.eq_ofNat_of_zero_le hp.1
  have hn : n ≤ 255 := Int.ofNat_le.mp hp.2
  have e1 : ((n : Nat) : Int).fdiv (2 ^ Int.toNat 4) = ((n / 16 : Nat) : Int) := Int.fdiv_eq_ediv_of_nonneg _ (by decide)
  have e2 : ((n : Nat) : Int) % 16 = ((n % 16 : Nat) : Int) := rfl
  have b1 : n / 16 < 16 := by omega
  have b2 : n % 16 < 16 := Nat.mod_lt _ (by decide)
  refine ⟨by decide, ⟨by rw [e1]; exact Int.natCast_nonneg _, by rw [e1]; exact Int.ofNat_lt.mpr b1⟩, ⟨Int.natCast_nonneg _, Int.ofNat_lt.mpr b2⟩, ?_, Nat.le_refl _⟩
  show [37] ++ [zHex.getD (Int.toNat (((n : Nat) : Int).fdiv (2 ^ Int.toNat 4))) 0] ++ [zHex.getD (n % 16) 0] = octL n
  rw [e1, Int.toNat_natCast, hexC_at b1, hexC_at b2]; rfl
noncomputable def s367 (w : World) : FnSpec w := mk1P 367 1 (fun o => 0 ≤ o ∧ o ≤ 255) (fun o => .str (octL o.toNat) 3) (by k_is) (c_octet_text w)
theorem hexv_str (c : Nat) : (if Txt.find (S zLow) (S [c]) > Txt.find (S zHex) (S [c]) then Txt.find (S zLow) (S [c]) else Txt.find (S zHex) (S [c])) = hexMx c := by rw [S_of, S_of]; rfl
theorem c_hex_value (w : World) (l : List Nat) (t1 : Tok) (news : Led) : Claim w 374 1 [.str (S l) t1] news (l.length ≤ 1000 ∧ True) (OkN (hexN l) news) := by
  refine ⟨fun ⟨hl, hb⟩ => (fn_O (N := 0) (fs := []) (pvs := [.str l 1000]) (pre := True) (by k_is) (by k_is) ⟨_, _, rfl, ⟨hl, t1, rfl⟩, rfl⟩ rfl (by exact rfl) (by exact rfl) (by exact rfl) (by exact ⟨rfl, rfl, rfl, rfl⟩) (fun _ => ?_)).out trivial⟩
  refine ⟨fun pre lk _ => (lk.map (·.1) = [PySem.Str.ofString "figure", PySem.Str.ofString "found", PySem.Str.ofString "text"] ∨ True) ∧ ∃ f : Int, lk = [(PySem.Str.ofString "found", .int f), (PySem.Str.ofString "text", .str l 1000)] ∧ (pre.map fun (c : Nat) => (c : Int)).foldl hexStep (some 0) = some f ∧ 0 ≤ f, ?_, ?_, ?_⟩
  · exact ⟨[(PySem.Str.ofString "found", .int 0), (PySem.Str.ofString "text", .str l 1000)], ⟨rfl, rfl, trivial⟩, .inr trivial, 0, rfl, hex_start⟩
  · rintro pre c post lk p e ⟨_, f, rfl, h1, h2⟩
    refine ⟨fun n => .inl ⟨rfl, ?_⟩, fun n => ?_⟩
    · have n := of_decide_eq_true n
      rw [hexv_str] at n
      exact (hex_bad (l := l) (pre := pre.map fun (c : Nat) => (c : Int)) (post := post.map fun (c : Nat) => (c : Int)) (by rw [codes_S, e, List.map_append, List.map_cons]) h1 n).symm
    · have n := of_decide_eq_false n
      rw [hexv_str] at n
      have q := hex_turn h1 h2 n
      rw [← hexv_str] at q
      refine ⟨[(PySem.Str.ofString "found", .int _), (PySem.Str.ofString "text", .str l 1000)], ⟨rfl, rfl, trivial⟩, guardI rfl ⟨.inr trivial, _, rfl, ?_⟩⟩
      rw [List.map_append]; exact q
  · rintro lk p ⟨_, f, rfl, h1, h2⟩
    exact .inr ⟨f, rfl, (hex_done (l := l) (by rw [codes_S]; exact h1)).symm⟩
noncomputable def s374 (w : World) : FnSpec w := mkP 374 1 (fun _ => True) hexN (by k_is) (c_hex_value w)
theorem toDigits_decL : ∀ n : Nat, (Nat.toDigits 10 n).map Char.toNat = decL n := by
  intro n
  induction n using Nat.strongRecOn with
  | ind n ih =>
    have dc : ∀ d : Nat, d < 10 → (Nat.digitChar d).toNat = 48 + d := by decide
    rw [Nat.toDigits_eq_if (by decide), decL]
    split
    · rename_i h; simp [dc n h]
    · rename_i h
      rw [List.map_append, ih (n / 10) (by omega)]
      simp [dc (n % 10) (by omega)]
theorem str_num {n : Int} (h : 0 ≤ n) : PySem.Str.ofString (toString n) = S (decL n.toNat) := by
  obtain ⟨m, rfl⟩ : ∃ m : Nat, n = m := ⟨n.toNat, by omega⟩
  rw [← S_of (PySem.Str.ofString (toString ((m : Nat) : Int))), KIN.signs_num, toDigits_decL]; rfl
theorem mul_zero_S {k : Int} : Txt.mul (PySem.Str.ofString "0") k = S (List.replicate k.toNat 48) := by
  unfold Txt.mul
  by_cases h : k < 1
  · rw [if_pos h, show k.toNat = 0 by omega]; rfl
  · rw [if_neg h]
    by_cases h1 : k = 1
    · subst h1; simp [s_zero, S]
    · rw [if_neg (by simp [h1, s_zero, S_len])]
      have : ∀ (n : Nat) (a : List Nat), (List.replicate n (PySem.Str.ofString "0").cps).foldl (· ++ ·) a.toArray = (a ++ List.replicate n 48).toArray := by
        intro n
        induction n with
        | zero => intro a; simp
        | succ n ih =>
          intro a
          rw [List.replicate_succ, List.foldl_cons, s_zero]
          have e : a.toArray ++ (S [48]).cps = (a ++ [48]).toArray := by simp [S]
          rw [e, ← s_zero, ih, List.append_assoc]; rfl
      have q := this k.toNat []
      simp only [List.nil_append] at q
      rw [q]; rfl
theorem wide_eq {n m : Int} (h : 0 ≤ n ∧ n ≤ 999999 ∧ 1 ≤ m ∧ m ≤ 10) : Txt.mul (PySem.Str.ofString "0") (m - ((PySem.Str.ofString (toString n)).length : Int)) ++ PySem.Str.ofString (toString n) = S (padK n.toNat m.toNat) := by
  rw [str_num h.1, mul_zero_S, S_app, S_len]
  congr 1
  unfold padK
  by_cases hk : n.toNat = 0
  · rw [if_pos hk, hk]
    have e : decL 0 = [48] := by rw [decL]; rfl
    rw [e]
    have : ([48] : List Nat) = List.replicate 1 48 := rfl
    rw [this, List.replicate_append_replicate]
    congr 1; simp; omega
  · rw [if_neg hk]
    congr 2; omega
theorem join3 (a b c : List Nat) : Txt.join (PySem.Str.ofString ":") [S a, S b, S c] = S (a ++ [58] ++ b ++ [58] ++ c) := by
  rw [s_colon]
  unfold Txt.join Builtin.Str.glued
  simp [S]
theorem mul0_ok {k : Int} (h1 : -20 ≤ k) (h2 : k ≤ 20) : MulOk (S [48]) k := by
  have e : (S [48]).length = 1 := S_len _
  refine ⟨?_, fun a _ => ?_, fun a _ => ?_⟩
  · rw [decide_eq_false (by omega), decide_eq_false (by omega)]; rfl
  · have hk : 0 < k := by omega
    rw [e]
    have : 1 ≤ (2 ^ 63 - 1 : Int) / k := (Int.le_ediv_iff_mul_le hk).mpr (by omega)
    omega
  · rw [e, Nat.one_mul]
    unfold Builtin.Str.tooLong
    exact decide_eq_false (by rw [sizeLine_eq]; omega)
theorem z_zero : (PySem.Str.ofString "0").cps.toList = [48] := by decide +kernel
theorem c_law_wide (w : World) (n m : Int) (t1 t2 : Tok) (news : Led) : Claim w 402 1 [.int n t1, .int m t2] news (0 ≤ n ∧ n ≤ 999999 ∧ 1 ≤ m ∧ m ≤ 10) (OkV (.str (padK n.toNat m.toNat) 10) news) := by
  refine fn_V (N := 0) (fs := []) kS (by k_is) (by k_is) (.cI (.cI .nil)) rfl (by exact rfl) (by exact rfl) (by exact rfl) (by exact ⟨rfl, rfl, rfl, rfl⟩) (fun hp => ?_)
  have hl : (PySem.Str.ofString (toString n)).length = (decL n.toNat).length := by rw [str_num hp.1, S_len]
  have h6 : (decL n.toNat).length ≤ 6 := decL_len 5 _ (by omega)
  have hb : n.natAbs < 10 ^ 6 := by omega
  have w := wide_eq hp
  refine ⟨hb, guardI (Nat.ble_eq.mpr (by rw [hl]; omega)) ⟨?_, ?_, hb, guardI (Nat.ble_eq.mpr (by rw [hl]; omega)) ?_⟩⟩
  · show MulOk (S (PySem.Str.ofString "0").cps.toList) (m - ((PySem.Str.ofString (toString n)).cps.toList.length : Int))
    rw [z_zero, Array.length_toList]
    exact mul0_ok (by show -20 ≤ m - ((PySem.Str.ofString (toString n)).length : Int); omega) (by show m - ((PySem.Str.ofString (toString n)).length : Int) ≤ 20; omega)
  · show (Txt.mul (S (PySem.Str.ofString "0").cps.toList) (m - ((PySem.Str.ofString (toString n)).cps.toList.length : Int))).length ≤ 20
    rw [S_of, mul_zero_S, S_len, List.length_replicate]
    omega
  · show (Txt.mul (S (PySem.Str.ofString "0").cps.toList) (m - ((PySem.Str.ofString (toString n)).cps.toList.length : Int))).cps.toList ++ (PySem.Str.ofString (toString n)).cps.toList = padK n.toNat m.toNat ∧ ((Txt.mul (S (PySem.Str.ofString "0").cps.toList) (m - ((PySem.Str.ofString (toString n)).cps.toList.length : Int))).cps.toList ++ (PySem.Str.ofString (toString n)).cps.toList).length ≤ 10
    have e : (Txt.mul (S (PySem.Str.ofString "0").cps.toList) (m - ((PySem.Str.ofString (toString n)).cps.toList.length : Int))).cps.toList ++ (PySem.Str.ofString (toString n)).cps.toList = padK n.toNat m.toNat := by
      have q := congrArg (fun x : PySem.Str => x.cps.toList) w
      rw [S_cps] at q
      rw [S_of, Array.length_toList, ← q]
      exact (app_cps _ _).symm
    exact ⟨e, by rw [e]; exact padK_len_le (by omega) (by omega)⟩
noncomputable def s402 (w : World) : FnSpec w := mk2 402 1 (fun n m => 0 ≤ n ∧ n ≤ 999999 ∧ 1 ≤ m ∧ m ≤ 10) (fun n m => .str (padK n.toNat m.toNat) 10) (by k_is) (c_law_wide w)
theorem c_law_year (w : World) (y : Int) (t1 : Tok) (news : Led) : Claim w 414 2 [.int y t1] news (-999999 ≤ y ∧ y ≤ 999999) (OkV (.str (yearL y) 11) news) := by
  refine fn_V (N := 1) (fs := [s402 w]) kS (by k_is) (by k_is) (.cI .nil) rfl (by exact rfl) (by exact rfl) (by exact rfl) (by exact ⟨rfl, rfl, rfl, rfl⟩) (fun hp => ?_)
  have a : ∀ {i : Int}, i = (if y < 0 then -y else y) → 0 ≤ i ∧ i ≤ 999999 ∧ (1 : Int) ≤ 4 ∧ (4 : Int) ≤ 10 := fun h => by subst h; refine ⟨?_, ?_, by decide, by decide⟩ <;> split <;> omega
  have fin : ∀ {l : List Nat}, l = yearL y → l = yearL y ∧ l.length ≤ 11 := fun h => ⟨h, by
    rw [h]
    have := padK_len_le (n := y.natAbs) (w := 4) (by omega) (by decide)
    unfold yearL; rw [List.length_append]; split <;> simp <;> omega⟩
  refine ⟨fun h => ⟨a rfl, fin ?_⟩, fun h => ⟨a rfl, fin ?_⟩⟩
  · have h := of_decide_eq_true h
    show zMinus ++ padK (if y < 0 then -y else y).toNat (Int.toNat 4) = yearL y
    rw [z_minus, yearL, if_pos h, if_pos h, neg_nat h]; rfl
  · have h := of_decide_eq_false h
    show (PySem.Str.ofString "").cps.toList ++ padK (if y < 0 then -y else y).toNat (Int.toNat 4) = yearL y
    rw [sl "" _ s_e, yearL, if_neg h, if_neg h, pos_nat h]; rfl
noncomputable def s414 (w : World) : FnSpec w := mk1P 414 2 (fun y => -999999 ≤ y ∧ y ≤ 999999) (fun y => .str (yearL y) 11) (by k_is) (c_law_year w)
theorem execs_one {M : Model} {A : Around} {E : Value → Shared → Prop} {s : Shared} {env : Env} {st : PySem.Stmt} {Q : Flow → Shared → Prop} (h : wpAny M A (execs [st] env) Q E s) : wpAny M A (exec st env) Q E s := fun Γ p hΓ => by
  have z := h Γ p hΓ
  rw [execs_cons, Sem.wp_bind'] at z
  exact Sem.wp_mono M Γ _ (fun f p' s' h' => by cases f <;> exact h') (fun _ _ _ h' => h') _ _ z
/-- a frame beside a list of texts at D; the names hold flat values -/
structure SttL {w : World} {cs : PySem.Scope} (C : Cx w cs) (D : Addr) (xs : List (List Nat)) (lk : Lk) (m : PySem.Str → Option Value) (news : Led) (h : Heap) : Prop where
  F : Fr C.h₀ C.L h m
  N : ∃ c, StrsAre c (xs.map S) ∧ News C.h₀ C.L h ((D, LCg.lst c) :: news)
  ne : ∀ q ∈ news, q.1 ≠ D
  H : ∀ x q, lk.lookup x = some q → ∃ v, m x = some v ∧ RV none [] q v
noncomputable def appE (e : PySem.Expr) (k : PySem.Str → PySem.Str → Pos → PySem.Expr → Pos → Prop) : Prop := match e with
  | .Call f args kws pos => match f with
    | .Attribute o nm q => nameX o fun x => match args with
      | [] => False
      | a :: r => guard (r.isEmpty && kws.isEmpty) (k x nm q a pos)
    | _ => False
  | _ => False
section
variable {w : World}
/-- what a block does that may lengthen the list -/
noncomputable def evL (cs : PySem.Scope) (fs : List (FnSpec w)) (N : Nat) (D : Addr) : Nat → List PySem.Stmt → Lk → List (List Nat) → (Lk → List (List Nat) → Prop) → Prop
  | 0, _, _, _, _ => False
  | n + 1, body, lk, xs, kn => match body with
    | [] => kn lk xs
    | s :: rest => match s with
      | .If t a b _ => evE none cs fs [] N lk 40 (0, false) t fun v _ => onB v fun c => (c = true → evL cs fs N D n a lk xs fun lk xs => evL cs fs N D n rest lk xs kn) ∧ (c = false → evL cs fs N D n b lk xs fun lk xs => evL cs fs N D n rest lk xs kn)
      | .Expr e _ => appE e fun x nm q a pos => evN cs lk x = some (.ref D) ∧ xs.length ≤ 1000 ∧ guard (nm == PySem.Str.ofString "append" && (Nat.beq q.endLine pos.line && notStar a)) (evE none cs fs [] N lk 40 (0, false) a fun z _ => onS z fun y _ => evL cs fs N D n rest lk (xs ++ [y]) kn)
      | s => evS none cs fs [] N (fun _ _ => False) 3 [s] lk (0, false) fun lk' _ => guard (flatL lk') (evL cs fs N D n rest lk' xs kn)
variable {cs : PySem.Scope} {C : Cx w cs} {D : Addr} {xs : List (List Nat)} {lk : Lk} {m : PySem.Str → Option Value} {news : Led} {h : Heap} {fs : List (FnSpec w)} {N : Nat}
noncomputable def EndL (C : Cx w cs) (D : Addr) (news : Led) (kn : Lk → List (List Nat) → Prop) (f : Flow) (s : Shared) : Prop :=
  f = .next ∧ ∃ lk xs m h tk, kn lk xs ∧ SttL C D xs lk m news h ∧ s = C.st h tk
section
variable {n : Nat} {kn : Lk → List (List Nat) → Prop} {rest : List PySem.Stmt} {q : Pos}
theorem evL_asg {ts : List PySem.Expr} {v : PySem.Expr} (h : evS none cs fs [] N (fun _ _ => False) 3 [.Assign ts v q] lk (0, false) fun lk' _ => guard (flatL lk') (evL cs fs N D n rest lk' xs kn)) : evL cs fs N D (n + 1) (.Assign ts v q :: rest) lk xs kn := h
theorem evL_aug {t v : PySem.Expr} {op : Operator} (h : evS none cs fs [] N (fun _ _ => False) 3 [.AugAssign t op v q] lk (0, false) fun lk' _ => guard (flatL lk') (evL cs fs N D n rest lk' xs kn)) : evL cs fs N D (n + 1) (.AugAssign t op v q :: rest) lk xs kn := h
theorem evL_if {t : PySem.Expr} {a b : List PySem.Stmt} (h : evE none cs fs [] N lk 40 (0, false) t fun v _ => onB v fun c => (c = true → evL cs fs N D n a lk xs fun lk xs => evL cs fs N D n rest lk xs kn) ∧ (c = false → evL cs fs N D n b lk xs fun lk xs => evL cs fs N D n rest lk xs kn)) : evL cs fs N D (n + 1) (.If t a b q :: rest) lk xs kn := h
theorem evL_app {x nm : PySem.Str} {q1 q2 pos : Pos} {a : PySem.Expr} (h1 : evN cs lk x = some (.ref D)) (h2 : xs.length ≤ 1000) (hg : (nm == PySem.Str.ofString "append" && (Nat.beq q2.endLine pos.line && notStar a)) = true)
    (h : evE none cs fs [] N lk 40 (0, false) a fun z _ => onS z fun y _ => evL cs fs N D n rest lk (xs ++ [y]) kn) : evL cs fs N D (n + 1) (.Expr (.Call (.Attribute (.Name x q1) nm q2) [a] [] pos) q :: rest) lk xs kn := by
  refine ⟨h1, h2, ?_⟩
  rw [hg]; exact h
theorem evL_nil (h : kn lk xs) : evL cs fs N D (n + 1) [] lk xs kn := h
end
theorem SttL.stt (s : SttL C D xs lk m news h) : ∃ c, StrsAre c (xs.map S) ∧ Stt C none lk m (0, false) 0 ((D, LCg.lst c) :: news) h :=
  s.N.elim fun c n => ⟨c, n.1, s.F, n.2, trivial, fun x q e => (s.H x q e).elim fun v e => ⟨v, e.1, e.2.mono fun _ h => absurd h List.not_mem_nil⟩⟩
theorem SttL.back (s : SttL C D xs lk m news h) {c : List Value} (hc : StrsAre c (xs.map S)) {p : PS} {tA : Tok} {rest : Led} {h' : Heap} (s' : Stt C none lk m p tA rest h') (hr : ∀ q ∈ (D, LCg.lst c) :: news, q ∈ rest) : SttL C D xs lk m news h' :=
  ⟨s'.F, ⟨c, hc, fun q hq => s'.N q (hr q hq)⟩, s.ne, s.H⟩
theorem appEE {P : PySem.Expr → Prop} {e : PySem.Expr} {k : PySem.Str → PySem.Str → Pos → PySem.Expr → Pos → Prop} (h : appE e k) (f : ∀ x nm q1 q a pos, k x nm q a pos → P (.Call (.Attribute (.Name x q1) nm q) [a] [] pos)) : P e := by
  unfold appE at h
  split at h
  · split at h
    · refine nameXE (P := fun o => P (.Call (.Attribute o _ _) _ _ _)) h fun x q1 h => ?_
      split at h
      · exact h.elim
      · have g := guardE h
        obtain ⟨g1, g2⟩ := Bool.and_eq_true_iff.mp g.1
        obtain rfl := List.isEmpty_iff.mp g1
        obtain rfl := List.isEmpty_iff.mp g2
        exact f _ _ _ _ _ _ g.2
    · exact h.elim
  · exact h.elim
theorem strs_snoc {y : PySem.Str} {t : Tok} : ∀ {vs : List Value} {ys : List PySem.Str}, StrsAre vs ys → StrsAre (vs ++ [.str y t]) (ys ++ [y])
  | _, _, .nil => .cons _ _ .nil
  | _, _, .cons _ _ h => .cons _ _ (strs_snoc h)
theorem strs_len : ∀ {vs : List Value} {ys : List PySem.Str}, StrsAre vs ys → vs.length = ys.length
  | _, _, .nil => rfl
  | _, _, .cons _ _ h => congrArg (· + 1) (strs_len h)
section
variable (G : Glo w glT) (hd : C.dp + N < recursionLimit) (hu : C.un + 8 * N < cLine)
include G hd hu
omit hd hu G in
theorem evA_one {ev : PS → PySem.Expr → (PV → PS → Prop) → Prop} {a : PySem.Expr} {p : PS} {k : PV → Prop} (h : ev p a fun x _ => k x) : evA ev [a] p fun zs _ => on1 zs k := h
/-- the list takes one text more -/
theorem app_sound {x nm : PySem.Str} {q1 q pos pos2 : Pos} {a : PySem.Expr} {k : List Nat → Prop} {tk : Nat} {Q : Flow → Shared → Prop} (s : SttL C D xs lk m news h) (hx : evN cs lk x = some (.ref D)) (hg : (nm == PySem.Str.ofString "append" && (Nat.beq q.endLine pos.line && notStar a)) = true) (hl : xs.length ≤ 1000)
    (ha : evE none cs fs [] N lk 40 (0, false) a fun z _ => onS z fun y _ => k y) (f : ∀ y h' tk', k y → SttL C D (xs ++ [y]) lk m news h' → Q .next (C.st h' tk')) : C.wp (exec (.Expr (.Call (.Attribute (.Name x q1) nm q) [a] [] pos) pos2) C.env) Q h tk := by
  obtain ⟨g1, g2⟩ := Bool.and_eq_true_iff.mp hg
  obtain ⟨g2, g3⟩ := Bool.and_eq_true_iff.mp g2
  obtain rfl := eq_of_beq g1
  have hns : [a].all notStar = true := by rw [List.all_cons, g3]; rfl
  obtain ⟨c, hc, S0⟩ := s.stt
  refine wpAny_Expr ?_ (by show (cs.kind == .module && _) = false; rw [C.hk]; rfl) rfl
  refine MethodCall_ (name_sound G S0 hx fun v rv => ?_) (meth_eq (args_plain hns) (by rw [g2]; rfl))
  obtain rfl := rv
  refine listMethod_K S0.N (.head _) PySem.F.slot_list_append PySem.F.type_list_append ?_
  refine callWith_method1 (args_sound (ev_sound (C := C) (R := none) (lk := lk) (m := m) (fs := fs) (ms := []) G hd hu 40).1 [a] (0, false) _ hns (evA_one (k := fun z => onS z fun y _ => k y) ha) _ _ _ _ _ S0 fun zs p vs h' tk' tA' rest' hk s' hr rvs => ?_) (star_of g3 _) (args_plain (es := []) rfl)
  unfold on1 at hk
  split at hk
  · obtain ⟨v, r, rfl, rv, rfl⟩ := rvs
    exact onSE (P := fun v => C.wp (call (.builtin "list.append") [.ref D, v]) (fun v s' => match v with | .ref _ => False | _ => Q .next s') h' tk') hk rv fun y b t hk hy => by
      have N1 : News C.h₀ C.L h' ((D, LCg.lst c) :: news) := fun q hq => s'.N q (hr q hq)
      refine append_K s'.F N1 (.head s.ne) (fun h2 F2 N2 => ?_) ?_
      · have e : W.listOf (c.toArray.push (.str (S y) t)) (c.length + 1) = LCg.lst (c ++ [.str (S y) t]) := LCg.lst_snoc c _
        refine f y h2 _ hk ⟨F2, ⟨c ++ [.str (S y) t], by rw [List.map_append]; exact strs_snoc hc, ?_⟩, s.ne, s.H⟩
        rw [← e]; exact N2
      · have := strs_len hc
        rw [List.size_toArray, this, List.length_map, sizeLine_eq]; omega
  · exact hk.elim
theorem evL_sound : ∀ (n : Nat) (body : List PySem.Stmt) (lk : Lk) (xs : List (List Nat)) (kn : Lk → List (List Nat) → Prop), evL cs fs N D n body lk xs kn → ∀ (m : PySem.Str → Option Value) (h : Heap) (tk : Nat), SttL C D xs lk m news h → C.wp (execs body C.env) (EndL C D news kn) h tk := by
  intro n
  induction n with
  | zero => intro _ _ _ _ he; exact he.elim
  | succ n ih =>
    intro body lk xs kn he m h tk s
    cases body with
    | nil => exact wpAny_execs_nil ⟨rfl, _, _, _, _, _, he, s, rfl⟩
    | cons st rest =>
      have oth : (evS none cs fs [] N (fun _ _ => False) 3 [st] lk (0, false) fun lk' _ => guard (flatL lk') (evL cs fs N D n rest lk' xs kn)) → C.wp (execs (st :: rest) C.env) (EndL C D news kn) h tk := fun he => by
        obtain ⟨c, hc, S0⟩ := s.stt
        refine wpAny_execs_cons (wpAny_mono (execs_one (st_sound (C := C) (R := none) (rest0 := (D, LCg.lst c) :: news) G hd hu 3 [st] _ he (tk := tk) S0 fun _ h => h)) (fun f s' hp => ?_) fun _ _ h => h)
        cases f with
        | next =>
          obtain ⟨lk', m', p, tA, rest', h', tk', hk, s', rfl, hr⟩ := hp
          have g := guardE hk
          exact ih _ _ _ _ g.2 _ _ _ ⟨s'.F, ⟨c, hc, fun q hq => s'.N q (hr q hq)⟩, s.ne, fun x q e => (s'.H x q e).elim fun v e' => ⟨v, e'.1, flat_rv g.1 e e'.2⟩⟩
        | ret v => obtain ⟨x, p, lk, m, tA, rest, h, tk, hk, _⟩ := hp; exact hk.elim
        | brk => exact hp.elim
        | cont => exact hp.elim
      cases st <;> try exact oth he
      case If t a b q =>
        obtain ⟨c, hc, S0⟩ := s.stt
        refine wpAny_execs_cons (wpAny_If ((ev_sound (C := C) (R := none) (lk := lk) (m := m) (fs := fs) (ms := []) G hd hu 40).2 _ _ (fun c _ => (c = true → evL cs fs N D n a lk xs fun lk xs => evL cs fs N D n rest lk xs kn) ∧ (c = false → evL cs fs N D n b lk xs fun lk xs => evL cs fs N D n rest lk xs kn)) he _ _ _ _ _ S0 fun b p h' tk' tA' rest' g s' hr => ?_))
        have s2 := s.back hc s' hr
        have fin : ∀ {a}, (evL cs fs N D n a lk xs fun lk xs => evL cs fs N D n rest lk xs kn) → C.wp (execs a C.env) (fun f s' => match f with | .next => wpAny (model C.prog w) C.A (execs rest C.env) (EndL C D news kn) E0 s' | f => EndL C D news kn f s') h' tk' := fun ha =>
          wpAny_mono (ih _ _ _ _ ha _ _ _ s2) (fun f s' e => by
            obtain ⟨rfl, lk, xs, m, h, tk, hk, s, rfl⟩ := e
            exact ih _ _ _ _ hk _ _ _ s) fun _ _ h => h
        cases b with
        | true => exact fin (g.1 rfl)
        | false => exact fin (g.2 rfl)
      case Expr e pos2 =>
        refine appEE (P := fun e => C.wp (execs (.Expr e pos2 :: rest) C.env) (EndL C D news kn) h tk) he fun x nm q1 q a pos he => wpAny_execs_cons ?_
        have g := guardE he.2.2
        exact app_sound (Q := fun f s' => match f with | .next => wpAny (model C.prog w) C.A (execs rest C.env) (EndL C D news kn) E0 s' | f => EndL C D news kn f s') (k := fun y => evL cs fs N D n rest lk (xs ++ [y]) kn) G hd hu s he.1 g.1 he.2.1 g.2 fun y h' tk' hk s' => ih _ _ _ _ hk _ _ _ s'
end
end
theorem glue_nil : ∀ (xs : List (List Nat)) (a : List Nat), (xs.map S).foldl (fun acc p => acc ++ (S []).cps ++ p.cps) a.toArray = (a ++ xs.flatten).toArray
  | [], a => by simp
  | x :: xs, a => by
    rw [List.map_cons, List.foldl_cons, show a.toArray ++ (S []).cps ++ (S x).cps = (a ++ x).toArray by simp [S], glue_nil xs (a ++ x), List.flatten_cons, List.append_assoc]
theorem join_flat (xs : List (List Nat)) : Txt.join (PySem.Str.ofString "") (xs.map S) = S xs.flatten := by
  rw [s_e]
  unfold Txt.join Builtin.Str.glued
  cases xs with
  | nil => rfl
  | cons x xs =>
    rw [List.map_cons, List.drop_one, List.tail_cons, List.headD_cons, show (S x).cps = x.toArray from rfl, glue_nil xs x]; rfl
theorem sum_le : ∀ (xs : List (List Nat)) (k : Nat), (∀ x ∈ xs, x.length ≤ k) → (((xs.map S).map (·.length)).sum ≤ k * xs.length ∧ xs.flatten.length ≤ k * xs.length)
  | [], _, _ => by simp
  | x :: xs, k, h => by
    have a := sum_le xs k fun y hy => h y (.tail _ hy)
    have b := h x (.head _)
    simp only [List.map_cons, List.sum_cons, List.flatten_cons, List.length_append, List.length_cons, S_len] at *
    rw [Nat.mul_add, Nat.mul_one]; omega
section
variable {prog : Program} {w : World} {A : Around} {E : Value → Shared → Prop} {s : Shared} {h₀ : Heap} {L D : Addr} {m : PySem.Str → Option Value} {news : Led} {c : List Value} {t : Tok} {Q : Value → Shared → Prop}
theorem join_flat_at {xs : List (List Nat)} (N : News h₀ L s.heap news) (hm : (D, LCg.lst c) ∈ news) (hi : StrsAre c (xs.map S)) (hk : ∀ x ∈ xs, x.length ≤ 6) (hl : xs.length ≤ 1000)
    (h : ∀ t' k, xs.flatten.length ≤ 6 * xs.length → Q (.str (S xs.flatten) t') { s with toks := k }) : wpAny (model prog w) A (call (.builtin "str.join") [.str (PySem.Str.ofString "") t, .ref D]) Q E s := by
  obtain ⟨a, b⟩ := sum_le xs 6 hk
  refine join_listW (items := c.toArray) (N.isList hm) (by simpa using hi) (by decide +kernel) (by rw [List.length_map]; omega) fun t' k => ?_
  rw [join_flat]
  exact h t' k b
end
section
variable {w : World} {cs : PySem.Scope} {C : Cx w cs} {D : Addr} {xs : List (List Nat)} {lk : Lk} {m : PySem.Str → Option Value} {news : Led} {h : Heap} {fs : List (FnSpec w)} {N : Nat}
section
variable (G : Glo w glT) (hd : C.dp + N < recursionLimit) (hu : C.un + 8 * N < cLine)
include G hd hu
theorem for_L {x y : PySem.Str} {b : List PySem.Stmt} {q q1 q2 : Pos} {l : List Nat} {bd : Nat} {tk : Nat} {Q : Flow → Shared → Prop} (s : SttL C D xs lk m news h) (hx : cs.names.lookup x = some .local) (hy : evN cs lk y = some (.str l bd))
    (I : List Nat → Lk → List (List Nat) → Prop) (h0 : ∃ lk', subL lk' lk ∧ I [] lk' xs)
    (turn : ∀ pre c post lk xs, l = pre ++ c :: post → I pre lk xs → evL cs fs N D 60 b ((x, .str [c] 1) :: lk) xs fun lk xs => ∃ lk', subL lk' lk ∧ I (pre ++ [c]) lk' xs)
    (done : ∀ lk xs m h tk, I l lk xs → SttL C D xs lk m news h → Q .next (C.st h tk)) : C.wp (exec (.For (.Name x q1) (.Name y q2) b [] q) C.env) Q h tk := by
  obtain ⟨c, hc, S0⟩ := s.stt
  obtain ⟨lk0, hs0, hI⟩ := h0
  refine For_invV C.h₀ hx (by show (cs.kind == .class || (cs.kind == .module && _)) = false; rw [C.hk]; rfl) (name_sound G S0 hy fun v rv => ?_) (by intro _; rfl) PassesOwn.never
  obtain ⟨hl, t, rfl⟩ := rv
  refine wpAny_pyIter_str fun o St hW hst => ?_
  refine loop_invN (fun i m nx => ∃ lk xs c, nx = (D, LCg.lst c) :: news ∧ StrsAre c (xs.map S) ∧ (∀ x q, lk.lookup x = some q → ∃ v, m x = some v ∧ RV none [] q v) ∧ I (l.take i) lk xs) (hW C.A rfl) ?_ ?_ ?_ ?_ hst (S0.F.push _) (fun p hp => ⟨Heap.get?_push_of_some _ (S0.N p hp).1, (S0.N p hp).2⟩) ⟨lk0, xs, c, rfl, hc, fun x q e => s.H x q (subL_lookup hs0 e), hI⟩ ?_ ?_
  · exact fun hm => absurd S0.F.ns.lt ((List.mem_singleton.mp hm) ▸ Nat.lt_irrefl _)
  · exact fun b' hb => (List.mem_singleton.mp hb) ▸ next_is_new S0.F
  · exact fun p hp hI => absurd (Heap.lt_size (S0.N p hp).1) ((List.mem_singleton.mp hI) ▸ Nat.lt_irrefl _)
  · exact fun p hp hI => absurd (Heap.lt_size (S0.N p hp).1) ((List.mem_singleton.mp hI) ▸ Nat.lt_irrefl _)
  · rintro i v m₁ nx h1 tk1 own hi ⟨c', u, hc', rfl⟩ hadr hoff ⟨lk, xs1, c1, rfl, hc1, H, hI⟩ F₁ N₁
    have hc2 : l[i]? = some c' := by rw [← hc']; simp [S]
    have hs : l.take (i + 1) = l.take i ++ [c'] := by rw [List.take_add_one, hc2]; rfl
    have e : l = l.take i ++ c' :: l.drop (i + 1) := by
      have ht := List.take_append_drop (i + 1) l
      rw [hs, List.append_assoc] at ht
      exact ht.symm
    have S2 : SttL C D xs1 ((x, .str [c'] 1) :: lk) (fun y => if y = x then some (.str ⟨#[c']⟩ u) else m₁ y) (news ++ own) h1 := ⟨F₁, ⟨c1, hc1, N₁⟩, fun q hq => (List.mem_append.mp hq).elim (s.ne q) fun hq => hoff q hq _ (.head _), fun y q e => by
      rw [List.lookup_cons] at e
      cases hy : y == x with
      | true => rw [hy] at e; cases e; exact ⟨_, if_pos (eq_of_beq hy), Nat.le_refl _, u, rfl⟩
      | false => rw [hy] at e; exact (H y q e).elim fun v' e' => ⟨v', by rw [if_neg (ne_of_beq_false hy)]; exact e'.1, e'.2⟩⟩
    rw [hs]
    refine wpAny_mono (evL_sound G hd hu 60 b _ _ _ (turn _ _ _ _ _ e hI) _ _ _ S2) (fun f s' hq => ?_) fun _ _ h => h
    obtain ⟨rfl, lk2, xs2, m2, h2, tk2, ⟨lk', hs', hI'⟩, s2, rfl⟩ := hq
    obtain ⟨c2, hc2, N2⟩ := s2.N
    refine ⟨h2, tk2, m2, (D, LCg.lst c2) :: (news ++ own), (D, LCg.lst c2) :: news, rfl, s2.F, N2, ?_, fun q hq => .tail _ (List.mem_append_right _ hq), rfl, lk', xs2, c2, rfl, hc2, fun x q e => s2.H x q (subL_lookup hs' e), hI'⟩
    exact fun q hq => (List.mem_cons.mp hq).elim (fun e => e ▸ .head _) fun hq => .tail _ (List.mem_append_left _ hq)
  · rintro m₁ nx h1 tk1 ⟨lk, xs1, c1, rfl, hc1, H, hI⟩ F₁ N₁
    have hl : (S l).cps.size = l.length := S_len l
    rw [hl, List.take_length] at hI
    exact done _ _ _ _ _ hI ⟨F₁, ⟨c1, hc1, N₁⟩, s.ne, H⟩
theorem while_L {t : PySem.Expr} {b : List PySem.Stmt} {q : Pos} {tk : Nat} {Q : Flow → Shared → Prop} (s : SttL C D xs lk m news h) (I : Nat → Lk → List (List Nat) → Prop) (fin : Lk → List (List Nat) → Prop) (h0 : ∃ μ lk', subL lk' lk ∧ I μ lk' xs)
    (turn : ∀ μ lk xs, I μ lk xs → evE none cs fs [] N lk 40 (0, false) t fun v _ => onB v fun c => (c = true → evL cs fs N D 60 b lk xs fun lk xs => ∃ μ' lk', μ' < μ ∧ subL lk' lk ∧ I μ' lk' xs) ∧ (c = false → fin lk xs))
    (done : ∀ lk xs m h tk, fin lk xs → SttL C D xs lk m news h → Q .next (C.st h tk)) : C.wp (exec (.While t b [] q) C.env) Q h tk := by
  obtain ⟨c, hc, S0⟩ := s.stt
  obtain ⟨μ, lk0, hs0, hI⟩ := h0
  refine While_inv2 (fun μ m nx => ∃ lk xs c, nx = (D, LCg.lst c) :: news ∧ StrsAre c (xs.map S) ∧ (∀ x q, lk.lookup x = some q → ∃ v, m x = some v ∧ RV none [] q v) ∧ I μ lk xs) S0.F S0.N ⟨lk0, xs, c, rfl, hc, fun x q e => s.H x q (subL_lookup hs0 e), hI⟩ ?_ PassesOwn.never
  rintro μ m₁ news₁ h₁ tk₁ F₁ N₁ ⟨lk, xs, c, rfl, hc, H, hI⟩
  have s1 : SttL C D xs lk m₁ news h₁ := ⟨F₁, ⟨c, hc, N₁⟩, s.ne, H⟩
  obtain ⟨c, hc, S1⟩ := s1.stt
  have s1 : SttL C D xs lk m₁ news h₁ := s1
  refine (ev_sound (C := C) (R := none) (lk := lk) (m := m₁) (fs := fs) (ms := []) G hd hu 40).2 _ _ (fun c _ => (c = true → evL cs fs N D 60 b lk xs fun lk xs => ∃ μ' lk', μ' < μ ∧ subL lk' lk ∧ I μ' lk' xs) ∧ (c = false → fin lk xs)) (turn _ _ _ hI) _ _ _ _ _ S1 fun c' p h' tk' tA' rest'' g s' hr' => ?_
  have s2 := s1.back hc s' hr'
  cases c' with
  | false => exact done _ _ _ _ _ (g.2 rfl) s2
  | true =>
    refine wpAny_mono (evL_sound G hd hu 60 b _ _ _ (g.1 rfl) _ _ _ s2) (fun f s' hq => ?_) fun _ _ h => h
    obtain ⟨rfl, lk2, xs2, m2, h2, tk2, ⟨μ', lk', hμ, hs', hI'⟩, s2, rfl⟩ := hq
    obtain ⟨c2, hc2, N2⟩ := s2.N
    exact ⟨h2, tk2, m2, _, μ', rfl, s2.F, N2, hμ, lk', xs2, c2, rfl, hc2, fun x q e => s2.H x q (subL_lookup hs' e), hI'⟩
omit hd hu in
theorem join_L {s0 nm x : PySem.Str} {kk : Nat} {q0 q1 q2 q3 pos : Pos} {tk : Nat} {Q : Flow → Shared → Prop} (s : SttL C D xs lk m news h) (hx : evN cs lk x = some (.ref D)) (hg : (s0 == PySem.Str.ofString "" && (nm == PySem.Str.ofString "join" && Nat.beq q1.endLine pos.line)) = true) (h6 : ∀ y ∈ xs, y.length ≤ 6) (hl : xs.length ≤ 1000)
    (f : ∀ t h' tk', SttL C D xs lk m news h' → xs.flatten.length ≤ 6 * xs.length → Q (.ret (.str (S xs.flatten) t)) (C.st h' tk')) : C.wp (execs [.Return (some (.Call (.Attribute (.Constant (.str s0) kk q0) nm q1) [.Name x q2] [] pos)) q3] C.env) Q h tk := by
  obtain ⟨g1, g2⟩ := Bool.and_eq_true_iff.mp hg
  obtain ⟨g2, g3⟩ := Bool.and_eq_true_iff.mp g2
  obtain rfl := eq_of_beq g1
  obtain rfl := eq_of_beq g2
  obtain ⟨c, hc, S0⟩ := s.stt
  refine wpAny_execs_cons (wpAny_Return_some (MethodCall_ (PySem.wpAny_Constant_str ?_) (meth_eqC (pos := pos) (args_plain (es := [.Name x q2]) (pos := pos) (env := C.env) rfl) (by rw [g3]; rfl))))
  refine GM.join (callWith_method1 (args_cons (name_sound G S0 hx fun v rv => args_nil ?_) rfl) rfl (args_plain (es := []) rfl))
  obtain rfl := rv
  exact join_flat_at (xs := xs) S0.N (.head _) hc h6 hl fun t' k hb => f _ _ _ s hb
end
theorem init_L {x : PySem.Str} {q q1 q2 : Pos} {rest : List PySem.Stmt} {p : PS} {tA : Tok} {tk : Nat} {Q : Flow → Shared → Prop} (s : Stt C none lk m p tA news h) (hf : flatL lk = true) (hx : cs.names.lookup x = some .local)
    (f : ∀ D m h tk, SttL C D [] ((x, .ref D) :: lk) m news h → C.wp (execs rest C.env) Q h tk) : C.wp (execs (.Assign [.Name x q1] (.List [] q2) q :: rest) C.env) Q h tk := by
  refine wpAny_execs_cons (wpAny_Assign_Name (List_ (args_nil (newList_K s.F s.N fun D h' F' N' l => ?_))) rfl)
  refine storeX_L F' N' (fun h2 F2 N2 => f D _ h2 _ ⟨F2, ⟨[], .nil, N2⟩, fun q hq => Nat.ne_of_lt (l q hq), fun y q e => ?_⟩) C.hk hx
  rw [List.lookup_cons] at e
  cases hy : y == x with
  | true => rw [hy] at e; cases e; exact ⟨_, if_pos (eq_of_beq hy), rfl⟩
  | false =>
    rw [hy] at e
    exact (s.H y q e).elim fun v' e' => ⟨v', by rw [if_neg (ne_of_beq_false hy)]; exact e'.1, flat_rv hf e e'.2⟩
theorem init2_L {x y : PySem.Str} {kk k2 k3 : Nat} {q q1 q2 q3 q4 q5 q6 : Pos} {rest : List PySem.Stmt} {p : PS} {tA : Tok} {tk : Nat} {Q : Flow → Shared → Prop} (s : Stt C none lk m p tA news h) (hf : flatL lk = true) (hl : allLocal cs [y, x] = true)
    (hw : swappedStores [.Tuple [.Name x q1, .Name y q2] kk q3] (.Tuple [.List [] q4, .Constant (.int 0) k2 q5] k3 q6) C.env = pure (some [x, y]))
    (f : ∀ D m h tk, SttL C D [] ((x, .ref D) :: (y, .int 0) :: lk) m news h → C.wp (execs rest C.env) Q h tk) : C.wp (execs (.Assign [.Tuple [.Name x q1, .Name y q2] kk q3] (.Tuple [.List [] q4, .Constant (.int 0) k2 q5] k3 q6) q :: rest) C.env) Q h tk := by
  refine wpAny_execs_cons (Assign_Tuple_swapped (names := [x, y]) (Tuple_ (args_cons (List_ (args_nil (newList_K s.F s.N fun D h' F' N' l => args_cons (wpAny_Constant_int (args_nil ?_)) rfl))) rfl)) rfl hw)
  refine kup_newTuple F' N' (fun T h2 F2 N2 l2 => ?_) (by rw [sizeLine_eq]; exact Nat.le_of_ble_eq_true rfl)
  refine unpackItemsN_ F2 N2 (N2.isTup (.head _)) rfl rfl fun h3 F3 N3 => ?_
  refine stores_sound (C := C) (R := none) (tA := 0) (p := (0, false)) (rest := (D, LCg.lst []) :: news) (Q := fun _ s' => wpAny (model C.prog w) C.A (execs rest C.env) Q E0 s') (nm := id) (act := fun x v => bindName C.env x v) (fun a v Q h tk z => bindName_ z) [y, x] [.int 0, .ref D] rfl hl (lk := lk) (m := m) ⟨F3, fun q hq => N3 q (.tail _ hq), trivial, fun x q e => (s.H x q e).elim fun v e => ⟨v, e.1, e.2.mono fun _ h => .tail _ h⟩⟩ ⟨_, _, rfl, ⟨_, rfl⟩, _, _, rfl, rfl, rfl⟩ fun m' h4 tk4 s4 => ?_
  refine f D m' h4 tk4 ⟨s4.F, ⟨[], .nil, s4.N⟩, fun q hq => Nat.ne_of_lt (l q hq), fun z q e => (s4.H z q e).elim fun v e' => ⟨v, e'.1, ?_⟩⟩
  exact flat_rv (lk := (x, .ref D) :: (y, .int 0) :: lk) hf e e'.2
end
theorem escC_len (c : Nat) : (escC c).length ≤ 6 := by
  unfold escC octL
  split
  · simp
  · split <;> simp
theorem esc_flat (l : List Nat) : (l.map escC).flatten = escL l := by unfold escL; rw [List.flatMap_def]
theorem kept_z : (PySem.Str.ofString "ABCDEFGHIJKLMNOPQRSTUVWXYZabcdefghijklmnopqrstuvwxyz0123456789@*_+-./").cps.toList = keptL := by decide +kernel
theorem esc_kept {c : Nat} (h : decide (c ∈ (PySem.Str.ofString "ABCDEFGHIJKLMNOPQRSTUVWXYZabcdefghijklmnopqrstuvwxyz0123456789@*_+-./").cps.toList) = true) : [c] = escC c := by
  rw [kept_z] at h; unfold escC; rw [if_pos (of_decide_eq_true h)]
theorem esc_oct {c : Nat} (h : decide (c ∈ (PySem.Str.ofString "ABCDEFGHIJKLMNOPQRSTUVWXYZabcdefghijklmnopqrstuvwxyz0123456789@*_+-./").cps.toList) = false) (h2 : decide ((c : Int) < 256) = true) : octL (c : Int).toNat = escC c := by
  rw [kept_z] at h; unfold escC; rw [if_neg (of_decide_eq_false h), if_pos (by have := of_decide_eq_true h2; omega), Int.toNat_natCast]
theorem c_escape_text (w : World) (l : List Nat) (t1 : Tok) (news : Led) : Claim w 381 2 [.str (S l) t1] news (l.length ≤ 100 ∧ ∀ c ∈ l, c < 65536) (OkV (.str (escL l) 1000) news) := by
  refine ⟨fun ⟨hl, hc⟩ => (fn_wp (K := fun x _ => onS x fun i _ => i = escL l ∧ i.length ≤ 1000) (R := none) (rest0 := news) (tA0 := 0) (p0 := (0, false)) (pvs := [.str l 100]) (pre := True) (N := 1) (by k_is) (by k_is) [sTx] (by exact rfl) (by exact rfl) (by exact rfl) (by exact ⟨rfl, rfl, rfl, rfl⟩) rfl ⟨_, _, rfl, ⟨hl, t1, rfl⟩, rfl⟩ (fun _ h => h) (fun _ => trivial) (fun _ C m h tk hd hu s => ?_) fun _ x p v tA rest hx hr _ r => ⟨rest, fun _ h => h, hr, kS _ _ _ p _ hx r⟩).out trivial⟩
  refine init_L s rfl rfl fun D m h tk s => ?_
  refine wpAny_execs_cons (for_L (fs := [s367 w]) (N := 1) (glT_ok w) hd hu s rfl rfl (fun pre lk xs => xs = pre.map escC ∧ lk = [(PySem.Str.ofString "found", .ref D), (sTx, .str l 100)]) ⟨[(PySem.Str.ofString "found", .ref D), (sTx, .str l 100)], ⟨rfl, rfl, trivial⟩, rfl, rfl⟩ ?turn ?done)
  case turn =>
    rintro pre c post lk xs e ⟨rfl, rfl⟩
    have hn := hc c (by rw [e]; simp)
    have hlen : (pre.map escC).length ≤ 1000 := by rw [List.length_map]; have := congrArg List.length e; simp at this; omega
    have fin : ∀ {x}, x = escC c → ∃ lk', subL lk' [(PySem.Str.ofString "unit", PV.int c), (PySem.Str.ofString "sign", .str [c] 1), (PySem.Str.ofString "found", .ref D), (sTx, .str l 100)] ∧ pre.map escC ++ [x] = (pre ++ [c]).map escC ∧ lk' = [(PySem.Str.ofString "found", .ref D), (sTx, .str l 100)] := fun e => ⟨[(PySem.Str.ofString "found", .ref D), (sTx, .str l 100)], ⟨rfl, rfl, trivial⟩, by rw [e, List.map_append]; rfl, rfl⟩
    have e1 : ((c : Nat) : Int).fdiv (2 ^ Int.toNat 12) = ((c / 4096 : Nat) : Int) := Int.fdiv_eq_ediv_of_nonneg _ (by decide)
    have e2 : ((c : Nat) : Int).fdiv (2 ^ Int.toNat 8) % 16 = ((c / 256 % 16 : Nat) : Int) := by rw [Int.fdiv_eq_ediv_of_nonneg _ (by decide)]; rfl
    have e3 : ((c : Nat) : Int).fdiv (2 ^ Int.toNat 4) % 16 = ((c / 16 % 16 : Nat) : Int) := by rw [Int.fdiv_eq_ediv_of_nonneg _ (by decide)]; rfl
    have e4 : ((c : Nat) : Int) % 16 = ((c % 16 : Nat) : Int) := rfl
    have bd : ∀ {i : Int} {n : Nat}, i = (n : Int) → n < 16 → 0 ≤ i ∧ i < (zHex.length : Int) := fun e h => by rw [e]; exact ⟨Int.natCast_nonneg _, Int.ofNat_lt.mpr h⟩
    have m16 : ∀ {n : Nat}, n % 16 < 16 := Nat.mod_lt _ (by decide)
    have b1 : c / 4096 < 16 := by omega
    refine evL_asg ?_
    refine ⟨fun a => ?_, fun a => ?_⟩
    · refine evL_app rfl hlen rfl ?_
      exact fin (esc_kept a)
    refine evL_if ?_
    refine ⟨fun b => ?_, fun b => ?_⟩
    · refine evL_app rfl hlen rfl ?_
      refine ⟨⟨Int.natCast_nonneg _, Int.le_of_lt_add_one (of_decide_eq_true b)⟩, ?_⟩
      exact fin (esc_oct a b)
    refine evL_app rfl hlen rfl ?_
    refine ⟨by decide, ?_⟩
    refine ⟨bd e1 b1, ?_⟩
    refine ⟨by decide, bd e2 m16, by decide, bd e3 m16, bd e4 m16, ?_⟩
    refine fin ?_
    show (PySem.Str.ofString "%u").cps.toList ++ [zHex.getD (((c : Nat) : Int).fdiv (2 ^ Int.toNat 12)).toNat 0] ++ [zHex.getD (((c : Nat) : Int).fdiv (2 ^ Int.toNat 8) % 16).toNat 0] ++ [zHex.getD (((c : Nat) : Int).fdiv (2 ^ Int.toNat 4) % 16).toNat 0] ++ [zHex.getD (((c : Nat) : Int) % 16).toNat 0] = escC c
    rw [e1, e2, e3, e4, Int.toNat_natCast, Int.toNat_natCast, Int.toNat_natCast, Int.toNat_natCast, hexC_at b1, hexC_at m16, hexC_at m16, hexC_at m16]
    rw [kept_z] at a
    unfold escC; rw [if_neg (of_decide_eq_false a), if_neg (by have := of_decide_eq_false b; omega)]; rfl
  case done =>
    rintro lk xs m h tk ⟨rfl, rfl⟩ s
    show C.wp (execs [.Return (some (.Call (.Attribute (.Constant (.str (PySem.Str.ofString "")) 0 _) (PySem.Str.ofString "join") _) [.Name (PySem.Str.ofString "found") _] [] _)) _] C.env) _ h tk
    with_reducible refine join_L (glT_ok w) s ?g1 ?g2 ?g3 ?g4 ?g5
    case g1 => rfl
    case g2 => rfl
    case g3 => intro x hx; obtain ⟨y, _, rfl⟩ := List.mem_map.mp hx; exact escC_len y
    case g4 => rw [List.length_map]; omega
    intro t h' tk' s' hb
    rw [List.length_map, esc_flat] at hb
    rw [esc_flat]
    obtain ⟨c, hc, S0⟩ := s'.stt
    exact ⟨.str (escL l) 1000, (0, false), _, m, 0, _, h', tk', ⟨rfl, by omega⟩, S0, rfl, fun q hq => .tail _ hq, by omega, _, rfl⟩
/-- a function from a text to a text -/
noncomputable def mkS {w : World} (f : Addr) (n : Nat) (P : List Nat → Prop) (g : List Nat → List Nat) (b0 : Nat) (keep : keepIn (Mine.hd.heap_1 w.params) (.ref f) = true) (C : ∀ l t news, Claim w f n [.str (S l) t] news (P l) (OkV (.str (g l) b0) news)) : FnSpec w where
  f := f
  n := n
  sp xs k := on1 xs fun x => onS x fun l _ => P l ∧ k (.str (g l) b0)
  keep := keep
  sound {R rest pvs vs k} rv h news hn := on1E h rv fun x v h rv e => e ▸ onSE (P := fun v => Snd w f n news R k [v]) h rv fun l b t hk _ => sound_V hk.1 (C l t news) hk.2
noncomputable def s381 (w : World) : FnSpec w := mkS 381 2 (fun l => l.length ≤ 100 ∧ ∀ c ∈ l, c < 65536) escL 1000 (by k_is) (c_escape_text w)
/-- one sign of an escaped text: what it tells, how much it takes -/
noncomputable def uStep (r : List Nat) : Nat × Nat :=
  if r.take 2 = [37, 117] ∧ 6 ≤ r.length then (match hexN ((r.drop 2).take 4) with | some v => (v.toNat, 6) | none => (r.headD 0, 1))
  else if r.headD 0 = 37 ∧ 3 ≤ r.length then (match hexN ((r.drop 1).take 2) with | some v => (v.toNat, 3) | none => (r.headD 0, 1))
  else (r.headD 0, 1)
noncomputable def unG : Nat → List Nat → List Nat
  | 0, _ => []
  | _ + 1, [] => []
  | n + 1, c :: r => (uStep (c :: r)).1 :: unG n ((c :: r).drop (uStep (c :: r)).2)
noncomputable def unescL (l : List Nat) : List Nat := unG l.length l
theorem flat_one : ∀ ys : List Nat, (ys.map fun v => [v]).flatten = ys
  | [] => rfl
  | y :: ys => by rw [List.map_cons, List.flatten_cons, flat_one ys]; rfl
theorem hd_drop {l : List Nat} {k : Nat} : (l.drop k).headD 0 = l.getD k 0 := by
  rw [List.headD_eq_head?_getD, List.head?_drop, List.getD_eq_getElem?_getD]
theorem uStep_pos (r : List Nat) : 1 ≤ (uStep r).2 := by
  unfold uStep
  split
  · split <;> simp
  · split
    · split <;> simp
    · simp
theorem unG_more : ∀ (n k : Nat) (r : List Nat), r.length ≤ n → unG (n + k) r = unG n r
  | 0, k, r, h => by
    have e : r = [] := List.length_eq_zero_iff.mp (by omega)
    subst e; cases k <;> rfl
  | n + 1, k, [], _ => by rw [show n + 1 + k = (n + k) + 1 by omega]; rfl
  | n + 1, k, c :: r, h => by
    rw [show n + 1 + k = (n + k) + 1 by omega]
    show _ :: unG (n + k) _ = _ :: unG n _
    rw [unG_more n k]
    have := uStep_pos (c :: r)
    rw [List.length_drop]
    simp only [List.length_cons] at h ⊢; omega
theorem unescL_step {r : List Nat} (h : r ≠ []) : unescL r = (uStep r).1 :: unescL (r.drop (uStep r).2) := by
  cases r with
  | nil => exact absurd rfl h
  | cons c r =>
    show _ :: unG r.length _ = _
    unfold unescL
    have e := unG_more ((c :: r).drop (uStep (c :: r)).2).length (r.length - ((c :: r).drop (uStep (c :: r)).2).length) _ (Nat.le_refl _)
    have := uStep_pos (c :: r)
    rw [← e]
    congr 2
    rw [List.length_drop]
    simp only [List.length_cons]; omega
theorem hexN_bound : ∀ (x : List Nat) (f v : Int), 0 ≤ f → (x.map fun (c : Nat) => (c : Int)).foldl hexStep (some f) = some v → 0 ≤ v ∧ v < (f + 1) * 16 ^ x.length
  | [], f, v, h0, h => by
    simp only [List.map_nil, List.foldl_nil, Option.some.injEq] at h
    subst h; simp; omega
  | c :: x, f, v, h0, h => by
    rw [List.map_cons, List.foldl_cons] at h
    by_cases q : hexv c < 0
    · have z : hexStep (some f) (c : Int) = none := by simp only [hexStep, Option.bind_some, Int.toNat_natCast, if_pos q]
      rw [z, foldl_none (fun _ => rfl)] at h; cases h
    · have z : hexStep (some f) (c : Int) = some (f * 16 + hexv c) := by simp only [hexStep, Option.bind_some, Int.toNat_natCast, if_neg q]
      rw [z] at h
      have b : hexv c ≤ 15 := by unfold hexv; (repeat' split) <;> omega
      obtain ⟨h1, h2⟩ := hexN_bound x _ v (by omega) h
      refine ⟨h1, Int.lt_of_lt_of_le h2 ?_⟩
      rw [List.length_cons, Int.pow_succ]
      have p : (0 : Int) ≤ 16 ^ x.length := Int.pow_nonneg (by decide)
      have : (f * 16 + hexv c + 1) * 16 ^ x.length ≤ ((f + 1) * 16) * 16 ^ x.length := Int.mul_le_mul_of_nonneg_right (by omega) p
      rw [show (f + 1) * (16 ^ x.length * 16) = ((f + 1) * 16) * 16 ^ x.length by rw [Int.mul_comm (16 ^ x.length) 16, Int.mul_assoc]]
      exact this
theorem hexN_4 {x : List Nat} {v : Int} (h : hexN x = some v) (hl : x.length ≤ 4) : 0 ≤ v ∧ v < 65536 := by
  obtain ⟨a, b⟩ := hexN_bound x 0 v (Int.le_refl _) h
  refine ⟨a, Int.lt_of_lt_of_le b ?_⟩
  have : x.length = 0 ∨ x.length = 1 ∨ x.length = 2 ∨ x.length = 3 ∨ x.length = 4 := by omega
  rcases this with e | e | e | e | e <;> rw [e] <;> decide
section
variable {l : List Nat} {k f : Int}
theorem u2 {r : List Nat} {b : Bool} (h : (List.take (k + 2 - k).toNat r == (PySem.Str.ofString "%u").cps.toList) = b) : decide (r.take 2 = [37, 117]) = b := by
  rw [← h, show (k + 2 - k).toNat = 2 by omega, show (PySem.Str.ofString "%u").cps.toList = [37, 117] by decide +kernel, Bool.eq_iff_iff]
  simp only [decide_eq_true_eq, beq_iff_eq]
theorem u1 {b : Bool} (h : ([l.getD k.toNat 0] == (PySem.Str.ofString "%").cps.toList) = b) : decide ((l.drop k.toNat).headD 0 = 37) = b := by
  rw [← h, show (PySem.Str.ofString "%").cps.toList = [37] by decide +kernel, Bool.eq_iff_iff]
  simp only [decide_eq_true_eq, beq_iff_eq, List.cons.injEq, and_true]
  rw [hd_drop]
noncomputable abbrev unA (l : List Nat) (k : Int) : Prop := (l.drop k.toNat).take 2 = [37, 117] ∧ 6 ≤ (l.drop k.toNat).length
noncomputable abbrev unB (l : List Nat) (k : Int) : Prop := (l.drop k.toNat).headD 0 = 37 ∧ 3 ≤ (l.drop k.toNat).length
theorem un_no (h2 : (List.take (k + 2 - k).toNat (List.drop k.toNat l) == (PySem.Str.ofString "%u").cps.toList) = false) : ¬ unA l k := fun a => by
  have q := u2 h2; rw [decide_eq_true a.1] at q; cases q
theorem un_no6 (h0 : 0 ≤ k) (h : ¬ k + 6 ≤ (l.length : Int)) : ¬ unA l k := fun a => by
  have c := a.2; rw [List.length_drop] at c; omega
theorem un_no1 (h2 : ([l.getD k.toNat 0] == (PySem.Str.ofString "%").cps.toList) = false) : ¬ unB l k := fun a => by
  have q := u1 h2; rw [decide_eq_true a.1] at q; cases q
theorem un_no3 (h0 : 0 ≤ k) (h : ¬ k + 3 ≤ (l.length : Int)) : ¬ unB l k := fun a => by
  have c := a.2; rw [List.length_drop] at c; omega
theorem un_4 (h0 : 0 ≤ k) : List.take (k + 6 - (k + 2)).toNat (List.drop (k + 2).toNat l) = ((l.drop k.toNat).drop 2).take 4 := by
  rw [List.drop_drop, show (k + 6 - (k + 2)).toNat = 4 by omega, show (k + 2).toNat = k.toNat + 2 by omega]
theorem un_2 (h0 : 0 ≤ k) : List.take (k + 3 - (k + 1)).toNat (List.drop (k + 1).toNat l) = ((l.drop k.toNat).drop 1).take 2 := by
  rw [List.drop_drop, show (k + 3 - (k + 1)).toNat = 2 by omega, show (k + 1).toNat = k.toNat + 1 by omega]
theorem uS_A (h0 : 0 ≤ k) (h2 : unA l k) (hf : hexN (List.take (k + 6 - (k + 2)).toNat (List.drop (k + 2).toNat l)) = none) : uStep (l.drop k.toNat) = (l.getD k.toNat 0, 1) := by
  rw [un_4 h0] at hf
  unfold uStep
  rw [if_pos h2, hf, hd_drop]
theorem uS_B (h0 : 0 ≤ k) (h2 : unA l k) (hf : hexN (List.take (k + 6 - (k + 2)).toNat (List.drop (k + 2).toNat l)) = some f) : uStep (l.drop k.toNat) = (f.toNat, 6) := by
  rw [un_4 h0] at hf
  unfold uStep
  rw [if_pos h2, hf]
theorem uS_C (h0 : 0 ≤ k) (hn : ¬ unA l k) (hi : unB l k) (hf : hexN (List.take (k + 3 - (k + 1)).toNat (List.drop (k + 1).toNat l)) = none) : uStep (l.drop k.toNat) = (l.getD k.toNat 0, 1) := by
  rw [un_2 h0] at hf
  unfold uStep
  rw [if_neg hn, if_pos hi, hf, hd_drop]
theorem uS_E (h0 : 0 ≤ k) (hn : ¬ unA l k) (hi : unB l k) (hf : hexN (List.take (k + 3 - (k + 1)).toNat (List.drop (k + 1).toNat l)) = some f) : uStep (l.drop k.toNat) = (f.toNat, 3) := by
  rw [un_2 h0] at hf
  unfold uStep
  rw [if_neg hn, if_pos hi, hf]
theorem uS_D (hn : ¬ unA l k) (hi : ¬ unB l k) : uStep (l.drop k.toNat) = (l.getD k.toNat 0, 1) := by
  unfold uStep
  rw [if_neg hn, if_neg hi, hd_drop]
theorem unA_of (h0 : 0 ≤ k) (h2 : (List.take (k + 2 - k).toNat (List.drop k.toNat l) == (PySem.Str.ofString "%u").cps.toList) = true) (h : k + 6 ≤ (l.length : Int)) : unA l k := ⟨of_decide_eq_true (u2 h2), by rw [List.length_drop]; omega⟩
theorem unB_of (h0 : 0 ≤ k) (h2 : ([l.getD k.toNat 0] == (PySem.Str.ofString "%").cps.toList) = true) (h : k + 3 ≤ (l.length : Int)) : unB l k := ⟨of_decide_eq_true (u1 h2), by rw [List.length_drop]; omega⟩
/-- where a turn stands: what is found, and what is still to be read -/
noncomputable def UnI (l : List Nat) (k : Int) (ys : List Nat) : Prop := 0 ≤ k ∧ k ≤ (l.length : Int) ∧ ys.length ≤ k.toNat ∧ ys ++ unescL (l.drop k.toNat) = unescL l
theorem UnI.step {ys : List Nat} {v n : Nat} {k' : Int} (h : UnI l k ys) (hk : k < (l.length : Int)) (hu : uStep (l.drop k.toNat) = (v, n)) (e : k' = k + (n : Int)) (hn : 0 < n) (hle : k' ≤ (l.length : Int)) : l.length - k'.toNat < l.length - k.toNat ∧ UnI l k' (ys ++ [v]) := by
  obtain ⟨h0, h1, hl, he⟩ := h
  refine ⟨by omega, by omega, hle, by rw [List.length_append, List.length_singleton]; omega, ?_⟩
  have ne : l.drop k.toNat ≠ [] := by
    intro q; have := congrArg List.length q; rw [List.length_drop] at this; simp at this; omega
  rw [unescL_step ne, hu] at he
  rw [← he, List.append_assoc, List.drop_drop, show k.toNat + n = k'.toNat by omega]; rfl
theorem UnI.fin {ys : List Nat} (h : UnI l k ys) (hk : ¬ k < (l.length : Int)) : ys = unescL l ∧ (unescL l).length ≤ l.length := by
  obtain ⟨h0, h1, hl, he⟩ := h
  have e9 : l.drop k.toNat = [] := List.drop_eq_nil_of_le (by omega)
  rw [e9, show unescL [] = [] from rfl, List.append_nil] at he
  exact ⟨he, by rw [← he]; omega⟩
theorem UnI.zero : UnI l 0 [] := ⟨Int.le_refl _, Int.natCast_nonneg _, Nat.le_refl _, rfl⟩
end
noncomputable abbrev sAt : PySem.Str := PySem.Str.ofString "at"
noncomputable abbrev sFd : PySem.Str := PySem.Str.ofString "found"
theorem c_unescape_text (w : World) (l : List Nat) (t1 : Tok) (news : Led) : Claim w 388 2 [.str (S l) t1] news (l.length ≤ 100) (OkV (.str (unescL l) 100) news) := by
  refine ⟨fun hl => (fn_wp (K := fun x _ => onS x fun i _ => i = unescL l ∧ i.length ≤ 100) (R := none) (rest0 := news) (tA0 := 0) (p0 := (0, false)) (pvs := [.str l 100]) (pre := True) (N := 1) (by k_is) (by k_is) [sTx] (by exact rfl) (by exact rfl) (by exact rfl) (by exact ⟨rfl, rfl, rfl, rfl⟩) rfl ⟨_, _, rfl, ⟨hl, t1, rfl⟩, rfl⟩ (fun _ h => h) (fun _ => trivial) (fun _ C m h tk hd hu s => ?_) fun _ x p v tA rest hx hr _ r => ⟨rest, fun _ h => h, hr, kS _ _ _ p _ hx r⟩).out trivial⟩
  refine init2_L s rfl rfl rfl fun D m h tk s => ?_
  refine wpAny_execs_cons (while_L (fs := [s374 w]) (N := 1) (glT_ok w) hd hu s (fun μ lk xs => ∃ k ys, lk = [(sFd, .ref D), (sAt, .int k), (sTx, .str l 100)] ∧ xs = List.map (fun v => [v]) ys ∧ μ = l.length - k.toNat ∧ UnI l k ys) (fun lk xs => ∃ k, lk = [(sFd, .ref D), (sAt, .int k), (sTx, .str l 100)] ∧ xs = List.map (fun v => [v]) (unescL l) ∧ (unescL l).length ≤ l.length) ⟨_, [(sFd, .ref D), (sAt, .int 0), (sTx, .str l 100)], ⟨rfl, rfl, rfl, trivial⟩, 0, [], rfl, rfl, rfl, .zero⟩ ?turn ?done)
  case turn =>
    rintro μ lk xs ⟨k, ys, rfl, rfl, rfl, hI⟩
    have h0 := hI.1
    refine ⟨fun a => evL_asg (asgT_i rfl rfl (fun _ _ _ _ _ => rfl) rfl (evA_i ?_)), fun a => ?_⟩
    · have hk : k < (l.length : Int) := of_decide_eq_true a
      have hlen : (List.map (fun v => [v]) ys).length ≤ 1000 := by rw [List.length_map]; have := hI.2.2.1; omega
      have fin : ∀ {k' : Int} {v n : Nat} {lk : Lk}, uStep (l.drop k.toNat) = (v, n) → k' = k + (n : Int) → 0 < n → k' ≤ (l.length : Int) → subL [(sFd, .ref D), (sAt, .int k'), (sTx, .str l 100)] lk →
          ∃ μ' lk', μ' < l.length - k.toNat ∧ subL lk' lk ∧ ∃ k'' ys', lk' = [(sFd, PV.ref D), (sAt, .int k''), (sTx, .str l 100)] ∧ List.map (fun v => [v]) ys ++ [[v]] = List.map (fun v => [v]) ys' ∧ μ' = l.length - k''.toNat ∧ UnI l k'' ys' :=
        fun {k' v n lk} hu e hn hle hs => have q := hI.step hk hu e hn hle; ⟨_, _, q.1, hs, k', ys ++ [v], rfl, by rw [List.map_append]; rfl, rfl, q.2⟩
      have d2 : 0 ≤ k ∧ k ≤ k + 2 := ⟨h0, by omega⟩
      have d6 : 0 ≤ k + 2 ∧ k + 2 ≤ k + 6 := by omega
      have d3 : 0 ≤ k + 1 ∧ k + 1 ≤ k + 3 := by omega
      have k1 : k + 1 ≤ (l.length : Int) := by omega
      have i4 : ∀ {n : Nat} {x : List Nat} {j : Int}, hexN (List.take n x) = some j → n ≤ 4 → 0 ≤ j ∧ j ≤ 1114111 := fun h hn => by
        have q := hexN_4 h (by rw [List.length_take]; omega); omega
      refine ⟨d2, fun a => ⟨fun b => evL_asg (asgT_i rfl rfl (fun _ _ _ _ _ => rfl) rfl (evA_i ⟨d6, trivial, fun hf => ?A, fun j hf => ?B⟩)), fun b => ⟨⟨h0, hk⟩, fun a' => ⟨fun b' => evL_asg (asgT_i rfl rfl (fun _ _ _ _ _ => rfl) rfl (evA_i ⟨d3, trivial, fun hf => ?C, fun j hf => ?E⟩)), fun b' => ?D⟩, fun a' => ⟨fun t => ft a' t, fun _ => ?D2⟩⟩⟩,
        fun a => ⟨fun t => ft a t, fun _ => ⟨⟨h0, hk⟩, fun a' => ⟨fun b' => evL_asg (asgT_i rfl rfl (fun _ _ _ _ _ => rfl) rfl (evA_i ⟨d3, trivial, fun hf => ?C2, fun j hf => ?E2⟩)), fun b' => ?D3⟩, fun a' => ⟨fun t => ft a' t, fun _ => ?D4⟩⟩⟩⟩
      case A => exact ⟨rfl, hlen, ⟨fun _ => ⟨⟨h0, hk⟩, ⟨fun _ => fin (uS_A h0 (unA_of h0 a (of_decide_eq_true b)) hf) rfl (by decide) k1 ⟨rfl, rfl, rfl, trivial⟩, nofun⟩⟩, nofun⟩⟩
      case B => exact ⟨rfl, hlen, ⟨nofun, fun _ => ⟨i4 hf (by omega), ⟨nofun, fun _ => fin (uS_B h0 (unA_of h0 a (of_decide_eq_true b)) hf) rfl (by decide) (of_decide_eq_true b) ⟨rfl, rfl, rfl, trivial⟩⟩⟩⟩⟩
      case C => exact ⟨rfl, hlen, ⟨fun _ => ⟨⟨h0, hk⟩, ⟨fun _ => fin (uS_C h0 (un_no6 h0 (of_decide_eq_false b)) (unB_of h0 a' (of_decide_eq_true b')) hf) rfl (by decide) k1 ⟨rfl, rfl, rfl, trivial⟩, nofun⟩⟩, nofun⟩⟩
      case E => exact ⟨rfl, hlen, ⟨nofun, fun _ => ⟨i4 hf (by omega), ⟨nofun, fun _ => fin (uS_E h0 (un_no6 h0 (of_decide_eq_false b)) (unB_of h0 a' (of_decide_eq_true b')) hf) rfl (by decide) (of_decide_eq_true b') ⟨rfl, rfl, rfl, trivial⟩⟩⟩⟩⟩
      case D => exact ⟨rfl, hlen, ⟨fun _ => ⟨⟨h0, hk⟩, ⟨fun _ => fin (uS_D (un_no6 h0 (of_decide_eq_false b)) (un_no3 h0 (of_decide_eq_false b'))) rfl (by decide) k1 ⟨rfl, rfl, rfl, trivial⟩, nofun⟩⟩, nofun⟩⟩
      case D2 => exact ⟨rfl, hlen, ⟨fun _ => ⟨⟨h0, hk⟩, ⟨fun _ => fin (uS_D (un_no6 h0 (of_decide_eq_false b)) (un_no1 a')) rfl (by decide) k1 ⟨rfl, rfl, rfl, trivial⟩, nofun⟩⟩, nofun⟩⟩
      case C2 => exact ⟨rfl, hlen, ⟨fun _ => ⟨⟨h0, hk⟩, ⟨fun _ => fin (uS_C h0 (un_no a) (unB_of h0 a' (of_decide_eq_true b')) hf) rfl (by decide) k1 ⟨rfl, rfl, rfl, trivial⟩, nofun⟩⟩, nofun⟩⟩
      case E2 => exact ⟨rfl, hlen, ⟨nofun, fun _ => ⟨i4 hf (by omega), ⟨nofun, fun _ => fin (uS_E h0 (un_no a) (unB_of h0 a' (of_decide_eq_true b')) hf) rfl (by decide) (of_decide_eq_true b') ⟨rfl, rfl, rfl, trivial⟩⟩⟩⟩⟩
      case D3 => exact ⟨rfl, hlen, ⟨fun _ => ⟨⟨h0, hk⟩, ⟨fun _ => fin (uS_D (un_no a) (un_no3 h0 (of_decide_eq_false b'))) rfl (by decide) k1 ⟨rfl, rfl, rfl, trivial⟩, nofun⟩⟩, nofun⟩⟩
      case D4 => exact ⟨rfl, hlen, ⟨fun _ => ⟨⟨h0, hk⟩, ⟨fun _ => fin (uS_D (un_no a) (un_no1 a')) rfl (by decide) k1 ⟨rfl, rfl, rfl, trivial⟩, nofun⟩⟩, nofun⟩⟩
    · obtain ⟨rfl, hb⟩ := hI.fin (of_decide_eq_false a)
      exact ⟨k, rfl, rfl, hb⟩
  case done =>
    rintro lk xs m h tk ⟨k, rfl, rfl, hb⟩ s
    show C.wp (execs [.Return (some (.Call (.Attribute (.Constant (.str (PySem.Str.ofString "")) 0 _) (PySem.Str.ofString "join") _) [.Name (PySem.Str.ofString "found") _] [] _)) _] C.env) _ h tk
    with_reducible refine join_L (glT_ok w) s ?g1 ?g2 ?g3 ?g4 ?g5
    case g1 => rfl
    case g2 => rfl
    case g3 => intro x hx; obtain ⟨y, _, rfl⟩ := List.mem_map.mp hx; show 1 ≤ 6; decide
    case g4 => rw [List.length_map]; omega
    intro t h' tk' s' _
    rw [flat_one]
    obtain ⟨c, hc, S0⟩ := s'.stt
    exact ⟨.str (unescL l) 100, (0, false), _, m, 0, _, h', tk', ⟨rfl, by omega⟩, S0, rfl, fun q hq => .tail _ hq, by omega, _, rfl⟩
noncomputable def s388 (w : World) : FnSpec w := mkS 388 2 (fun l => l.length ≤ 100) unescL 100 (by k_is) (c_unescape_text w)
noncomputable def hexA : List Nat := [48, 49, 50, 51, 52, 53, 54, 55, 56, 57, 97, 98, 99, 100, 101, 102, 65, 66, 67, 68, 69, 70]
theorem hexA_str : PySem.Str.ofString "0123456789abcdefABCDEF" = S hexA := by decide +kernel
theorem hexA_low : ∀ c ∈ hexA, Txt.find (PySem.Str.ofString "0123456789abcdef") (Txt.lower ⟨#[c]⟩) = hexv c ∧ 0 ≤ hexv c := by decide +kernel
theorem hexA_not {c : Nat} (h : c ∉ hexA) : hexv c < 0 := by
  by_cases q : c < 128
  · exact (by decide +kernel : ∀ c, c < 128 → c ∉ hexA → hexv c < 0) c q h
  · unfold hexv; rw [if_neg (by omega), if_neg (by omega), if_neg (by omega)]; decide
theorem lhex_turn {pre : List Int} {f : Int} {c : Nat} (h : pre.foldl hexStep (some 0) = some f) (h0 : 0 ≤ f) (hc : decide (c ∈ hexA) = true) :
    (pre ++ [(c : Int)]).foldl hexStep (some 0) = some (f * 16 + Txt.find (PySem.Str.ofString "0123456789abcdef") (Txt.lower ⟨#[c]⟩)) ∧ 0 ≤ f * 16 + Txt.find (PySem.Str.ofString "0123456789abcdef") (Txt.lower ⟨#[c]⟩) := by
  obtain ⟨a, b⟩ := hexA_low c (of_decide_eq_true hc)
  rw [a, List.foldl_append, h, List.foldl_cons, List.foldl_nil]
  simp only [hexStep, Option.bind_some, Int.toNat_natCast, if_neg (Int.not_lt.mpr b)]
  exact ⟨trivial, by omega⟩
theorem lhex_bad {l : List Nat} {pre post : List Int} {f : Int} {c : Nat} (e : KStt.codes (S l) = pre ++ (c : Int) :: post) (h : pre.foldl hexStep (some 0) = some f) (hc : decide (c ∈ hexA) = false) : none = hexN l := by
  rw [codes_S] at e
  have z : hexStep (some f) c = none := by simp only [hexStep, Option.bind_some, Int.toNat_natCast, if_pos (hexA_not (of_decide_eq_false hc))]
  rw [hexN, e, List.foldl_append, h, List.foldl_cons, z, foldl_none (fun _ => rfl)]
theorem lhex_raise {c : Nat} (hc : decide (c ∈ hexA) = true) (h : Txt.find (PySem.Str.ofString "0123456789abcdef") (Txt.lower ⟨#[c]⟩) = -1) : False := by
  obtain ⟨a, b⟩ := hexA_low c (of_decide_eq_true hc)
  omega
theorem hexA_z : (PySem.Str.ofString "0123456789abcdefABCDEF").cps.toList = hexA := by rw [hexA_str, S_cps]
theorem c_law_figures (w : World) (l : List Nat) (t1 : Tok) (news : Led) : Claim w 440 1 [.str (S l) t1] news (l.length ≤ 1000 ∧ True) (OkN (hexN l) news) := by
  refine ⟨fun ⟨hl, hb⟩ => (fn_O (N := 0) (fs := []) (pvs := [.str l 1000]) (pre := True) (by k_is) (by k_is) ⟨_, _, rfl, ⟨hl, t1, rfl⟩, rfl⟩ rfl (by exact rfl) (by exact rfl) (by exact rfl) (by exact ⟨rfl, rfl, rfl, rfl⟩) (fun _ => ?_)).out trivial⟩
  refine ⟨fun pre lk _ => ∃ f : Int, lk = [(sFd, .int f), (sTx, .str l 1000)] ∧ (pre.map fun (c : Nat) => (c : Int)).foldl hexStep (some 0) = some f ∧ 0 ≤ f, ⟨[(sFd, .int 0), (sTx, .str l 1000)], ⟨rfl, rfl, trivial⟩, 0, rfl, hex_start⟩, ?_, ?_⟩
  · rintro pre c post lk p e ⟨f, rfl, h1, h2⟩
    refine ⟨fun n => .inl ⟨rfl, ?_⟩, fun n => ?_⟩
    · have n := nb n
      rw [hexA_z] at n
      exact (lhex_bad (l := l) (pre := pre.map fun (c : Nat) => (c : Int)) (post := post.map fun (c : Nat) => (c : Int)) (by rw [codes_S, e, List.map_append, List.map_cons]) h1 n).symm
    · have n := nb' n
      rw [hexA_z] at n
      have q := lhex_turn h1 h2 n
      have lo : S (lowL [c]) = Txt.lower ⟨#[c]⟩ := S_of _
      obtain ⟨z1, z2⟩ := hexA_low c (of_decide_eq_true n)
      refine ⟨by rw [lo, z1]; exact z2, [(sFd, .int (f * 16 + Txt.find (PySem.Str.ofString "0123456789abcdef") (S (lowL [c])))), (sTx, .str l 1000)], ⟨rfl, rfl, trivial⟩, guardI rfl ⟨_, rfl, ?_⟩⟩
      rw [List.map_append, lo]; exact q
  · rintro lk p ⟨f, rfl, h1, h2⟩
    exact .inr ⟨f, rfl, (hex_done (l := l) (by rw [codes_S]; exact h1)).symm⟩
noncomputable def s440 (w : World) : FnSpec w := mkP 440 1 (fun _ => True) hexN (by k_is) (c_law_figures w)
section
variable {l : List Nat} {k : Int}
theorem lenA (h0 : 0 ≤ k) : (((List.take (k + 6 - (k + 2)).toNat (List.drop (k + 2).toNat l)).length : Nat) : Int) = 4 ↔ k + 6 ≤ (l.length : Int) := by
  rw [List.length_take, List.length_drop]; omega
theorem lenB (h0 : 0 ≤ k) : (((List.take (k + 3 - (k + 1)).toNat (List.drop (k + 1).toNat l)).length : Nat) : Int) = 2 ↔ k + 3 ≤ (l.length : Int) := by
  rw [List.length_take, List.length_drop]; omega
theorem no_u {f : Int} (h0 : 0 ≤ k) (h2 : unA l k) (hf : hexN (List.take (k + 3 - (k + 1)).toNat (List.drop (k + 1).toNat l)) = some f) : False := by
  rw [un_2 h0] at hf
  have q := h2.1
  revert hf q
  generalize l.drop k.toNat = r
  intro hf q
  match r, q, hf with
  | [], q, _ => simp at q
  | [a], q, _ => simp at q
  | a :: b :: r, q, hf =>
    simp only [List.take_succ_cons, List.take_zero, List.cons.injEq, and_true] at q
    obtain ⟨rfl, rfl⟩ := q
    simp only [List.drop_succ_cons, List.drop_zero, List.take_succ_cons, hexN, List.map_cons, List.foldl_cons] at hf
    have z : hexStep (some 0) ((117 : Nat) : Int) = none := by decide
    rw [z, foldl_none (fun _ => rfl)] at hf; cases hf
end
theorem c_law_unescaped (w : World) (l : List Nat) (t1 : Tok) (news : Led) : Claim w 447 2 [.str (S l) t1] news (l.length ≤ 100) (OkV (.str (unescL l) 100) news) := by
  refine ⟨fun hl => (fn_V (N := 1) (fs := [s440 w]) (pvs := [.str l 100]) (pre := True) kS (by k_is) (by k_is) ⟨_, _, rfl, ⟨hl, t1, rfl⟩, rfl⟩ rfl (by exact rfl) (by exact rfl) (by exact rfl) (by exact ⟨rfl, rfl, rfl, rfl⟩) (fun _ => ?_)).out trivial⟩
  refine asgT_i rfl rfl (fun _ _ _ _ _ => rfl) rfl (evA_i ?_)
  refine ⟨fun μ lk _ => ∃ k ys, lk = [(sFd, .str ys ys.length), (sAt, .int k), (sTx, .str l 100)] ∧ μ = l.length - k.toNat ∧ UnI l k ys, ⟨_, [(sFd, .str [] 0), (sAt, .int 0), (sTx, .str l 100)], ⟨rfl, rfl, rfl, trivial⟩, 0, [], rfl, rfl, .zero⟩, ?_⟩
  rintro μ lk p ⟨k, ys, rfl, rfl, hI⟩
  have h0 := hI.1
  refine ⟨fun a => ?_, fun a => ?_⟩
  · have hk : k < (l.length : Int) := of_decide_eq_true a
    have hys : ys.length ≤ 100 := by have := hI.2.2.1; omega
    have fin : ∀ {k' : Int} {v n : Nat} {lk : Lk}, uStep (l.drop k.toNat) = (v, n) → k' = k + (n : Int) → 0 < n → k' ≤ (l.length : Int) → subL [(sFd, .str (ys ++ [v]) (ys.length + 1)), (sAt, .int k'), (sTx, .str l 100)] lk →
        ∃ μ' lk', μ' < l.length - k.toNat ∧ subL lk' lk ∧ ∃ k'' ys', lk' = [(sFd, .str ys' ys'.length), (sAt, .int k''), (sTx, .str l 100)] ∧ μ' = l.length - k''.toNat ∧ UnI l k'' ys' :=
      fun {k' v n lk} hu e hn hle hs => have q := hI.step hk hu e hn hle; ⟨_, _, q.1, hs, k', ys ++ [v], by rw [List.length_append]; rfl, rfl, q.2⟩
    have d2 : 0 ≤ k ∧ k ≤ k + 2 := ⟨h0, by omega⟩
    have d6 : 0 ≤ k + 2 ∧ k + 2 ≤ k + 6 := by omega
    have d3 : 0 ≤ k + 1 ∧ k + 1 ≤ k + 3 := by omega
    have k1 : k + 1 ≤ (l.length : Int) := by omega
    have i4 : ∀ {n : Nat} {x : List Nat} {j : Int}, hexN (List.take n x) = some j → n ≤ 4 → 0 ≤ j ∧ j ≤ 1114111 := fun h hn => by
      have q := hexN_4 h (by rw [List.length_take]; omega); omega
    have g1 : Nat.ble (ys.length + 1) 16777216 = true := Nat.ble_eq_true_of_le (by omega)
    have ns : ∀ {x : List Nat} {f : Int} {P : Prop}, hexN x = some f → hexN x = none → P := fun a b => by rw [a] at b; cases b
    have ss : ∀ {x : List Nat} {f g : Int}, hexN x = some f → hexN x = some g → g = f := fun a b => by rw [a] at b; exact (Option.some.inj b).symm
    refine asgT_i rfl rfl (fun _ _ _ _ _ => rfl) rfl (evA_i ⟨d6, d3, d2, fun a => ⟨fun b => ⟨trivial, fun hf => ⟨nofun, fun _ => ?Y1⟩, fun j hf => ⟨fun _ => asgT_i rfl rfl (fun _ _ _ _ _ => rfl) rfl (evA_i ⟨trivial, fun hf' => ns hf hf', fun j' hf' => ⟨i4 (n := (k + 6 - (k + 2)).toNat) hf' (by omega), guardI g1 ?X⟩⟩), nofun⟩⟩, fun b => ⟨fun t => ft b t, fun _ => ?Y2⟩⟩, fun a => ⟨fun t => ft a t, fun _ => ?Y3⟩⟩)
    case X => exact fin (by rw [ss hf hf']; exact uS_B h0 (unA_of h0 a ((lenA h0).mp (eq_of_beq b))) hf) rfl (by decide) ((lenA h0).mp (eq_of_beq b)) ⟨rfl, rfl, rfl, trivial⟩
    case Y1 =>
      have A := unA_of h0 a ((lenA h0).mp (eq_of_beq b))
      have YC : ∀ j, unB l k → hexN (List.take (k + 3 - (k + 1)).toNat (List.drop (k + 1).toNat l)) = some j → uStep (l.drop k.toNat) = (j.toNat, 3) := fun j _ h => (no_u h0 A h).elim
      have YD : (unB l k → hexN (List.take (k + 3 - (k + 1)).toNat (List.drop (k + 1).toNat l)) = none) → uStep (l.drop k.toNat) = (l.getD k.toNat 0, 1) := fun _ => uS_A h0 A hf
      refine ⟨⟨h0, hk⟩, fun a' => ⟨fun b' => ⟨trivial, fun hg => ⟨nofun, fun _ => asgT_i rfl rfl (fun _ _ _ _ _ => rfl) rfl (evA_i ⟨⟨h0, hk⟩, guardI g1 (fin (YD fun u => hg) rfl (by decide) k1 ⟨rfl, rfl, rfl, trivial⟩)⟩)⟩, fun j hg => ⟨fun _ => asgT_i rfl rfl (fun _ _ _ _ _ => rfl) rfl (evA_i ⟨trivial, fun hg' => ns hg hg', fun j' hg' => ⟨i4 (n := (k + 3 - (k + 1)).toNat) hg' (by omega), guardI g1 (fin (by rw [ss hg hg']; exact YC j (unB_of h0 a' ((lenB h0).mp (eq_of_beq b'))) hg) rfl (by decide) ((lenB h0).mp (eq_of_beq b')) ⟨rfl, rfl, rfl, trivial⟩)⟩⟩), nofun⟩⟩, fun b' => ⟨fun t => ft b' t, fun _ => asgT_i rfl rfl (fun _ _ _ _ _ => rfl) rfl (evA_i ⟨⟨h0, hk⟩, guardI g1 (fin (YD fun u => (un_no3 h0 (fun h => ne_of_beq_false b' ((lenB h0).mpr h)) u).elim) rfl (by decide) k1 ⟨rfl, rfl, rfl, trivial⟩)⟩)⟩⟩, fun a' => ⟨fun t => ft a' t, fun _ => asgT_i rfl rfl (fun _ _ _ _ _ => rfl) rfl (evA_i ⟨⟨h0, hk⟩, guardI g1 (fin (YD fun u => (un_no1 a' u).elim) rfl (by decide) k1 ⟨rfl, rfl, rfl, trivial⟩)⟩)⟩⟩
    case Y2 =>
      have A : ¬ unA l k := un_no6 h0 fun h => by have e := (lenA h0).mpr h; exact ne_of_beq_false b e
      have YC : ∀ j, unB l k → hexN (List.take (k + 3 - (k + 1)).toNat (List.drop (k + 1).toNat l)) = some j → uStep (l.drop k.toNat) = (j.toNat, 3) := fun j u h => uS_E h0 A u h
      have YD : (unB l k → hexN (List.take (k + 3 - (k + 1)).toNat (List.drop (k + 1).toNat l)) = none) → uStep (l.drop k.toNat) = (l.getD k.toNat 0, 1) := fun h => by
        by_cases u : unB l k
        · exact uS_C h0 A u (h u)
        · exact uS_D A u
      refine ⟨⟨h0, hk⟩, fun a' => ⟨fun b' => ⟨trivial, fun hg => ⟨nofun, fun _ => asgT_i rfl rfl (fun _ _ _ _ _ => rfl) rfl (evA_i ⟨⟨h0, hk⟩, guardI g1 (fin (YD fun u => hg) rfl (by decide) k1 ⟨rfl, rfl, rfl, trivial⟩)⟩)⟩, fun j hg => ⟨fun _ => asgT_i rfl rfl (fun _ _ _ _ _ => rfl) rfl (evA_i ⟨trivial, fun hg' => ns hg hg', fun j' hg' => ⟨i4 (n := (k + 3 - (k + 1)).toNat) hg' (by omega), guardI g1 (fin (by rw [ss hg hg']; exact YC j (unB_of h0 a' ((lenB h0).mp (eq_of_beq b'))) hg) rfl (by decide) ((lenB h0).mp (eq_of_beq b')) ⟨rfl, rfl, rfl, trivial⟩)⟩⟩), nofun⟩⟩, fun b' => ⟨fun t => ft b' t, fun _ => asgT_i rfl rfl (fun _ _ _ _ _ => rfl) rfl (evA_i ⟨⟨h0, hk⟩, guardI g1 (fin (YD fun u => (un_no3 h0 (fun h => ne_of_beq_false b' ((lenB h0).mpr h)) u).elim) rfl (by decide) k1 ⟨rfl, rfl, rfl, trivial⟩)⟩)⟩⟩, fun a' => ⟨fun t => ft a' t, fun _ => asgT_i rfl rfl (fun _ _ _ _ _ => rfl) rfl (evA_i ⟨⟨h0, hk⟩, guardI g1 (fin (YD fun u => (un_no1 a' u).elim) rfl (by decide) k1 ⟨rfl, rfl, rfl, trivial⟩)⟩)⟩⟩
    case Y3 =>
      have A : ¬ unA l k := un_no a
      have YC : ∀ j, unB l k → hexN (List.take (k + 3 - (k + 1)).toNat (List.drop (k + 1).toNat l)) = some j → uStep (l.drop k.toNat) = (j.toNat, 3) := fun j u h => uS_E h0 A u h
      have YD : (unB l k → hexN (List.take (k + 3 - (k + 1)).toNat (List.drop (k + 1).toNat l)) = none) → uStep (l.drop k.toNat) = (l.getD k.toNat 0, 1) := fun h => by
        by_cases u : unB l k
        · exact uS_C h0 A u (h u)
        · exact uS_D A u
      refine ⟨⟨h0, hk⟩, fun a' => ⟨fun b' => ⟨trivial, fun hg => ⟨nofun, fun _ => asgT_i rfl rfl (fun _ _ _ _ _ => rfl) rfl (evA_i ⟨⟨h0, hk⟩, guardI g1 (fin (YD fun u => hg) rfl (by decide) k1 ⟨rfl, rfl, rfl, trivial⟩)⟩)⟩, fun j hg => ⟨fun _ => asgT_i rfl rfl (fun _ _ _ _ _ => rfl) rfl (evA_i ⟨trivial, fun hg' => ns hg hg', fun j' hg' => ⟨i4 (n := (k + 3 - (k + 1)).toNat) hg' (by omega), guardI g1 (fin (by rw [ss hg hg']; exact YC j (unB_of h0 a' ((lenB h0).mp (eq_of_beq b'))) hg) rfl (by decide) ((lenB h0).mp (eq_of_beq b')) ⟨rfl, rfl, rfl, trivial⟩)⟩⟩), nofun⟩⟩, fun b' => ⟨fun t => ft b' t, fun _ => asgT_i rfl rfl (fun _ _ _ _ _ => rfl) rfl (evA_i ⟨⟨h0, hk⟩, guardI g1 (fin (YD fun u => (un_no3 h0 (fun h => ne_of_beq_false b' ((lenB h0).mpr h)) u).elim) rfl (by decide) k1 ⟨rfl, rfl, rfl, trivial⟩)⟩)⟩⟩, fun a' => ⟨fun t => ft a' t, fun _ => asgT_i rfl rfl (fun _ _ _ _ _ => rfl) rfl (evA_i ⟨⟨h0, hk⟩, guardI g1 (fin (YD fun u => (un_no1 a' u).elim) rfl (by decide) k1 ⟨rfl, rfl, rfl, trivial⟩)⟩)⟩⟩
  · exact ⟨(hI.fin (of_decide_eq_false a)).1, by have := (hI.fin (of_decide_eq_false a)); rw [this.1]; omega⟩
noncomputable def s447 (w : World) : FnSpec w := mkS 447 2 (fun l => l.length ≤ 100) unescL 100 (by k_is) (c_law_unescaped w)
section
variable {w : World} {cs : PySem.Scope} {C : Cx w cs}
theorem join_call {s0 nm : PySem.Str} {kk : Nat} {q0 q1 pos : Pos} {e : PySem.Expr} {h : Heap} {tk : Nat} {Q : Value → Shared → Prop} (hg : (nm == PySem.Str.ofString "join" && (Nat.beq q1.endLine pos.line && notStar e)) = true)
    (k : ∀ t tk', C.wp (eval e C.env) (fun v s₁ => wpAny (model C.prog w) C.A (call (.builtin "str.join") [.str s0 t, v]) Q E0 s₁) h tk') : C.wp (eval (.Call (.Attribute (.Constant (.str s0) kk q0) nm q1) [e] [] pos) C.env) Q h tk := by
  obtain ⟨g1, g2⟩ := Bool.and_eq_true_iff.mp hg
  obtain ⟨g2, g3⟩ := Bool.and_eq_true_iff.mp g2
  obtain rfl := eq_of_beq g1
  have hns : [e].all notStar = true := by rw [List.all_cons, g3]; rfl
  refine MethodCall_ (PySem.wpAny_Constant_str ?_) (meth_eqC (args_plain hns) (by rw [g2]; rfl))
  exact GM.join (callWith_method1 (args_cons (wpAny_mono (k _ _) (fun _ _ h => args_nil h) fun _ _ h => h) (star_of g3 _)) (star_of g3 _) (args_plain (es := []) rfl))
theorem ldGlobK {M : Model} {A : Around} {E : Value → Shared → Prop} {s : Shared} {scope : PySem.Scope} {cl : List (PySem.Str × Addr)} {D : Addr} {env : Env} {x : PySem.Str} {v : Value} {pos : Pos} {Q : Value → Shared → Prop} {m : PySem.Str → Option Value}
    (F : Fr C.h₀ C.L s.heap m) (e : nsIn (Mine.hd.heap_1 w.params) mainGlobals x = some (some v)) (h : Q v s) (hg : env.globals = mainGlobals := by rfl) (hk : (compEnvC scope cl D env).scope.kind = .function := by rfl) (hx : (compEnvC scope cl D env).kindOf x = some .globalImplicit := by rfl)
    (hd : (x == ("__debug__" : PySem.Str)) = false := by decide) : wpAny M A (eval (.Name x pos) (compEnvC scope cl D env)) Q E s :=
  PySem.Calls.Name_function_global hk hx (PySem.Calls.loadGlobal_global (env := compEnvC scope cl D env) (show s.heap.Ns env.globals _ from hg ▸ (topRead_of C.T).g.keeps F.keep) (mg_of C.X (topRead_of C.T).g e) h) hd
end
section
variable {w : World} {cs : PySem.Scope} {C : Cx w cs} {m : PySem.Str → Option Value}
/-- an element _law_wide(part, 2) -/
theorem elt_wide {x : PySem.Str} {scope : PySem.Scope} {cl : List (PySem.Str × Addr)} {s : Shared} {T : Led → Prop} {Fin : List Value → Led → Prop} {P : Nat → Value → Prop} {k i : Nat} {ys : List Value} {news : Led} {part : Int} {tp : Tok} {q1 q2 q3 q4 : Pos} {k2 : Nat}
    (hd : C.dp + 1 < recursionLimit) (hu : C.un + 8 < cLine) (hs : ∀ g tk, { s with heap := g, toks := tk } = C.st g tk) (hP : ∀ v, P i v → v = .int part tp) (hp : 0 ≤ part ∧ part ≤ 99) (hTn : T news)
    (hg : ∀ D, (compEnvC scope cl D C.env).kindOf (PySem.Str.ofString "_law_wide") = some .globalImplicit) (hl : ∀ D, (compEnvC scope cl D C.env).kindOf x = some .local) (hx : (x == ("__debug__" : PySem.Str)) = false) (hk : scope.kind = .function)
    (f : ∀ t, LCg.CompRest C.prog w C.A C.h₀ C.L m C.env (.Call (.Name (PySem.Str.ofString "_law_wide") q1) [.Name x q2, .Constant (.int 2) k2 q3] [] q4) x scope cl s T P Fin k (i + 1) (ys ++ [.str (S (padK part.toNat 2)) t]) news) :
    LCg.CompRest C.prog w C.A C.h₀ C.L m C.env (.Call (.Name (PySem.Str.ofString "_law_wide") q1) [.Name x q2, .Constant (.int 2) k2 q3] [] q4) x scope cl s T P Fin (k + 1) i ys news := by
  refine LCg.CompRest.succ fun v I oI C' oC D m₂ h tk E' hv hNs hm F N off ne => ?_
  obtain rfl := hP v hv
  rw [hs]
  refine Call_ (ldGlobK (C := C) (v := .ref 402) F (by k_is) ?_ rfl hk (hg C')) rfl
  refine callWith_K C.X (by k_is) (args_cons (ldVarK (hNs.ns (N _ (.tail _ (.head _))).1) hm (args_cons (wpAny_Constant_int (args_nil ⟨C.X.keeps F.keep, ?_⟩)) rfl) hk (hl C') hx) rfl) rfl rfl
  refine (c_law_wide w part 2 _ _ ((I, oI) :: (C', oC) :: (D, LCg.lst ys) :: news)).use C.B F C.X N C.T ⟨hp.1, by omega, by decide, by decide⟩ C.hk hd (by omega) fun r news' h' tk' F' N' ok => ?_
  obtain ⟨ok, _, t, rfl⟩ := ok
  exact LCg.CompEnd.intro (s₁ := C.st h tk) F' N' news ok off hTn (f t)
end
theorem c_law_clock (w : World) (x : Addr) (y m d h mi se ms : Int) (vs : List Value) (news : Led) (hi : IntsAre vs [y, m, d, h, mi, se, ms]) : Claim w 407 3 [.ref x] ((x, tupO vs) :: news) (CkP h mi se) (OkV (.str (clockL h mi se) 32) ((x, tupO vs) :: news)) := by
  refine ⟨fun hp => (fn_wp (K := fun x _ => onS x fun i _ => i = clockL h mi se ∧ i.length ≤ 32) (R := none) (rest0 := (x, tupO vs) :: news) (tA0 := 0) (p0 := (0, false)) (pvs := [.tup [y, m, d, h, mi, se, ms]]) (pre := True) (N := 2) (by k_is) (by k_is) [PySem.Str.ofString "seven"] (by exact rfl) (by exact rfl) (by exact rfl) (by exact ⟨rfl, rfl, rfl, rfl⟩) rfl (.cT (.head _) hi .nil) (fun _ h => h) (fun _ => trivial) (fun _ C m' h' tk hd hu s => ?_) fun _ x p v tA rest hx hr _ r => ⟨rest, fun _ h => h, hr, kS _ _ _ p _ hx r⟩).out trivial⟩
  refine wpAny_execs_cons ?_
  refine wpAny_Return_some ?_
  show C.wp (eval _ C.env) _ h' tk
  with_reducible refine join_call ?g1 fun t0 tk0 => ?g2
  case g1 => rfl
  refine ListComp_Tu s.F (by rfl) (by decide) (by rfl) (by decide) (by rfl) ?_
  refine Subscript_ (name_sound (glT_ok w) s rfl fun v rv => ?_)
  obtain ⟨x2, vs2, rfl, hm, hi2⟩ := rv
  obtain ⟨t1, t2, t3, t4, t5, t6, t7, rfl⟩ := ints7 hi2
  refine wpAny_Slice (evalPart_some_step (wpAny_Constant_int (evalPart_some_step (wpAny_Constant_int (evalPart_none_step ?_)))))
  refine slice_36 (s := C.st h' (tk0 + 1 + 1)) s.F s.N hm (fun D h2 F2 N2 l2 => TupSrc.intro rfl F2 N2 (.head _) (by rw [sizeLine_eq]; exact Nat.le_of_ble_eq_true rfl) fun g => ?_)
  have T : TupAt D #[Value.int h t4, .int mi t5, .int se t6] ((D, tupO [.int h t4, .int mi t5, .int se t6]) :: rdLed none (0, false) 0 ((x, tupO vs) :: news)) := ⟨_, .head _, rfl, _, rfl⟩
  have le : ∀ {a : Int}, a ≤ 99 → a ≤ 99 := id
  refine elt_wide (k := 2) (part := h) (tp := t4) (by omega) (by omega) (fun _ _ => rfl) (fun v e => (Option.some.inj e).symm) ⟨hp.1, hp.2.1⟩ T (fun _ => rfl) (fun _ => rfl) rfl rfl fun u1 => ?_
  refine elt_wide (k := 1) (part := mi) (tp := t5) (by omega) (by omega) (fun _ _ => rfl) (fun v e => (Option.some.inj e).symm) ⟨hp.2.2.1, hp.2.2.2.1⟩ T (fun _ => rfl) (fun _ => rfl) rfl rfl fun u2 => ?_
  refine elt_wide (k := 0) (part := se) (tp := t6) (by omega) (by omega) (fun _ _ => rfl) (fun v e => (Option.some.inj e).symm) ⟨hp.2.2.2.2.1, hp.2.2.2.2.2⟩ T (fun _ => rfl) (fun _ => rfl) rfl rfl fun u3 => ?_
  refine LCg.CompRest.zero ?_
  unfold LCg.FinE
  intro D2 h3 tk3 F3 N3 o1
  have a := padL_len (pad_pre hp.1 hp.2.1); have b := padL_len (pad_pre hp.2.2.1 hp.2.2.2.1); have c := padL_len (pad_pre hp.2.2.2.2.1 hp.2.2.2.2.2)
  rw [show (2 : Int).toNat = 2 from rfl] at a b c
  refine join_listW (ys := [S (padK h.toNat 2), S (padK mi.toNat 2), S (padK se.toNat 2)]) (N3.isList (.head _)) (.cons _ _ (.cons _ _ (.cons _ _ .nil))) (by decide +kernel) (by simp only [List.map_cons, List.map_nil, S_len, List.sum_cons, List.sum_nil, List.length_cons, List.length_nil]; omega) fun t' k' => ?_
  rw [join3]
  exact ⟨.str (clockL h mi se) 32, (0, false), _, m', 0, _, h3, k', ⟨rfl, clockL_len hp⟩, ⟨F3, fun q hq => N3 q (.tail _ (.tail _ hq)), trivial, s.H⟩, rfl, fun q hq => hq, clockL_len hp, t', rfl⟩
noncomputable def s407 (w : World) : FnSpec w := mkT 407 3 (fun xs k => match xs with | [_, _, _, h, mi, se, _] => CkP h mi se ∧ k (.str (clockL h mi se) 32) | _ => False) (by k_is) fun xs k h => by
  match xs, h with
  | [_, _, _, h, mi, se, _], hk => exact ⟨_, hk.2, fun x vs news hi => ⟨fun _ => (c_law_clock w x _ _ _ h mi se _ vs news hi).out hk.1⟩⟩
section
variable {w : World} {R : Option Rd} {cs : PySem.Scope} {fs : List (FnSpec w)} {ms : List (MtSpec w)} {N n : Nat} {K : PV → PS → Prop} {lk : Lk} {p : PS} {kn : Lk → PS → Prop} {es vs : List PySem.Expr} {kk k2 : Nat} {v : PySem.Expr} {q q' q2 : Pos} {rest : List PySem.Stmt} {xs : List PySem.Str} {x : PySem.Str}
/-- a name takes the value z -/
theorem asgN_v (h1 : allLocal cs [x] = true) (z : PV) (he : ∀ k : PV → PS → Prop, k z p → evE R cs fs ms N lk 40 p v k) (h : evS R cs fs ms N K n rest ((x, unl z) :: lk) p kn) : evS R cs fs ms N K (n + 1) (.Assign [.Name x q'] v q :: rest) lk p kn := guardI (b := true) rfl (guardI h1 (he _ h))
/-- names take the values zs -/
theorem asgT_v (h1 : namesOf es = some xs) (h2 : allLocal cs xs = true) (h3 : ∀ cn L a ccd cl, swappedStores [.Tuple es kk q'] (.Tuple vs k2 q2) (envX cn cs L a ccd cl) = pure (bif swp xs vs then some xs else none)) (h4 : (vs.all notStar && allLocal cs xs.reverse) = true) (zs : List PV)
    (h5 : (Nat.beq xs.length (zs.map unl).length && Nat.ble zs.length 20) = true) (he : ∀ k : List PV → PS → Prop, k zs p → evA (evE R cs fs ms N lk 40) vs p k) (h : evS R cs fs ms N K n rest (bif swp xs vs then (xs.reverse.zip (zs.map unl).reverse).reverse ++ lk else (xs.zip (zs.map unl)).reverse ++ lk) p kn) :
    evS R cs fs ms N K (n + 1) (.Assign [.Tuple es kk q'] (.Tuple vs k2 q2) q :: rest) lk p kn := asgT_i h1 h2 h3 h4 (he _ (guardI h5 h))
end
noncomputable abbrev zWk : List Nat := (PySem.Str.ofString "SunMonTueWedThuFriSat").cps.toList
noncomputable abbrev zMo : List Nat := (PySem.Str.ofString "JanFebMarAprMayJunJulAugSepOctNovDec").cps.toList
theorem wk_sl {k : Int} (h : 0 ≤ k ∧ k < 7) : ((zWk.drop (3 * k).toNat).take (3 * k + 3 - 3 * k).toNat) = wkL k := by
  obtain ⟨n, rfl⟩ := Int.eq_ofNat_of_zero_le h.1
  exact (by decide +kernel : ∀ n : Nat, n < 7 → ((zWk.drop (3 * (n : Int)).toNat).take (3 * (n : Int) + 3 - 3 * (n : Int)).toNat) = wkL n) n (by omega)
theorem mo_sl {k : Int} (h : 0 ≤ k ∧ k < 12) : ((zMo.drop (3 * k).toNat).take (3 * k + 3 - 3 * k).toNat) = monL k := by
  obtain ⟨n, rfl⟩ := Int.eq_ofNat_of_zero_le h.1
  exact (by decide +kernel : ∀ n : Nat, n < 12 → ((zMo.drop (3 * (n : Int)).toNat).take (3 * (n : Int) + 3 - 3 * (n : Int)).toNat) = monL n) n (by omega)
theorem sl_ok {k : Int} (h : 0 ≤ k) : 0 ≤ 3 * k ∧ 3 * k ≤ 3 * k + 3 := by omega
noncomputable abbrev WdP (n m : Int) : Prop := 0 ≤ n ∧ n ≤ 999999 ∧ 1 ≤ m ∧ m ≤ 10
theorem wd_ok {n : Int} (h : PadP n 2) : WdP n 2 := ⟨h.1, h.2.1, by decide, by decide⟩
theorem shown_len {t o : Int} (hp : Tm (t + o * 60000) ∧ OffP o) : (shownL t o).length ≤ 150 := by
  have a := tmL_len (t + o * 60000); have b := offL_len hp.2; have c := dayL_len hp.1
  unfold shownL; simp only [List.length_append, List.length_singleton]; omega
theorem c_law_shown (w : World) (t o : Int) (t1 t2 : Tok) (news : Led) : Claim w 421 9 [.int t t1, .int o t2] news (Tm (t + o * 60000) ∧ OffP o) (OkV (.str (shownL t o) 150) news) :=
  fn_V (N := 8) (fs := [s134 w, s99 w, s402 w, s414 w, s407 w]) kS (by k_is) (by k_is) (.cI (.cI .nil)) rfl (by exact rfl) (by exact rfl) (by exact rfl) (by exact ⟨rfl, rfl, rfl, rfl⟩) (by
    intro hp
    have hw : 0 ≤ wdT (t + o * 60000) ∧ wdT (t + o * 60000) < 7 := wd_i (t + o * 60000)
    have hm := mo_i (t + o * 60000)
    refine asgN_v rfl (.int (t + o * 60000)) (fun _ h => h) ?_
    refine asgT_v rfl rfl (fun _ _ _ _ _ => rfl) rfl [.tup (fldT (t + o * 60000)), .int (3 * wdT (t + o * 60000))] rfl (fun _ h => h) ?_
    have i1 : (0 : Int) ≤ 1 ∧ (1 : Int) < 7 := by decide
    have i2 : (0 : Int) ≤ 2 ∧ (2 : Int) < 7 := by decide
    refine asgN_v rfl (.str (wkL (wdT (t + o * 60000)) ++ [32] ++ monL (moT (t + o * 60000)) ++ [32] ++ padK (dtT (t + o * 60000)).toNat 2) 69) (fun k h => ⟨sl_ok hw.1, i1, i1, sl_ok hm.1, i2, wd_ok (dt_pad _), ?_⟩) ?_
    · show k (.str (((zWk.drop (3 * wdT (t + o * 60000)).toNat).take (3 * wdT (t + o * 60000) + 3 - 3 * wdT (t + o * 60000)).toNat) ++ (PySem.Str.ofString " ").cps.toList ++ ((zMo.drop (3 * moT (t + o * 60000)).toNat).take (3 * moT (t + o * 60000) + 3 - 3 * moT (t + o * 60000)).toNat) ++ (PySem.Str.ofString " ").cps.toList ++ padK (dtT (t + o * 60000)).toNat 2) 69) (0, false)
      rw [wk_sl hw, mo_sl hm, sl " " _ s_sp]; exact h
    have ko : ∀ {n : Int}, PadP n 2 → WdP n 2 := wd_ok
    refine asgN_v rfl (.str ((if o < 0 then [45] else [43]) ++ padK (o.natAbs / 60) 2 ++ padK (o.natAbs % 60) 2) 21) (fun k h => ⟨fun a => ⟨ko (off_1 hp.2).1, ko (off_2 hp.2).1, ?_⟩, fun a => ⟨ko (off_1 hp.2).1, ko (off_2 hp.2).1, ?_⟩⟩) ?_
    · show k (.str ((PySem.Str.ofString "-").cps.toList ++ padK ((if o < 0 then -o else o).fdiv 60).toNat 2 ++ padK ((if o < 0 then -o else o).fmod 60).toNat 2) 21) (0, false)
      rw [(off_1 hp.2).2, (off_2 hp.2).2, sl "-" _ s_minus]; rw [if_pos (of_decide_eq_true a)] at h; exact h
    · show k (.str ((PySem.Str.ofString "+").cps.toList ++ padK ((if o < 0 then -o else o).fdiv 60).toNat 2 ++ padK ((if o < 0 then -o else o).fmod 60).toNat 2) 21) (0, false)
      rw [(off_1 hp.2).2, (off_2 hp.2).2, sl "+" _ s_plus]; rw [if_neg (of_decide_eq_false a)] at h; exact h
    have i0 : (0 : Int) ≤ 0 ∧ (0 : Int) < 7 := by decide
    refine ⟨i0, yr_range hp.1, tm_ck _, fin ?_ (shown_len hp)⟩
    rw [sl " " _ s_sp, sl " GMT" _ s_sgmt]
    show wkL (wdT (t + o * 60000)) ++ [32] ++ monL (moT (t + o * 60000)) ++ [32] ++ padK (dtT (t + o * 60000)).toNat 2 ++ [32] ++ yearL (yrT (t + o * 60000)) ++ [32] ++ tmL (t + o * 60000) ++ [32, 71, 77, 84] ++ ((if o < 0 then [45] else [43]) ++ padK (o.natAbs / 60) 2 ++ padK (o.natAbs % 60) 2) = shownL t o
    unfold shownL dayL offL
    split <;> simp only [List.append_assoc, List.cons_append, List.nil_append])
noncomputable def s421 (w : World) : FnSpec w := mk2 421 9 (fun t o => Tm (t + o * 60000) ∧ OffP o) (fun t o => .str (shownL t o) 150) (by k_is) (c_law_shown w)
theorem c_law_utc (w : World) (t : Int) (t1 : Tok) (news : Led) : Claim w 428 9 [.int t t1] news (Tm t) (OkV (.str (utcL t) 150) news) :=
  fn_V (N := 8) (fs := [s134 w, s99 w, s402 w, s414 w, s407 w]) kS (by k_is) (by k_is) (.cI .nil) rfl (by exact rfl) (by exact rfl) (by exact rfl) (by exact ⟨rfl, rfl, rfl, rfl⟩) (by
    intro hp
    have hw : 0 ≤ wdT t ∧ wdT t < 7 := wd_i t
    have hm := mo_i t
    have i0 : (0 : Int) ≤ 0 ∧ (0 : Int) < 7 := by decide
    have i1 : (0 : Int) ≤ 1 ∧ (1 : Int) < 7 := by decide
    have i2 : (0 : Int) ≤ 2 ∧ (2 : Int) < 7 := by decide
    refine asgT_v rfl rfl (fun _ _ _ _ _ => rfl) rfl [.tup (fldT t), .int (3 * wdT t)] rfl (fun _ h => h) ?_
    refine asgN_v rfl (.str (wkL (wdT t) ++ [44, 32] ++ padK (dtT t).toNat 2 ++ [32] ++ monL (moT t)) 70) (fun k h => ⟨sl_ok hw.1, i2, wd_ok (dt_pad _), i1, i1, sl_ok hm.1, ?_⟩) ?_
    · show k (.str (((zWk.drop (3 * wdT t).toNat).take (3 * wdT t + 3 - 3 * wdT t).toNat) ++ (PySem.Str.ofString ", ").cps.toList ++ padK (dtT t).toNat 2 ++ (PySem.Str.ofString " ").cps.toList ++ ((zMo.drop (3 * moT t).toNat).take (3 * moT t + 3 - 3 * moT t).toNat)) 70) (0, false)
      rw [wk_sl hw, mo_sl hm, sl " " _ s_sp, sl ", " _ s_comma]; exact h
    refine ⟨i0, yr_range hp, tm_ck _, fin ?_ (utcL_len hp)⟩
    rw [sl " " _ s_sp, sl " GMT" _ s_sgmt]; rfl)
noncomputable def s428 (w : World) : FnSpec w := mk1P 428 9 Tm (fun t => .str (utcL t) 150) (by k_is) (c_law_utc w)
section
variable {prog : Program} {w : World} {A : Around} {E : Value → Shared → Prop} {s : Shared} {h₀ : Heap} {C : Addr} {m : PySem.Str → Option Value} {o : Obj} {v₀ : Option Value} {v : Value} {x : PySem.Str} {rest : Led}
theorem store_head {env : Env} {Q : Unit → Shared → Prop} (F : Fr h₀ env.locals s.heap m) (N : News h₀ env.locals s.heap ((C, o) :: rest)) (hne : ∀ p ∈ rest, p.1 ≠ C) (hd : o.data = .cell v₀)
    (h : ∀ h' o', Fr h₀ env.locals h' m → News h₀ env.locals h' ((C, o') :: rest) → o'.data = .cell (some v) → Q () { s with heap := h' })
    (hc : env.cells.lookup x = some C := by rfl) (hk : env.scope.kind = .function := by rfl) (hx : env.kindOf x = some .cell := by rfl) : wpAny (model prog w) A (storeName env x v) Q E s := by
  have hmem := N (C, o) (.head _)
  refine wpAny_storeName_cell hk hx hc ⟨o, hmem.1, hd⟩ fun h' hv hs => ?_
  obtain ⟨o', ho', hd'⟩ := hv
  refine h h' o' ⟨F.ns.sameBut hs (Ne.symm hmem.2.1), fun b ob e => (hs.2 b (fun q => ?_)).trans (F.keep b ob e), F.above⟩ (fun p hp => ?_) hd'
  · rw [q, hmem.2.2] at e; cases e
  · rcases List.mem_cons.mp hp with rfl | hp
    · exact ⟨ho', hmem.2⟩
    · have z := N p (.tail _ hp)
      exact ⟨(hs.2 _ (hne p hp)).trans z.1, z.2⟩
theorem hexItem {value slice : PySem.Expr} {k : Int} {t u : Tok} {Q : Value → Shared → Prop} (h0 : 0 ≤ k) (h1 : k < 16) (h : ∀ t', Q (.str (S [hexC k.toNat]) t') { s with toks := s.toks + 1 })
    (hs : subscripted slice false (.str (S zHex) t) (.int k u) = operate [.str (S zHex) t, .int k u] (getItem (.str (S zHex) t) (.int k u))) :
    wpAny (model prog w) A (subscriptTail value slice (.str (PySem.Str.ofString "0123456789ABCDEF") t) (.int k u)) Q E s := by
  have e : PySem.Str.ofString "0123456789ABCDEF" = S zHex := (S_of _).symm
  rw [e]
  refine item_str_S (by decide +kernel) h0 (Int.lt_of_lt_of_le h1 (by decide +kernel)) (fun _ => ?_) hs let_go
  have z : zHex.getD k.toNat 0 = hexC k.toNat := hexC_at (by omega)
  rw [z]; exact h _
end
section
variable {w : World} {cs : PySem.Scope} {C : Cx w cs} {m : PySem.Str → Option Value} {h : Heap} {tk : Nat}
/-- a loop over a text's signs -/
theorem for_G {x y : PySem.Str} {b : List PySem.Stmt} {q q1 q2 : Pos} {l : List Nat} {led : Led} {Q : Flow → Shared → Prop} (J : List Nat → (PySem.Str → Option Value) → Led → Prop) (F : Fr C.h₀ C.L h m) (N : News C.h₀ C.L h led) (hx : cs.names.lookup x = some .local)
    (hy : ∀ (tk : Nat) (Q : Value → Shared → Prop), (∀ t, Q (.str (S l) t) (C.st h tk)) → C.wp (eval (.Name y q2) C.env) Q h tk) (h0 : J [] m led)
    (turn : ∀ pre c post m₁ nx h tk own t, l = pre ++ c :: post → nx.map (·.1) = led.map (·.1) → OwnOff own (led.map (·.1)) → J pre m₁ nx → Fr C.h₀ C.L h (fun z => if z = x then some (.str (S [c]) t) else m₁ z) → News C.h₀ C.L h (nx ++ own) →
      C.wp (execs b C.env) (fun f s => f = .next ∧ ∃ h' tk' m' nx', Fr C.h₀ C.L h' m' ∧ News C.h₀ C.L h' (nx' ++ own) ∧ nx'.map (·.1) = led.map (·.1) ∧ J (pre ++ [c]) m' nx' ∧ s = C.st h' tk') h tk)
    (done : ∀ m nx h tk, J l m nx → Fr C.h₀ C.L h m → News C.h₀ C.L h nx → Q .next (C.st h tk)) : C.wp (exec (.For (.Name x q1) (.Name y q2) b [] q) C.env) Q h tk := by
  refine For_invV C.h₀ hx (by show (cs.kind == .class || (cs.kind == .module && _)) = false; rw [C.hk]; rfl) (hy _ _ fun t => ?_) (by intro _; rfl) PassesOwn.never
  refine wpAny_pyIter_str fun o St hW hst => ?_
  refine loop_invN (fun i m nx => J (l.take i) m nx) (hW C.A rfl) ?_ ?_ ?_ ?_ hst (F.push _) (fun p hp => ⟨Heap.get?_push_of_some _ (N p hp).1, (N p hp).2⟩) h0 ?_ ?_
  · exact fun hm => absurd F.ns.lt ((List.mem_singleton.mp hm) ▸ Nat.lt_irrefl _)
  · exact fun b' hb => (List.mem_singleton.mp hb) ▸ next_is_new F
  · exact fun p hp hI => absurd (Heap.lt_size (N p hp).1) ((List.mem_singleton.mp hI) ▸ Nat.lt_irrefl _)
  · exact fun p hp hI => absurd (Heap.lt_size (N p hp).1) ((List.mem_singleton.mp hI) ▸ Nat.lt_irrefl _)
  · rintro i v m₁ nx h1 tk1 own hi ⟨c', u, hc', rfl⟩ hadr hoff hJ F₁ N₁
    have hc2 : l[i]? = some c' := by rw [← hc']; simp [S]
    have hs : l.take (i + 1) = l.take i ++ [c'] := by rw [List.take_add_one, hc2]; rfl
    have e : l = l.take i ++ c' :: l.drop (i + 1) := by
      have ht := List.take_append_drop (i + 1) l
      rw [hs, List.append_assoc] at ht
      exact ht.symm
    rw [hs]
    refine wpAny_mono (turn _ _ _ _ _ _ tk1 _ _ e hadr hoff hJ F₁ N₁) (fun f s' hq => ?_) fun _ _ h => h
    obtain ⟨rfl, h2, tk2, m2, nx2, F2, N2, hf, hJ2, rfl⟩ := hq
    exact ⟨h2, tk2, m2, nx2 ++ own, nx2, rfl, F2, N2, fun q hq => List.mem_append_left _ hq, fun q hq => List.mem_append_right _ hq, hf, hJ2⟩
  · rintro m₁ nx h1 tk1 hJ F₁ N₁
    have hl : (S l).cps.size = l.length := S_len l
    rw [hl, List.take_length] at hJ
    exact done _ _ _ _ hJ F₁ N₁
/-- an element of the text of a unit's four figures -/
theorem elt_hex {x y : PySem.Str} {scope : PySem.Scope} {cl : List (PySem.Str × Addr)} {s : Shared} {T : Led → Prop} {Fin : List Value → Led → Prop} {P : Nat → Value → Prop} {k i : Nat} {ys : List Value} {news : Led} {j : Nat} {tj tn : Tok} {n : Nat} {q1 q2 q3 q4 q5 q6 q7 q8 q9 : Pos} {k1 k2 k3 : Nat} {c : Addr} {o : Obj}
    (hs : ∀ g tk, { s with heap := g, toks := tk } = C.st g tk) (hP : ∀ v, P i v → v = .int (j : Int) tj) (hj : j ≤ 3) (hn : n < 65536) (hTn : T news) (hc : cl.lookup y = some c) (hm : (c, o) ∈ news) (hd : o.data = .cell (some (.int (n : Int) tn)))
    (hg : ∀ D, (compEnvC scope cl D C.env).kindOf y = some .cell) (hl : ∀ D, (compEnvC scope cl D C.env).kindOf x = some .local) (hx : (x == ("__debug__" : PySem.Str)) = false) (hy : (y == ("__debug__" : PySem.Str)) = false) (hk : scope.kind = .function)
    (f : ∀ t, LCg.CompRest C.prog w C.A C.h₀ C.L m C.env (.Subscript (.Constant (.str (PySem.Str.ofString "0123456789ABCDEF")) k1 q1) (.BinOp (.BinOp (.Name y q2) .FloorDiv (.BinOp (.Constant (.int 16) k2 q3) .Pow (.Name x q4) q5) q6) .Mod (.Constant (.int 16) k3 q7) q8) q9) x scope cl s T P Fin k (i + 1) (ys ++ [.str (S [hexC (n / 16 ^ j % 16)]) t]) news) :
    LCg.CompRest C.prog w C.A C.h₀ C.L m C.env (.Subscript (.Constant (.str (PySem.Str.ofString "0123456789ABCDEF")) k1 q1) (.BinOp (.BinOp (.Name y q2) .FloorDiv (.BinOp (.Constant (.int 16) k2 q3) .Pow (.Name x q4) q5) q6) .Mod (.Constant (.int 16) k3 q7) q8) q9) x scope cl s T P Fin (k + 1) i ys news := by
  refine LCg.CompRest.succ fun v I oI C' oC D m₂ h tk E' hv hNs hm2 F N off ne => ?_
  obtain rfl := hP v hv
  rw [hs]
  have e : ((n : Int).fdiv (16 ^ j)).fmod 16 = ((n / 16 ^ j % 16 : Nat) : Int) := by
    have p : (0 : Int) ≤ 16 ^ j := Int.pow_nonneg (by decide)
    rw [Int.fdiv_eq_ediv_of_nonneg _ p, Int.fmod_eq_emod_of_nonneg _ (by decide)]
    have : ((16 : Int) ^ j) = ((16 ^ j : Nat) : Int) := by rw [Int.natCast_pow]; rfl
    rw [this]; rfl
  have b : n / 16 ^ j % 16 < 16 := Nat.mod_lt _ (by decide)
  refine Subscript_ (PySem.wpAny_Constant_str (wpAny_BinOp (wpAny_BinOp (ldCellK hc ⟨o, (N _ (.tail _ (.tail _ (.tail _ hm)))).1, hd⟩ (wpAny_BinOp (wpAny_Constant_int (ldVarK (hNs.ns (N _ (.tail _ (.head _))).1) hm2 (pow_int_small (Int.natCast_nonneg _) (by omega) (by decide) (floordiv_int ?nz (wpAny_Constant_int (mod_int (by decide) (hexItem ?b0 ?b1 (fun t' => ?fin) rfl))) ?np)) hk (hl C') hx))) hk (hg C') hy))))
  case nz => rw [Int.toNat_natCast]; exact Int.ne_of_gt (Int.pow_pos (by decide))
  case np =>
    refine .inl (PyProof.noPylong_of_log2 ?_)
    rw [Int.toNat_natCast]
    have : j = 0 ∨ j = 1 ∨ j = 2 ∨ j = 3 := by omega
    rcases this with rfl | rfl | rfl | rfl <;> decide
  case b0 => rw [Int.toNat_natCast, e]; exact Int.natCast_nonneg _
  case b1 => rw [Int.toNat_natCast, e]; exact Int.ofNat_lt.mpr b
  case fin =>
    rw [Int.toNat_natCast, e, Int.toNat_natCast]
    exact LCg.CompEnd.intro (s₁ := C.st h tk) F N news (fun _ h => h) off hTn (f t')
end
section
variable {w : World}
/-- a def of one argument with one captured name -/
theorem fn_wpC {f : Addr} {n N : Nat} {v : Value} {news : Led} {pre : Prop} {Ok : Value → Led → Prop} {name qual : PySem.Str} {params : Arguments} {body : List PySem.Stmt} {scope : PySem.Scope} {dV kV doc pm cdv ct oc : Value} {an od : Option Addr} {osl : Array (Option Value)} {x y : PySem.Str}
    (ho : (Mine.hd.heap_1 w.params).lookup f = some ⟨oc, od, .func (fnOf name qual params body scope dV kV doc pm an cdv ct), osl⟩) (hcd : codeIn (Mine.hd.heap_1 w.params) cdv qual = true)
    (hb : bindArgs (fnOf name qual params body scope dV kV doc pm an cdv ct) ⟨[v], []⟩ = pure [(x, v)]) (hx : scope.names.lookup x = some .local) (hy : ∀ n, cellsFrom n scope.names [] = [(y, n)]) (hxy : x ≠ y)
    (hg : scope.isCoroutine = false ∧ scope.isGenerator = false ∧ scope.kind = .function) (hn : Nat.blt N n = true)
    (V : pre → ∀ (C : Cx w scope) (m : PySem.Str → Option Value) (h : Heap) (tk : Nat) (o : Obj), C.cl = [(y, C.L + 1)] → C.dp + N < recursionLimit → C.un + 8 * N < cLine → Fr C.h₀ C.L h m → News C.h₀ C.L h ((C.L + 1, o) :: news) → o.data = .cell none → (∀ q ∈ news, @LT.lt Nat _ q.1 C.L) → m x = some v →
      C.wp (execs body C.env) (fun fl s => ∃ r h' tk' m' news', fl = .ret r ∧ s = C.st h' tk' ∧ Fr C.h₀ C.L h' m' ∧ News C.h₀ C.L h' news' ∧ Ok r news') h tk) : Claim w f n [v] news pre Ok := by
  refine ⟨fun hpre prog p₀ loose mean mg mb dp un gd cn cs a ccd cl outer A₀ base h₀ L m h gs dr tk os Q E B F X N' T hk hdp hun hret => ?_⟩
  have hn := Nat.le_of_ble_eq_true hn
  refine wpAny_call (code_defC B F X N' T rfl rfl hk ho hcd (show dp < _ by omega) (BindsTo.of_eq (binds := [(x, v)]) hb) (by show ((scope.names.lookup x == some .local || _) && true) = true; rw [hx]; rfl) (by rw [hy]; simp) ?_ hg.1 hg.2.1 hg.2.2)
  intro g L' h₁ tk₁ cells FG F' N2 Y B' X' T' lt
  have Y : CellsAre (bindC (envOfC qual scope L' f cdv).kindOf [(x, v)] fun _ => none) [(y, L' + 1)] cells := hy (L' + 1) ▸ Y
  obtain ⟨o, rfl, ho'⟩ := Y.one
  have hkx : (envOfC qual scope L' f cdv).kindOf x = some .local := hx
  have e1 : bindL (envOfC qual scope L' f cdv).kindOf [(x, v)] (fun _ => none) x = some v := by simp only [bindL]; rw [if_pos hkx]; exact if_pos rfl
  have e2 : bindC (envOfC qual scope L' f cdv).kindOf [(x, v)] (fun _ => none) y = none := by simp only [bindC]; rw [if_pos hkx]
  rw [e2] at ho'
  refine wpAny_mono (V hpre (Cx.mk prog p₀ loose mean mg mb (dp + 1) (un + 3) gd qual L' f cdv (cellsFrom (L' + 1) scope.names []) (envX cn cs L a ccd cl :: outer) _ base g gs dr os B' X' T' hg.2.2) _ h₁ tk₁ o (hy _) (show dp + 1 + N < _ by omega) (show un + 3 + 8 * N < _ by omega) F' N2 ho' lt e1) (fun fl s' hp => ?_) fun _ _ h => h.elim
  obtain ⟨r, h', tk', m', news', rfl, rfl, F3, N3, ok⟩ := hp
  exact leaveK_ F3 N3 fun F4 N4 => hret _ news' _ tk' F4 N4 ok
end
noncomputable abbrev sSg : PySem.Str := PySem.Str.ofString "sign"
noncomputable abbrev zPc : List Nat := (PySem.Str.ofString "%").cps.toList
noncomputable abbrev zPu : List Nat := (PySem.Str.ofString "%u").cps.toList
noncomputable abbrev sUn : PySem.Str := PySem.Str.ofString "unit"
theorem lk2 {m : PySem.Str → Option Value} {x1 x2 : PySem.Str} {q1 q2 : PV} {v1 v2 : Value} {R : Option Rd} {rest : Led} (h1 : m x1 = some v1) (r1 : RV R rest q1 v1) (h2 : m x2 = some v2) (r2 : RV R rest q2 v2) : ∀ y q, [(x1, q1), (x2, q2)].lookup y = some q → ∃ v, m y = some v ∧ RV R rest q v := fun y q e => by
  rw [List.lookup_cons] at e
  cases hy : y == x1 with
  | true => rw [hy] at e; cases e; rw [eq_of_beq hy]; exact ⟨_, h1, r1⟩
  | false =>
    rw [hy] at e
    dsimp only at e
    rw [List.lookup_cons] at e
    cases hy : y == x2 with
    | true => rw [hy] at e; cases e; rw [eq_of_beq hy]; exact ⟨_, h2, r2⟩
    | false => rw [hy] at e; cases e
theorem escL_snoc (pre : List Nat) (c : Nat) : escL (pre ++ [c]) = escL pre ++ escC c := by unfold escL; rw [List.flatMap_append]; simp
theorem escL_len6 (l : List Nat) : (escL l).length ≤ 6 * l.length := by
  have := (sum_le (l.map escC) 6 (by intro x hx; obtain ⟨y, _, rfl⟩ := List.mem_map.mp hx; exact escC_len y)).2
  rw [List.length_map, esc_flat] at this; exact this
/-- how the escaped text grows by one sign -/
noncomputable def EJ (L : Addr) (news : Led) (pre : List Nat) (m : PySem.Str → Option Value) (nx : Led) : Prop := ∃ o v tf, nx = (L + 1, o) :: news ∧ o.data = .cell v ∧ m sFd = some (.str (S (escL pre)) tf)
section
variable {w : World} {cs : PySem.Scope} {C : Cx w cs} {m : PySem.Str → Option Value} {h : Heap} {tk : Nat} {c : Nat} {o : Obj} {tu : Tok} {rest : Led}
/-- a figure of the unit: unit // 16, unit % 16 -/
theorem hexU {op : Operator} {k : Int} {k1 k2 : Nat} {q1 q2 q3 q4 q5 : Pos} {Q : Value → Shared → Prop} (F : Fr C.h₀ C.L h m) (N : News C.h₀ C.L h ((C.L + 1, o) :: rest)) (hd : o.data = .cell (some (.int (c : Int) tu))) (hc : C.cl.lookup sUn = some (C.L + 1)) (hx : cs.names.lookup sUn = some .cell)
    (hop : ∀ t tk Q, Q (.int k tk) (C.st h (tk + 1)) → wpAny (model C.prog w) C.A (binaryOp op (.int (c : Int) tu) (.int 16 t)) Q E0 (C.st h tk)) (h0 : 0 ≤ k) (h1 : k < 16) (f : ∀ t tk', Q (.str (S [hexC k.toNat]) t) (C.st h tk')) :
    C.wp (eval (.Subscript (.Constant (.str (PySem.Str.ofString "0123456789ABCDEF")) k1 q1) (.BinOp (.Name sUn q2) op (.Constant (.int 16) k2 q3) q4) q5) C.env) Q h tk :=
  Subscript_ (PySem.wpAny_Constant_str (wpAny_BinOp (nameX_C N hc (.head _) hd (wpAny_Constant_int (hop _ _ _ (hexItem h0 h1 (fun t' => f _ _) rfl))) C.hk hx)))
end
theorem c_law_escaped (w : World) (l : List Nat) (t1 : Tok) (news : Led) : Claim w 433 2 [.str (S l) t1] news (l.length ≤ 100 ∧ ∀ c ∈ l, c < 65536) (OkV (.str (escL l) 600) news) := by
  refine fn_wpC (N := 0) (y := sUn) (by k_is) (by k_is) (by exact rfl) (by exact rfl) (fun _ => rfl) (by decide) (by exact ⟨rfl, rfl, rfl⟩) rfl (fun ⟨hl, hc⟩ C m h tk o hcl hd hu F N ho lt hm => ?_)
  have hcu : C.cl.lookup sUn = some (C.L + 1) := by rw [hcl]; rfl
  refine wpAny_execs_cons (wpAny_Assign_Name (PySem.wpAny_Constant_str (storeX_L F N (fun h1 F1 N1 => ?_) C.hk rfl)) rfl)
  refine wpAny_execs_cons (for_G (l := l) (EJ C.L news) F1 N1 rfl ?hy ⟨o, none, _, rfl, ho, (if_pos rfl).trans (by rw [s_e]; rfl)⟩ ?turn ?done)
  case hy => exact fun tk Q k => nameX_L F1 (by rw [if_neg (by decide)]; exact hm) (k _) C.hk rfl rfl
  case done =>
    rintro m2 nx h2 tk2 ⟨o2, v2, tf, rfl, _, hf⟩ F2 N2
    have b := escL_len6 l
    refine wpAny_execs_cons (wpAny_Return_some (nameX_L F2 hf ?_ C.hk rfl rfl))
    exact ⟨_, h2, tk2, m2, _, rfl, rfl, F2, N2, fun q hq => .tail _ hq, by omega, tf, rfl⟩
  case turn =>
    rintro pre c post m₁ nx h tk own t e hadr hoff ⟨o, v, tf, rfl, hd0, hf⟩ F N
    have hn := hc c (by rw [e]; simp)
    have hb : (escL pre).length ≤ 600 := by have := escL_len6 pre; have := congrArg List.length e; simp at this; omega
    have ne : ∀ q ∈ news ++ own, q.1 ≠ C.L + 1 := fun q hq => (List.mem_append.mp hq).elim (fun hq => Nat.ne_of_lt (Nat.lt_succ_of_lt (lt q hq))) fun hq => hoff q hq _ (.head _)
    have hf2 : (fun z => if z = sSg then some (Value.str (S [c]) t) else m₁ z) sFd = some (.str (S (escL pre)) tf) := by show (if sFd = sSg then _ else _) = _; rw [if_neg (by decide)]; exact hf
    have mk : ∀ {h : Heap} {o : Obj}, Fr C.h₀ C.L h (fun z => if z = sSg then some (Value.str (S [c]) t) else m₁ z) → News C.h₀ C.L h ((C.L + 1, o) :: (news ++ own)) → Stt C none [(sSg, .str [c] 1), (sFd, .str (escL pre) 600)] (fun z => if z = sSg then some (Value.str (S [c]) t) else m₁ z) (0, false) 0 ((C.L + 1, o) :: (news ++ own)) h :=
      fun F N => ⟨F, N, trivial, lk2 (if_pos rfl) ⟨Nat.le_refl _, t, rfl⟩ hf2 ⟨hb, tf, rfl⟩⟩
    have sv := ev_sound (C := C) (R := none) (lk := [(sSg, .str [c] 1), (sFd, .str (escL pre) 600)]) (m := fun z => if z = sSg then some (Value.str (S [c]) t) else m₁ z) (fs := []) (ms := []) (N := 0) (glT_ok w) hd hu 40
    refine wpAny_execs_cons (wpAny_Assign_Name (sv.1 (0, false) _ (fun z _ => z = .int (c : Int)) (by exact rfl) _ _ _ _ _ (mk F N) fun z p v h1 tk1 tA1 rest1 hz s1 hr1 rv => ?_) rfl)
    subst hz
    obtain ⟨tu, rfl⟩ := rv
    refine store_head s1.F (fun q hq => s1.N q (hr1 q hq)) ne hd0 (fun h2 o2 F2 N2 hd2 => ?_) hcu C.hk rfl
    refine wpAny_execs_cons (wpAny_If (sv.2 (0, false) _ (fun b _ => b = decide (c ∈ (PySem.Str.ofString "ABCDEFGHIJKLMNOPQRSTUVWXYZabcdefghijklmnopqrstuvwxyz0123456789@*_+-./").cps.toList)) (by exact rfl) _ _ _ _ _ (mk F2 N2) fun b p h3 tk3 tA3 rest3 hb3 s3 hr3 => ?_))
    have N3 : News C.h₀ C.L h3 ((C.L + 1, o2) :: (news ++ own)) := fun q hq => s3.N q (hr3 q hq)
    have base : ∀ {z : List Nat} (h' : Heap) (tk' : Nat) (t' : Tok), z = escL pre ++ escC c → Fr C.h₀ C.L h' (fun y => if y = sFd then some (.str (S z) t') else if y = sSg then some (Value.str (S [c]) t) else m₁ y) → News C.h₀ C.L h' ((C.L + 1, o2) :: (news ++ own)) →
        Flow.next = Flow.next ∧ ∃ h'' tk'' m' nx', Fr C.h₀ C.L h'' m' ∧ News C.h₀ C.L h'' (nx' ++ own) ∧ nx'.map (·.1) = List.map (·.1) ((C.L + 1, o) :: news) ∧ EJ C.L news (pre ++ [c]) m' nx' ∧ C.st h' tk' = C.st h'' tk'' :=
      fun h' tk' t' hz F N => ⟨rfl, h', tk', _, (C.L + 1, o2) :: news, F, N, rfl, ⟨o2, _, t', rfl, hd2, by rw [escL_snoc, ← hz]; exact if_pos rfl⟩, rfl⟩
    have hs1 : (S (escL pre ++ [c])).length ≤ 601 := by rw [S_len, List.length_append]; exact Nat.add_le_add_right hb 1
    cases b with
    | true =>
      refine wpAny_execs_cons (wpAny_Assign_Name (sv.1 (0, false) _ (fun z _ => z = .str (escL pre ++ [c]) 601) (by exact rfl) _ _ _ _ _ (mk s3.F N3) fun z p v h4 tk4 tA4 rest4 hz s4 hr4 rv => ?_) rfl)
      subst hz
      obtain ⟨_, t4, rfl⟩ := rv
      exact storeX_L s4.F (fun q hq => s4.N q (hr4 q hq)) (fun h5 F5 N5 => wpAny_execs_nil (wpAny_execs_nil (base h5 _ t4 (by rw [esc_kept hb3.symm]) F5 N5))) C.hk rfl
    | false =>
      refine wpAny_execs_cons (wpAny_If (wpAny_isTrue_Compare1 (nameX_C N3 hcu (.head _) hd2 (wpAny_Constant_int (lt_int (wpAny_truthy_bool ?_))) C.hk rfl rfl) rfl))
      cases h256 : decide ((c : Int) < 256) with
      | true =>
        have h2 : c < 256 := Int.ofNat_lt.mp (of_decide_eq_true h256)
        refine wpAny_execs_cons (wpAny_Assign_Name (wpAny_BinOp (wpAny_BinOp (sv.1 (0, false) _ (fun z _ => z = .str (escL pre ++ zPc) 601) (by exact rfl) _ _ _ _ _ (mk s3.F N3) fun z p v h4 tk4 tA4 rest4 hz s4 hr4 rv => ?_))) rfl)
        subst hz
        obtain ⟨hb4, t4, rfl⟩ := rv
        have N4 : News C.h₀ C.L h4 ((C.L + 1, o2) :: (news ++ own)) := fun q hq => s4.N q (hr4 q hq)
        refine hexU (op := .FloorDiv) (k := ((c / 16 : Nat) : Int)) s4.F N4 hd2 hcu rfl (fun t tk Q h => floordiv_int (by decide) (by rw [show ((c : Nat) : Int).fdiv 16 = ((c / 16 : Nat) : Int) from Int.fdiv_eq_ediv_of_nonneg _ (by decide)]; exact h) (.inl (PyProof.noPylong_of_log2 (by decide)))) (Int.natCast_nonneg _) (Int.ofNat_lt.mpr (show c / 16 < 16 by omega)) fun t5 tk5 => ?_
        refine KXadd.add (by rw [S_len]; exact hb4) (by rw [S_len]; exact Nat.le_refl 1) (by decide) fun t6 tk6 _ => ?_
        rw [S_app]
        refine hexU (op := .Mod) (k := ((c % 16 : Nat) : Int)) s4.F N4 hd2 hcu rfl (fun t tk Q h => mod_int (by decide) (by rw [show ((c : Nat) : Int).fmod 16 = ((c % 16 : Nat) : Int) from Int.fmod_eq_emod_of_nonneg _ (by decide)]; exact h)) (Int.natCast_nonneg _) (Int.ofNat_lt.mpr (Nat.mod_lt _ (by decide))) fun t7 tk7 => ?_
        refine KXadd.add (by rw [S_len, List.length_append]; exact Nat.add_le_add_right hb4 1) (by rw [S_len]; exact Nat.le_refl 1) (by decide) fun t8 tk8 _ => ?_
        rw [S_app]
        refine storeX_L s4.F N4 (fun h5 F5 N5 => wpAny_execs_nil (wpAny_execs_nil (wpAny_execs_nil (base h5 _ t8 ?_ F5 N5)))) C.hk rfl
        rw [kept_z] at hb3
        unfold escC octL
        rw [if_neg (of_decide_eq_false hb3.symm), if_pos h2, show zPc = [37] by decide +kernel, Int.toNat_natCast, Int.toNat_natCast]
        simp only [List.append_assoc, List.cons_append, List.nil_append]
      | false =>
        have h2 : ¬ c < 256 := fun q => of_decide_eq_false h256 (Int.ofNat_lt.mpr q)
        refine wpAny_execs_cons (wpAny_Assign_Name (wpAny_BinOp (sv.1 (0, false) _ (fun z _ => z = .str (escL pre ++ zPu) 602) (by exact rfl) _ _ _ _ _ (mk s3.F N3) fun z p v h4 tk4 tA4 rest4 hz s4 hr4 rv => ?_)) rfl)
        subst hz
        obtain ⟨hb4, t4, rfl⟩ := rv
        have N4 : News C.h₀ C.L h4 ((C.L + 1, o2) :: (news ++ own)) := fun q hq => s4.N q (hr4 q hq)
        show C.wp (eval _ C.env) _ h4 tk4
        with_reducible refine join_call ?g1 fun t0 tk0 => ?g2
        case g1 => rfl
        refine ListComp_Tu (cl := [(sUn, C.L + 1)]) s4.F (by show closureFor _ (envX _ _ _ _ _ C.cl) = _; rw [hcl]; rfl) (by decide) (by rfl) (by decide) (by rfl) ?_
        refine Tuple_ (args_cons (wpAny_Constant_int (args_cons (wpAny_Constant_int (args_cons (wpAny_Constant_int (args_cons (wpAny_Constant_int (args_nil ?_)) rfl)) rfl)) rfl)) rfl)
        refine kup_newTuple s4.F N4 (fun D h5 F5 N5 l5 => TupSrc.intro rfl F5 N5 (.head _) (by rw [sizeLine_eq]; exact Nat.le_of_ble_eq_true rfl) fun g => ?_) (by rw [sizeLine_eq]; exact Nat.le_of_ble_eq_true rfl)
        have T : TupAt D #[Value.int 3 tk0, .int 2 (tk0 + 1), .int 1 (tk0 + 1 + 1), .int 0 (tk0 + 1 + 1 + 1)] ((D, tupO [.int 3 tk0, .int 2 (tk0 + 1), .int 1 (tk0 + 1 + 1), .int 0 (tk0 + 1 + 1 + 1)]) :: (C.L + 1, o2) :: (news ++ own)) := ⟨_, .head _, rfl, _, rfl⟩
        refine elt_hex (k := 3) (j := 3) (n := c) (c := C.L + 1) (o := o2) (tn := tu) (fun _ _ => rfl) (fun v e => (Option.some.inj e).symm) (by decide) hn T (by rfl) (.tail _ (.head _)) hd2 (fun _ => rfl) (fun _ => rfl) rfl rfl rfl fun u3 => ?_
        refine elt_hex (k := 2) (j := 2) (n := c) (c := C.L + 1) (o := o2) (tn := tu) (fun _ _ => rfl) (fun v e => (Option.some.inj e).symm) (by decide) hn T (by rfl) (.tail _ (.head _)) hd2 (fun _ => rfl) (fun _ => rfl) rfl rfl rfl fun u2 => ?_
        refine elt_hex (k := 1) (j := 1) (n := c) (c := C.L + 1) (o := o2) (tn := tu) (fun _ _ => rfl) (fun v e => (Option.some.inj e).symm) (by decide) hn T (by rfl) (.tail _ (.head _)) hd2 (fun _ => rfl) (fun _ => rfl) rfl rfl rfl fun u1 => ?_
        refine elt_hex (k := 0) (j := 0) (n := c) (c := C.L + 1) (o := o2) (tn := tu) (fun _ _ => rfl) (fun v e => (Option.some.inj e).symm) (by decide) hn T (by rfl) (.tail _ (.head _)) hd2 (fun _ => rfl) (fun _ => rfl) rfl rfl rfl fun u0 => ?_
        refine LCg.CompRest.zero ?_
        unfold LCg.FinE
        intro D2 h6 tk6 F6 N6 o1
        refine join_flat_at (xs := [[hexC (c / 16 ^ 3 % 16)], [hexC (c / 16 ^ 2 % 16)], [hexC (c / 16 ^ 1 % 16)], [hexC (c / 16 ^ 0 % 16)]]) N6 (.head _) (.cons _ _ (.cons _ _ (.cons _ _ (.cons _ _ .nil)))) (by intro x hx; simp only [List.mem_cons, List.not_mem_nil, or_false] at hx; rcases hx with rfl | rfl | rfl | rfl <;> exact (by decide : 1 ≤ 6)) (by exact (by decide : 4 ≤ 1000)) fun t' k' _ => ?_
        refine KXadd.add (by rw [S_len]; exact hb4) (by rw [S_len]; exact Nat.le_refl 4) (by decide) fun t8 tk8 _ => ?_
        rw [S_app]
        refine storeX_L F6 (fun q hq => N6 q (.tail _ (.tail _ hq))) (fun h7 F7 N7 => wpAny_execs_nil (wpAny_execs_nil (wpAny_execs_nil (base h7 _ t8 ?_ F7 N7)))) C.hk rfl
        rw [kept_z] at hb3
        unfold escC
        rw [if_neg (of_decide_eq_false hb3.symm), if_neg h2, show zPu = [37, 117] by decide +kernel]
        have e3 : c / 16 ^ 3 % 16 = c / 4096 := by rw [show (16 : Nat) ^ 3 = 4096 by decide]; omega
        rw [e3, show (16 : Nat) ^ 2 = 256 by decide, show (16 : Nat) ^ 1 = 16 by decide, show (16 : Nat) ^ 0 = 1 by decide, Nat.div_one]
        simp only [List.append_assoc, List.cons_append, List.nil_append, List.flatten_cons, List.flatten_nil]
noncomputable def s433 (w : World) : FnSpec w := mkS 433 2 (fun l => l.length ≤ 100 ∧ ∀ c ∈ l, c < 65536) escL 600 (by k_is) (c_law_escaped w)
noncomputable abbrev poolO (nn : Nat) (a : Int) (ta : Tok) (sc : Addr) (c : Int) (tc : Tok) : Obj := W.listOf #[.int a ta, .ref sc, .int c tc] nn
noncomputable def OkD (nn : Nat) (P sc : Addr) (c many : Int) (so : Obj) (rest : Led) (r : Value) (news' : Led) : Prop :=
  ∃ (a' : Int) (ta' tc' : Tok) (r' : Int) (t : Tok), 0 ≤ a' ∧ a' < 2147483647 ∧ 0 ≤ r' ∧ r' < many ∧ r = .int r' t ∧ news' = (P, poolO nn a' ta' sc (c + 1) tc') :: (sc, so) :: rest
section
variable {prog : Program} {w : World} {A : Around} {E : Value → Shared → Prop} {s : Shared} {h₀ : Heap} {L D sc : Addr} {m : PySem.Str → Option Value} {all rest : Led} {nn : Nat} {a c v : Int} {ta tc tv t : Tok} {so : Obj} {Q : Unit → Shared → Prop}
theorem pool_set2 (F : Fr h₀ L s.heap m) (N : News h₀ L s.heap all) (hs : ∀ p ∈ (D, poolO nn a ta sc c tc) :: (sc, so) :: rest, p ∈ all) (hne : D ≠ sc) (b : ∀ p ∈ rest, p.1 ≠ D)
    (h : ∀ h', Fr h₀ L h' m → News h₀ L h' ((D, poolO nn a ta sc v tv) :: (sc, so) :: rest) → Q () { s with heap := h' }) : wpAny (model prog w) A (setItem (.ref D) (.int 2 t) (.int v tv)) Q E s := by
  have z := N (D, poolO nn a ta sc c tc) (hs _ (.head _))
  exact ki_setAt z.1 (by decide) (by decide) (by show (2 : Int) < 3; decide) (h _ (F.change (Heap.SameBut.update ..) z.2.1 z.2.2) (ki_turn (pre := []) (post := (sc, so) :: rest) _ (fun p hp => N p (hs p hp)) (fun _ h => (nomatch h)) (List.forall_mem_cons.mpr ⟨Ne.symm hne, b⟩) rfl rfl))
theorem pool_set0 (F : Fr h₀ L s.heap m) (N : News h₀ L s.heap all) (hs : ∀ p ∈ (D, poolO nn a ta sc c tc) :: (sc, so) :: rest, p ∈ all) (hne : D ≠ sc) (b : ∀ p ∈ rest, p.1 ≠ D)
    (h : ∀ h', Fr h₀ L h' m → News h₀ L h' ((D, poolO nn v tv sc c tc) :: (sc, so) :: rest) → Q () { s with heap := h' }) : wpAny (model prog w) A (setItem (.ref D) (.int 0 t) (.int v tv)) Q E s := by
  have z := N (D, poolO nn a ta sc c tc) (hs _ (.head _))
  exact ki_setAt z.1 (by decide) (by decide) (by show (0 : Int) < 3; decide) (h _ (F.change (Heap.SameBut.update ..) z.2.1 z.2.2) (ki_turn (pre := []) (post := (sc, so) :: rest) _ (fun p hp => N p (hs p hp)) (fun _ h => (nomatch h)) (List.forall_mem_cons.mpr ⟨Ne.symm hne, b⟩) rfl rfl))
end
theorem retD {h₀ h' : Heap} {L P sc : Addr} {m : PySem.Str → Option Value} {gs : Array GenState} {dr : Drawn} {os : OsState} {Q : Value → Shared → Prop} {tk' nn : Nat} {a' c many r' : Int} {ta' tc' t : Tok} {so : Obj} {rest : Led}
    (hret : ∀ r news' h' tk', Fr h₀ L h' m → News h₀ L h' news' → OkD nn P sc c many so rest r news' → Q r ⟨h', gs, dr, tk', os⟩)
    (F : Fr h₀ L h' m) (N : News h₀ L h' ((P, poolO nn a' ta' sc (c + 1) tc') :: (sc, so) :: rest)) (h0 : 0 ≤ a' ∧ a' < 2147483647) (h1 : 0 ≤ r' ∧ r' < many) : Q (.int r' t) ⟨h', gs, dr, tk', os⟩ :=
  hret _ _ _ _ F N ⟨a', ta', tc', r', t, h0.1, h0.2, h1.1, h1.2, rfl, rfl⟩
theorem draw_a {x : Int} : 0 ≤ x.fmod 2147483647 ∧ x.fmod 2147483647 < 2147483647 := by
  rw [Int.fmod_eq_emod_of_nonneg _ (by decide)]; omega
theorem draw_r {x many : Int} (h : 0 < many) : 0 ≤ (x.fdiv 13).fmod many ∧ (x.fdiv 13).fmod many < many := by
  rw [Int.fmod_eq_emod_of_nonneg _ (by omega)]
  exact ⟨Int.emod_nonneg _ (by omega), Int.emod_lt_of_pos _ h⟩
local macro_rules | `(tactic| walk_at "setItem ref int") => `(tactic| ((with_reducible show wpAny _ _ (setItem (Value.ref _) (Value.int 2 _) _) _ _ _); (refine pool_set2 (by k_asm) (by k_asm) (by first | exact fun _ h => h | exact fun _ h => .tail _ h) (by assumption) (by assumption) ?_); intro h' F' N'))
local macro_rules | `(tactic| walk_at "setItem ref int") => `(tactic| ((with_reducible show wpAny _ _ (setItem (Value.ref _) (Value.int 0 _) _) _ _ _); (refine pool_set0 (by k_asm) (by k_asm) (by first | exact fun _ h => h | exact fun _ h => .tail _ h) (by assumption) (by assumption) ?_); intro h' F' N'))
local macro_rules | `(tactic| walk_at "compareOp NotEq ref ref") => `(tactic| (k_dflt (refine' ke_ne_ints (News.isList ?N ?m) (News.isList ?N2 ?m2) ?i .nil ?u ?_; (case N => k_asm); (case m => k_mem); (case N2 => k_asm); (case m2 => k_mem); (case i => assumption); (case u => ktr_units))))
theorem c_law_draw (w : World) (nn : Nat) (P sc : Addr) (a c many : Int) (ta tc tm : Tok) (vs : List Value) (ns : List Int) (k : Nat) (rest : Led) :
    Claim w 395 12 [.ref P, .int many tm] ((P, poolO nn a ta sc c tc) :: (sc, W.listOf vs.toArray k) :: rest)
      (0 ≤ a ∧ a < 2147483647 ∧ 0 ≤ c ∧ c ≤ 1000 ∧ IntsAre vs ns ∧ ns.length ≤ 24 ∧ 0 < many ∧ many ≤ 8589934592 ∧ P ≠ sc ∧ (∀ p ∈ rest, p.1 ≠ P) ∧ (∀ p ∈ rest, p.1 ≠ sc))
      (OkD nn P sc c many (W.listOf vs.toArray k) rest) := by
  refine Claim.mk fun ⟨a0, a1, c0, c1, hi, hn, m0, m1, hne, hrP, hrS⟩ => ?_
  intro prog p loose mean mg mb dp un gd cn cs a₀ ccd cl outer A₀ base h₀ L m h gs dr tk os Q E B F X N T hk hdp hun hret
  refine wpAny_call ?_
  k_dflt cell_enter
  k_steps
  · exact retD (by assumption) (by k_asm) (by k_asm) draw_a (draw_r m0)
  · exfalso
    have q := of_decide_eq_false (p := ns = []) (by assumption)
    exact q (List.length_eq_zero_iff.mp (by omega))
  · exact retD (by assumption) (by k_asm) (by k_asm) draw_a (draw_r m0)
/-- the pool after k draws at most; its place beside the script's ints and the rest of the ledger -/
noncomputable def PO (k : Nat) (a c : Int) : Prop := 0 ≤ a ∧ a < 2147483647 ∧ 0 ≤ c ∧ c ≤ k
noncomputable def NE (P sc : Addr) (rest : Led) : Prop := P ≠ sc ∧ (∀ p ∈ rest, p.1 ≠ P) ∧ ∀ p ∈ rest, p.1 ≠ sc
noncomputable def Scr (vs : List Value) : Prop := ∃ ns, IntsAre vs ns ∧ ns.length ≤ 24
theorem NE.cons {P sc D : Addr} {o : Obj} {rest : Led} (h : NE P sc rest) (a : P ≠ D) (b : sc ≠ D) : NE P sc ((D, o) :: rest) :=
  ⟨h.1, List.forall_mem_cons.mpr ⟨Ne.symm a, h.2.1⟩, List.forall_mem_cons.mpr ⟨Ne.symm b, h.2.2⟩⟩
section
variable {h₀ h : Heap} {L : Addr} {p s x y z : Addr × Obj} {rest : Led} {G : Prop}
theorem News.pull1 (N : News h₀ L h (x :: p :: s :: rest)) : News h₀ L h (p :: s :: x :: rest) := fun q hq => N q (by
  simp only [List.mem_cons] at hq ⊢
  rcases hq with h | h | h | h
  · exact .inr (.inl h)
  · exact .inr (.inr (.inl h))
  · exact .inl h
  · exact .inr (.inr (.inr h)))
theorem News.pull3 (N : News h₀ L h (x :: y :: z :: p :: s :: rest)) : News h₀ L h (p :: s :: x :: y :: z :: rest) := fun q hq => N q (by
  simp only [List.mem_cons] at hq ⊢
  rcases hq with h | h | h | h | h | h
  · exact .inr (.inr (.inr (.inl h)))
  · exact .inr (.inr (.inr (.inr (.inl h))))
  · exact .inl h
  · exact .inr (.inl h)
  · exact .inr (.inr (.inl h))
  · exact .inr (.inr (.inr (.inr (.inr h)))))
theorem drop3 (N : News h₀ L h (p :: s :: x :: rest)) (k : News h₀ L h (p :: s :: rest) → G) : G := k fun q hq => N q (by
  simp only [List.mem_cons] at hq ⊢
  rcases hq with h | h | h
  · exact .inl h
  · exact .inr (.inl h)
  · exact .inr (.inr (.inr h)))
end
section
variable {w : World} {prog p : Program} {loose : List PySem.Str} {mean : ExcName → Option Value} {mg mb : PySem.Str → Option Value}
    {dp un : Nat} {gd : Option (List Code)} {cn : PySem.Str} {cs : PySem.Scope} {x0 : Addr} {ccd : Value} {cl : List (PySem.Str × Addr)} {outer : List Env} {A₀ : Around} {base h₀ : Heap} {L : Addr} {m : PySem.Str → Option Value} {h : Heap} {gs : Array GenState} {dr : Drawn} {tk : Nat} {os : OsState} {Q E : Value → Shared → Prop}
    {nn k kk : Nat} {P sc : Addr} {a c many : Int} {ta tc tm : Tok} {vs : List Value} {rest : Led}
theorem draw_use (B : Below A₀ base outer h₀) (F : Fr h₀ L h m) (X : (Mine.hd.heap_1 w.params).In h₀) (N : News h₀ L h ((P, poolO nn a ta sc c tc) :: (sc, W.listOf vs.toArray kk) :: rest)) (T : Top p loose mean mg mb h₀)
    (hs : Scr vs) (po : PO k a c) (ne : NE P sc rest) (hk1 : Nat.ble k 1000 = true) (hm : decide (0 < many ∧ many ≤ 8589934592) = true) (hk : cs.kind = .function) (hd : dp + 12 < recursionLimit) (hu : un + 8 * 12 < cLine)
    (K : ∀ r t a' ta' c' tc' h' tk', PO (k + 1) a' c' → 0 ≤ r → r < many → Fr h₀ L h' m → News h₀ L h' ((P, poolO nn a' ta' sc c' tc') :: (sc, W.listOf vs.toArray kk) :: rest) → Q (.int r t) ⟨h', gs, dr, tk', os⟩) :
    wpAny (model prog w) (ktrTop dp un gd cn cs L x0 ccd cl outer) (call (.ref 395) [.ref P, .int many tm]) Q E ⟨h, gs, dr, tk, os⟩ := by
  obtain ⟨ns, hi, hn⟩ := hs
  obtain ⟨a0, a1, c0, c1⟩ := po
  have h1 := Nat.le_of_ble_eq_true hk1
  have hm := of_decide_eq_true hm
  refine Claim.use (c_law_draw w nn P sc a c many ta tc tm vs ns kk rest) B F X N T ⟨a0, a1, c0, by omega, hi, hn, hm.1, hm.2, ne.1, ne.2.1, ne.2.2⟩ hk hd hu fun r news' h' tk' F' N' ok => ?_
  obtain ⟨a', ta', tc', r', t, b0, b1, b2, b3, rfl, rfl⟩ := ok
  exact K _ _ _ _ _ _ _ _ ⟨b0, b1, by omega, by omega⟩ b2 b3 F' N'
end
noncomputable abbrev sPool : PySem.Str := PySem.Str.ofString "pool"
noncomputable abbrev sUnits : PySem.Str := PySem.Str.ofString "units"
noncomputable abbrev sDraw : PySem.Str := PySem.Str.ofString "_law_draw"
section
variable {w : World} {cs : PySem.Scope}
/-- the law's frame: its flat names, the pool after k draws, the script's ints, the rest of the ledger -/
structure SttD (C : Cx w cs) (P sc : Addr) (so : Obj) (rest : Led) (k : Nat) (lk : Lk) (m : PySem.Str → Option Value) (h : Heap) : Prop where
  F : Fr C.h₀ C.L h m
  N : ∃ a ta c tc, PO k a c ∧ News C.h₀ C.L h ((P, poolO 0 a ta sc c tc) :: (sc, so) :: rest)
  ne : NE P sc rest
  H : ∀ x q, lk.lookup x = some q → ∃ v, m x = some v ∧ RV none [] q v
/-- what stands still -/
structure FixD (C : Cx w cs) (P : Addr) (so : Obj) : Prop where
  so : ∃ vs kk, so = W.listOf vs.toArray kk ∧ Scr vs
  kd : cs.names.lookup sPool = some .cell
  kf : cs.names.lookup sDraw = some .globalImplicit
  hd : C.dp + 12 < recursionLimit
  hu : C.un + 8 * 12 < cLine
variable {C : Cx w cs} {P sc : Addr} {so : Obj} {rest : Led} {k : Nat} {lk : Lk} {m : PySem.Str → Option Value} {h : Heap} {tk : Nat}
/-- the pool's cell is in the ledger -/
noncomputable def CellP (C : Cx w cs) (P : Addr) (rest : Led) : Prop := ∃ c o, C.cl.lookup sPool = some c ∧ (c, o) ∈ rest ∧ o.data = .cell (some (.ref P))
theorem CellP.mono {rest' : Led} (hc : CellP C P rest) (h : ∀ q ∈ rest, q ∈ rest') : CellP C P rest' := let ⟨c, o, a, b, d⟩ := hc; ⟨c, o, a, h _ b, d⟩
theorem SttD.stt (s : SttD C P sc so rest k lk m h) : ∃ a ta c tc, PO k a c ∧ Stt C none lk m (0, false) 0 ((P, poolO 0 a ta sc c tc) :: (sc, so) :: rest) h :=
  let ⟨a, ta, c, tc, po, N⟩ := s.N; ⟨a, ta, c, tc, po, s.F, N, trivial, fun x q e => (s.H x q e).elim fun v e => ⟨v, e.1, e.2.mono fun _ h => absurd h List.not_mem_nil⟩⟩
theorem SttD.back {a c : Int} {ta tc : Tok} (s : SttD C P sc so rest k lk m h) (po : PO k a c) {p : PS} {tA : Tok} {rest' : Led} {h' : Heap} (s' : Stt C none lk m p tA rest' h') (hr : ∀ q ∈ (P, poolO 0 a ta sc c tc) :: (sc, so) :: rest, q ∈ rest') : SttD C P sc so rest k lk m h' :=
  ⟨s'.F, ⟨a, ta, c, tc, po, fun q hq => s'.N q (hr q hq)⟩, s.ne, s.H⟩
/-- one object more -/
theorem SttD.more {a c : Int} {ta tc : Tok} {h' : Heap} {D : Addr} {o : Obj} (s : SttD C P sc so rest k lk m h) (po : PO k a c) (F : Fr C.h₀ C.L h' m) (N : News C.h₀ C.L h' ((D, o) :: (P, poolO 0 a ta sc c tc) :: (sc, so) :: rest)) (l : ∀ q ∈ (P, poolO 0 a ta sc c tc) :: (sc, so) :: rest, q.1 < D) : SttD C P sc so ((D, o) :: rest) k lk m h' :=
  ⟨F, ⟨a, ta, c, tc, po, News.pull1 N⟩, s.ne.cons (Nat.ne_of_lt (l _ (.head _))) (Nat.ne_of_lt (l _ (.tail _ (.head _)))), s.H⟩
theorem SttD.drop {q : Addr × Obj} (s : SttD C P sc so (q :: rest) k lk m h) : SttD C P sc so rest k lk m h :=
  let ⟨a, ta, c, tc, po, N⟩ := s.N; ⟨s.F, ⟨a, ta, c, tc, po, drop3 N id⟩, ⟨s.ne.1, fun p hp => s.ne.2.1 p (.tail _ hp), fun p hp => s.ne.2.2 p (.tail _ hp)⟩, s.H⟩
theorem SttD.forget {lk' : Lk} (s : SttD C P sc so rest k lk m h) (hs : subL lk' lk) : SttD C P sc so rest k lk' m h := ⟨s.F, s.N, s.ne, fun x q e => s.H x q (subL_lookup hs e)⟩
/-- a name takes a flat value -/
theorem SttD.put {x : PySem.Str} {z : PV} {v : Value} {Q : Unit → Shared → Prop} (s : SttD C P sc so rest k lk m h) (rv : RV none [] z v) (hx : cs.names.lookup x = some .local) (f : ∀ m h' tk', SttD C P sc so rest k ((x, z) :: lk) m h' → Q () (C.st h' tk')) : C.wp (storeName C.env x v) Q h tk := by
  obtain ⟨a, ta, c, tc, po, N⟩ := s.N
  refine storeX_L s.F N (fun h' F' N' => f _ _ _ ⟨F', ⟨a, ta, c, tc, po, N'⟩, s.ne, fun y q e => ?_⟩) C.hk hx
  rw [List.lookup_cons] at e
  cases hy : y == x with
  | true => rw [hy] at e; cases e; exact ⟨v, if_pos (eq_of_beq hy), rv⟩
  | false => rw [hy] at e; exact (s.H y q e).elim fun v' e' => ⟨v', by rw [if_neg (ne_of_beq_false hy)]; exact e'.1, e'.2⟩
/-- a draw -/
theorem draw_sound (X : FixD C P so) (cp : CellP C P rest) {many : Int} {k2 : Nat} {q1 q2 q3 q4 : Pos} {Q : Value → Shared → Prop} (s : SttD C P sc so rest k lk m h) (hm : decide (0 < many ∧ many ≤ 8589934592) = true) (hk : Nat.ble k 1000 = true)
    (f : ∀ r t h' tk', 0 ≤ r → r < many → SttD C P sc so rest (k + 1) lk m h' → Q (.int r t) (C.st h' tk')) : C.wp (eval (.Call (.Name sDraw q1) [.Name sPool q2, .Constant (.int many) k2 q3] [] q4) C.env) Q h tk := by
  obtain ⟨a, ta, c, tc, po, N⟩ := s.N
  obtain ⟨cc, o, hc, hm2, hd⟩ := cp
  obtain ⟨vs, kk, rfl, scr⟩ := X.so
  refine Call_ (nameX_K s.F C.X (topRead_of C.T) (v := .ref 395) (by k_is) ?_ C.hk X.kf (by decide)) rfl
  refine callWith_K C.X (by k_is) (args_cons (nameX_C N hc (.tail _ (.tail _ hm2)) hd (args_cons (wpAny_Constant_int (args_nil ⟨C.X.keeps s.F.keep, ?_⟩)) rfl) C.hk X.kd (by decide)) rfl) rfl rfl
  exact draw_use C.B s.F C.X N C.T scr po s.ne hk hm C.hk X.hd X.hu fun r t a' ta' c' tc' h' tk' po' h0 h1 F' N' => f _ _ _ _ h0 h1 ⟨F', ⟨a', ta', c', tc', po', N'⟩, s.ne, s.H⟩
section
variable {fs : List (FnSpec w)} {N : Nat} (G : Glo w glT) (hd : C.dp + N < recursionLimit) (hu : C.un + 8 * N < cLine)
include G hd hu
/-- an expression that draws nothing -/
theorem pure_sound {e : PySem.Expr} {K : PV → Prop} {Q : Value → Shared → Prop} (s : SttD C P sc so rest k lk m h) (he : evE none cs fs [] N lk 40 (0, false) e fun z _ => K z) (f : ∀ z v h' tk' rest', K z → SttD C P sc so rest k lk m h' → RV none rest' z v → Q v (C.st h' tk')) : C.wp (eval e C.env) Q h tk := by
  obtain ⟨a, ta, c, tc, po, S⟩ := s.stt
  exact (ev_sound (C := C) (R := none) (lk := lk) (m := m) (fs := fs) (ms := []) G hd hu 40).1 _ _ _ he _ _ _ _ _ S fun z p v h' tk' tA' rest' hk s' hr rv => f _ _ _ _ _ hk (s.back po s' hr) rv
/-- x = e, nothing drawn -/
theorem st_asg {x : PySem.Str} {q q1 : Pos} {e : PySem.Expr} {b : List PySem.Stmt} {Q : Flow → Shared → Prop} (s : SttD C P sc so rest k lk m h) (z : PV) (hz : flatL [(x, z)] = true) (hx : cs.names.lookup x = some .local) (hw : swapsWith e (some (.Name x q1)) q.line C.env = pure false) (he : evE none cs fs [] N lk 40 (0, false) e fun z' _ => z' = z)
    (f : ∀ m h tk, SttD C P sc so rest k ((x, unl z) :: lk) m h → C.wp (execs b C.env) Q h tk) : C.wp (execs (.Assign [.Name x q1] e q :: b) C.env) Q h tk :=
  wpAny_execs_cons (wpAny_Assign_Name (pure_sound G hd hu s he fun z' v h' tk' rest' e s' rv => s'.put (unl_rv (flat_rv (lk := [(x, z)]) hz (x := x) (by rw [List.lookup_cons, beq_self_eq_true]) (e ▸ rv))) hx fun m h tk s => f m h tk s) hw)
/-- a test that comes out false -/
theorem st_if {t : PySem.Expr} {a b : List PySem.Stmt} {q : Pos} {Q : Flow → Shared → Prop} (s : SttD C P sc so rest k lk m h) (he : evE none cs fs [] N lk 40 (0, false) t fun v _ => onB v fun c => c = false) (f : ∀ h tk, SttD C P sc so rest k lk m h → C.wp (execs b C.env) Q h tk) : C.wp (execs (.If t a [] q :: b) C.env) Q h tk := by
  obtain ⟨a', ta, c, tc, po, S⟩ := s.stt
  refine wpAny_execs_cons (wpAny_If ((ev_sound (C := C) (R := none) (lk := lk) (m := m) (fs := fs) (ms := []) G hd hu 40).2 _ _ (fun c _ => c = false) he _ _ _ _ _ S fun b p h' tk' tA' rest' g s' hr => ?_))
  subst g
  exact wpAny_execs_nil (f _ _ (s.back po s' hr))
end
/-- an item of a menu of ints, drawn; the menu is let go -/
theorem menu_sound (X : FixD C P so) (cp : CellP C P rest) {many : Int} {k2 : Nat} {q1 q2 q3 q4 q5 q6 : Pos} {es : List PySem.Expr} {ns : List Int} {Q : Value → Shared → Prop} (s : SttD C P sc so rest k lk m h) (hm : decide (0 < many ∧ many ≤ 8589934592) = true) (hk : Nat.ble k 1000 = true) (hn : (ns.length : Int) = many) (hl : ns.length ≤ 1000)
    (he : ∀ (tk : Nat) (Q : List Value → Shared → Prop), (∀ vs tk', IntsAre vs ns → Q vs (C.st h tk')) → C.wp (spliced (backTo q5 (starEach es C.env))) Q h tk)
    (f : ∀ (r : Int) t h' tk', 0 ≤ r → r < many → SttD C P sc so rest (k + 1) lk m h' → Q (.int (ns.getD r.toNat 0) t) (C.st h' tk')) : C.wp (eval (.Subscript (.List es q5) (.Call (.Name sDraw q1) [.Name sPool q2, .Constant (.int many) k2 q3] [] q4) q6) C.env) Q h tk := by
  obtain ⟨a, ta, c, tc, po, N⟩ := s.N
  refine Subscript_ (List_ (he _ _ fun vs tk' hi => ?_))
  refine newList_K s.F N (fun D h' F' N' l => ?_) (by rw [hi.length, sizeLine_eq]; omega)
  refine draw_sound X (cp.mono fun _ h => .tail _ h) (s.more po F' N' l) hm hk fun r t h2 tk2 h0 h1 s2 => ?_
  obtain ⟨a2, ta2, c2, tc2, po2, N2⟩ := s2.N
  have hm := (of_decide_eq_true hm).2
  exact itemL_ints (N2.isList (.tail _ (.tail _ (.head _)))) hi h0 (by omega) (by omega) (fun t => f _ _ _ _ h0 h1 s2.drop) rfl
end
theorem padK_dig : ∀ (n k w : Nat), k + w ≤ n → ∀ c ∈ padK k w, digit c = true
  | 0, k, w, h => by
    have e : k = 0 := by omega
    have e2 : w = 0 := by omega
    subst e e2; simp [padK]
  | n + 1, k, w, h => by
    by_cases q : 0 < k ∨ 0 < w
    · rw [padK_step q]
      intro c hc
      rcases List.mem_append.mp hc with hc | hc
      · exact padK_dig n (k / 10) (w - 1) (by omega) c hc
      · rw [List.mem_singleton] at hc
        subst hc; unfold digit; exact decide_eq_true (by omega)
    · have e : k = 0 := by omega
      have e2 : w = 0 := by omega
      subst e e2; simp [padK]
theorem padK_fig : ∀ (n k w : Nat), k + w ≤ n → ((padK k w).map fun (c : Nat) => (c : Int)).foldl figStep (some 0) = some (k : Int)
  | 0, k, w, h => by
    have e : k = 0 := by omega
    have e2 : w = 0 := by omega
    subst e e2; simp [padK]
  | n + 1, k, w, h => by
    by_cases q : 0 < k ∨ 0 < w
    · rw [padK_step q, List.map_append, List.foldl_append, padK_fig n (k / 10) (w - 1) (by omega)]
      simp only [List.map_cons, List.map_nil, List.foldl_cons, List.foldl_nil, figStep, Option.bind_some]
      rw [if_pos (by omega)]
      congr 1; omega
    · have e : k = 0 := by omega
      have e2 : w = 0 := by omega
      subst e e2; simp [padK]
theorem figN_pad {k w : Nat} (hw : 1 ≤ w) : figN (padK k w) = some (k : Int) := by
  have := padK_len k w
  rw [figN, if_neg (by intro e; rw [e] at this; simp at this; omega)]
  exact padK_fig _ k w (Nat.le_refl _)
theorem padK2_len {k : Nat} (h : k ≤ 99) : (padK k 2).length = 2 := by rw [padK_2 h]; rfl
section
variable {l r : List Nat} {p : PS}
theorem At.num2 {v lo hi : Int} (h : At l p (padK v.toNat 2 ++ r)) (h0 : 0 ≤ v) (h1 : v ≤ 99) (h2 : lo ≤ v ∧ v ≤ hi) : numV l p n2 lo hi = v ∧ At l (numS l p n2 lo hi) r :=
  h.num (padK2_len (by omega)) (by rw [figN_pad (by decide)]; congr 1; omega) h2
theorem takeWhile_pre {P : Nat → Bool} {a : List Nat} {c : Nat} {r : List Nat} (ha : ∀ x ∈ a, P x = true) (hc : P c = false) : (a ++ c :: r).takeWhile P = a := by
  induction a with
  | nil => simp [hc]
  | cons x a ih =>
    rw [List.cons_append, List.takeWhile_cons, if_pos (ha x (by simp)), ih (fun y hy => ha y (by simp [hy]))]
theorem At.ly0 {n : Nat} {q : PS} (h : At l q (padK n 4 ++ 32 :: r)) : max 4 (digs l q.1) = (padK n 4).length := by
  unfold digs
  rw [h.eq, takeWhile_pre (padK_dig _ n 4 (Nat.le_refl _)) (by decide)]
  have := padK_len n 4
  omega
theorem At.ly {y : Int} (h : At l p (yearL y ++ 32 :: r)) (hy : -999999 ≤ y ∧ y ≤ 999999) : lyV l p = y ∧ At l (lyS l p) (32 :: r) := by
  have ez : (PySem.Str.ofString "-").cps.toList = [45] := z_minus
  unfold yearL at h
  unfold lyV lyS lyW
  rw [ez]
  by_cases c : y < 0
  · rw [if_pos c, List.append_assoc] at h
    have h' := h.hasS
    rw [h.hasB, if_pos rfl, h'.ly0]
    obtain ⟨a, b⟩ := h'.num (lo := 0) (hi := 999999) rfl (figN_pad (by decide)) (by omega)
    exact ⟨by rw [a]; omega, b⟩
  · rw [if_neg c, List.nil_append] at h
    have hn : (padK y.natAbs 4 ++ 32 :: r).take ([45] : List Nat).length ≠ [45] := by
      have hl := padK_len y.natAbs 4
      have hd := padK_dig _ y.natAbs 4 (Nat.le_refl _)
      cases e : padK y.natAbs 4 with
      | nil => rw [e] at hl; simp at hl
      | cons x xs =>
        have := hd x (by rw [e]; simp)
        intro e2
        simp at e2
        subst e2; revert this; decide
    rw [h.hasB_no hn, h.hasS_no hn, if_neg (by decide), h.ly0]
    obtain ⟨a, b⟩ := h.num (lo := 0) (hi := 999999) rfl (figN_pad (by decide)) (by omega)
    exact ⟨by rw [a]; omega, b⟩
theorem At.clock {h mi s : Int} (A : At l p (clockL h mi s ++ r)) (h1 : 0 ≤ h ∧ h ≤ 23) (h2 : 0 ≤ mi ∧ mi ≤ 59) (h3 : 0 ≤ s ∧ s ≤ 59) : ckH l p = h ∧ ckM l p = mi ∧ ckC l p = s ∧ At l (ckS l p) r := by
  unfold clockL at A
  simp only [List.append_assoc] at A
  obtain ⟨a, A⟩ := A.num2 (lo := 0) (hi := 23) h1.1 (by omega) h1
  rw [← z_colon] at A
  obtain ⟨b, A⟩ := A.need.num2 (lo := 0) (hi := 59) h2.1 (by omega) h2
  obtain ⟨c, A⟩ := A.need.num2 (lo := 0) (hi := 59) h3.1 (by omega) h3
  exact ⟨a, b, c, A⟩
theorem At.zone {o : Int} (A : At l p ((if o < 0 then [45] else [43]) ++ (padK (o.natAbs / 60) 2 ++ (padK (o.natAbs % 60) 2 ++ r)))) (ho : -1439 ≤ o ∧ o ≤ 1439) : znV l p = o ∧ At l (znS l p) r := by
  have e1 : padK (o.natAbs / 60) 2 = padK ((o.natAbs / 60 : Nat) : Int).toNat 2 := by rw [Int.toNat_natCast]
  have e2 : padK (o.natAbs % 60) 2 = padK ((o.natAbs % 60 : Nat) : Int).toNat 2 := by rw [Int.toNat_natCast]
  have b1 : o.natAbs / 60 ≤ 23 := by omega
  have b2 : o.natAbs % 60 ≤ 59 := Nat.le_of_lt_succ (Nat.mod_lt _ (by decide))
  have sm : ((o.natAbs / 60 : Nat) : Int) * 60 + ((o.natAbs % 60 : Nat) : Int) = (o.natAbs : Int) := by rw [Int.mul_comm]; exact congrArg Nat.cast (Nat.div_add_mod o.natAbs 60)
  rw [e1, e2] at A
  generalize o.natAbs / 60 = u at *
  generalize o.natAbs % 60 = v at *
  have c1 : ((u : Nat) : Int) ≤ 23 := Int.ofNat_le.mpr b1
  have c2 : ((v : Nat) : Int) ≤ 59 := Int.ofNat_le.mpr b2
  have n1 := Int.natCast_nonneg u
  have n2 := Int.natCast_nonneg v
  unfold znV znS znA
  by_cases c : o < 0
  · rw [if_pos c] at A
    rw [← z_minus] at A
    rw [A.hasB, if_pos rfl, if_pos rfl]
    obtain ⟨a, A⟩ := A.hasS.num2 (lo := 0) (hi := 23) n1 (Int.le_trans c1 (by decide)) ⟨n1, c1⟩
    obtain ⟨b, A⟩ := A.num2 (lo := 0) (hi := 59) n2 (Int.le_trans c2 (by decide)) ⟨n2, c2⟩
    exact ⟨by rw [a, b, sm, Int.ofNat_natAbs_of_nonpos (Int.le_of_lt c), Int.neg_neg], A⟩
  · rw [if_neg c] at A
    have hn : List.take zMinus.length ([43] ++ (padK ((u : Nat) : Int).toNat 2 ++ (padK ((v : Nat) : Int).toNat 2 ++ r))) ≠ zMinus := by rw [z_minus]; simp
    rw [A.hasB_no hn, A.hasS_no hn, if_neg (by decide), if_neg (by decide)]
    rw [← z_plus] at A
    obtain ⟨a, A⟩ := A.need.num2 (lo := 0) (hi := 23) n1 (Int.le_trans c1 (by decide)) ⟨n1, c1⟩
    obtain ⟨b, A⟩ := A.num2 (lo := 0) (hi := 59) n2 (Int.le_trans c2 (by decide)) ⟨n2, c2⟩
    exact ⟨by rw [a, b, sm, Int.natAbs_of_nonneg (Int.not_lt.mp c)], A⟩
end
/-- the fields of a time make it again -/
theorem mk_fields (t : Int) : mkDay (yrT t) (moT t) (dtT t) = t / 86400000 := by
  have h := moT_range t
  unfold mkDay dtT diyT
  rw [show moT t / 12 = 0 by omega, show moT t % 12 = moT t by omega, Int.add_zero]
  omega
theorem wk_in (i : Nat) (h : i < 7) : wkT.idxOf (wkT.getD i []) = i ∧ wkT.getD i [] ∈ wkT ∧ (wkT.getD i []).length = 3 := (by decide +kernel : ∀ i, i < 7 → wkT.idxOf (wkT.getD i []) = i ∧ wkT.getD i [] ∈ wkT ∧ (wkT.getD i []).length = 3) i h
theorem mon_in (i : Nat) (h : i < 12) : monT.idxOf (monT.getD i []) = i ∧ monT.getD i [] ∈ monT ∧ (monT.getD i []).length = 3 := (by decide +kernel : ∀ i, i < 12 → monT.idxOf (monT.getD i []) = i ∧ monT.getD i [] ∈ monT ∧ (monT.getD i []).length = 3) i h
theorem At.wk {l r : List Nat} {p : PS} {i : Int} (h : At l p (wkL i ++ r)) (h0 : 0 ≤ i) (h1 : i ≤ 6) : amV wkT l p = i ∧ At l (amS wkT l p) r := by
  obtain ⟨a, b, c⟩ := wk_in i.toNat (by omega)
  obtain ⟨d, e⟩ := h.am c a b
  exact ⟨by rw [d]; omega, e⟩
theorem At.mon {l r : List Nat} {p : PS} {i : Int} (h : At l p (monL i ++ r)) (h0 : 0 ≤ i) (h1 : i ≤ 11) : amV monT l p = i ∧ At l (amS monT l p) r := by
  obtain ⟨a, b, c⟩ := mon_in i.toNat (by omega)
  obtain ⟨d, e⟩ := h.am c a b
  exact ⟨by rw [d]; omega, e⟩
noncomputable def utcG (i t : Int) (tail : List Nat) : List Nat := wkL i ++ ([44, 32] ++ (padK (dtT t).toNat 2 ++ ([32] ++ (monL (moT t) ++ ([32] ++ (yearL (yrT t) ++ 32 :: (tmL t ++ tail)))))))
theorem utcL_G (t : Int) : utcL t = utcG (wdT t) t [32, 71, 77, 84] := by
  unfold utcL utcG
  simp only [List.append_assoc, List.cons_append, List.nil_append]
theorem time_back (t : Int) : mkDay (yrT t) (moT t) (dtT t) * 86400000 + (t % 86400000 / 3600000 * 3600000 + t % 86400000 / 60000 % 60 * 60000 + t % 86400000 / 1000 % 60 * 1000 + 0) = t / 1000 * 1000 := by
  rw [mk_fields]; omega
theorem utcG_walk {l tail : List Nat} {i t : Int} (hl : l = utcG i t tail) (ht : Tm t) (h0 : 0 ≤ i) (h1 : i ≤ 6) :
    hasB l zComma (amS wkT l p0) = true ∧ amV wkT l p0 = i ∧ shT l = t / 1000 * 1000 ∧ At l (ckS l (shCk l)) tail := by
  have A := At.start l
  obtain ⟨m0, m1⟩ := moT_range t
  obtain ⟨d0, d1⟩ := dt_range t
  obtain ⟨c0, c1, c2, c3, c4, c5⟩ := tm_range t
  have hy := yr_range ht
  rw [show At l p0 l = At l p0 (utcG i t tail) by rw [← hl]] at A
  unfold utcG at A
  obtain ⟨a, A⟩ := A.wk h0 h1
  rw [← z_comma, ← z_sp] at A
  have u := A.hasB
  obtain ⟨b, A⟩ := A.hasS.num2 (lo := 1) (hi := 31) (by omega) (by omega) (by omega)
  obtain ⟨c, A⟩ := A.need.mon m0 m1
  have hMid : shMid l = (amS monT l (needS l zSp (numS l (hasS l zComma (amS wkT l p0)) n2 1 31)), dtT t, moT t) := by
    unfold shMid; rw [if_pos u, b, c]
  have A : At l (shY l) (yearL (yrT t) ++ 32 :: (tmL t ++ tail)) := by
    unfold shY; rw [hMid]; exact A.need
  obtain ⟨d, A⟩ := A.ly hy
  have A : At l (shCk l) (tmL t ++ tail) := by
    rw [show (32 :: (tmL t ++ tail) : List Nat) = [32] ++ (tmL t ++ tail) from rfl, ← z_sp] at A
    exact A.need
  unfold tmL at A
  obtain ⟨e, f, g, A⟩ := A.clock ⟨c0, c1⟩ ⟨c2, c3⟩ ⟨c4, c5⟩
  refine ⟨u, a, ?_, A⟩
  unfold shT
  rw [hMid, d, e, f, g]
  exact time_back t
theorem utcG_val {l : List Nat} {i t : Int} (hl : l = utcG i t [32, 71, 77, 84]) (ht : Tm t) (h0 : 0 ≤ i) (h1 : i ≤ 6) :
    parseShown l = if wdT t = i then clipI (t / 1000 * 1000) else none := by
  obtain ⟨u, a, b, A⟩ := utcG_walk hl ht h0 h1
  rw [← z_gmt, ← List.append_nil zGmt] at A
  have e : endB l (shE l) = true := by unfold shE; rw [if_pos u]; exact A.need.end
  unfold parseShown
  rw [e, if_neg (by decide), a, b, show shO l = 0 by unfold shO; rw [if_pos u]]
  unfold wdT
  rw [show t / 1000 * 1000 / 86400000 = t / 86400000 by omega]
  congr 1
  rw [show t / 1000 * 1000 - 0 * 60000 = t / 1000 * 1000 by omega]
theorem utcG_long {l : List Nat} {i t : Int} (hl : l = utcG i t [32, 71, 77, 84, 32]) (ht : Tm t) (h0 : 0 ≤ i) (h1 : i ≤ 6) : parseShown l = none := by
  obtain ⟨u, a, b, A⟩ := utcG_walk hl ht h0 h1
  rw [show ([32, 71, 77, 84, 32] : List Nat) = [32, 71, 77, 84] ++ [32] from rfl, ← z_gmt] at A
  have e : endB l (shE l) = false := by unfold shE; rw [if_pos u]; exact A.need.end_no
  unfold parseShown
  rw [e, if_pos rfl]
theorem utcG_short {l : List Nat} {i t : Int} (hl : l = utcG i t [32, 71, 77]) (ht : Tm t) (h0 : 0 ≤ i) (h1 : i ≤ 6) : parseShown l = none := by
  obtain ⟨u, a, b, A⟩ := utcG_walk hl ht h0 h1
  refine bad_E ?_
  exact A.need_no (by rw [z_gmt]; decide)
theorem wd_range (t : Int) : 0 ≤ wdT t ∧ wdT t ≤ 6 := by unfold wdT; omega
theorem parse_utcL {t : Int} (ht : Tm t) : parseShown (utcL t) = clipI (t / 1000 * 1000) := by
  rw [utcG_val (utcL_G t) ht (wd_range t).1 (wd_range t).2, if_pos rfl]
theorem parse_shownL {t o : Int} (ht : Tm (t + o * 60000)) (ho : -1439 ≤ o ∧ o ≤ 1439) : parseShown (shownL t o) = clipI (t / 1000 * 1000) := by
  generalize hs : t + o * 60000 = s at ht
  generalize hl : shownL t o = l
  have A := At.start l
  obtain ⟨m0, m1⟩ := moT_range s
  obtain ⟨d0, d1⟩ := dt_range s
  obtain ⟨c0, c1, c2, c3, c4, c5⟩ := tm_range s
  obtain ⟨w0, w1⟩ := wd_range s
  have hy := yr_range ht
  have e0 : l = wkL (wdT s) ++ ([32] ++ (monL (moT s) ++ ([32] ++ (padK (dtT s).toNat 2 ++ ([32] ++ (yearL (yrT s) ++ 32 :: (tmL s ++ ([32, 71, 77, 84] ++ ((if o < 0 then [45] else [43]) ++ (padK (o.natAbs / 60) 2 ++ (padK (o.natAbs % 60) 2 ++ []))))))))))) := by
    rw [← hl]; unfold shownL dayL offL
    rw [hs]
    simp only [List.append_assoc, List.cons_append, List.nil_append, List.append_nil]
  have A0 := A
  rw [show At l p0 l = At l p0 (wkL (wdT s) ++ ([32] ++ (monL (moT s) ++ ([32] ++ (padK (dtT s).toNat 2 ++ ([32] ++ (yearL (yrT s) ++ 32 :: (tmL s ++ ([32, 71, 77, 84] ++ ((if o < 0 then [45] else [43]) ++ (padK (o.natAbs / 60) 2 ++ (padK (o.natAbs % 60) 2 ++ [])))))))))))) by rw [← e0]] at A
  obtain ⟨a, A⟩ := A.wk w0 w1
  have hn : ∀ r : List Nat, List.take zComma.length ([32] ++ r) ≠ zComma := fun r => by rw [z_comma]; simp
  have u := A.hasB_no (hn _)
  have A1 := A.hasS_no (hn _)
  rw [← A1, ← z_sp] at A
  obtain ⟨b, A⟩ := A.need.mon m0 m1
  obtain ⟨c, A⟩ := A.need.num2 (lo := 1) (hi := 31) (by omega) (by omega) (by omega)
  have hMid : shMid l = (numS l (needS l zSp (amS monT l (needS l zSp (hasS l zComma (amS wkT l p0))))) n2 1 31, dtT s, moT s) := by
    unfold shMid; rw [u, if_neg (by decide), b, c]
  have A := show At l (shY l) _ by unfold shY; rw [hMid]; exact A.need
  obtain ⟨d, A⟩ := A.ly hy
  rw [show ∀ r : List Nat, (32 :: r : List Nat) = [32] ++ r from fun _ => rfl, ← z_sp] at A
  have A := show At l (shCk l) _ from A.need
  unfold tmL at A
  obtain ⟨e, f, g, A⟩ := A.clock ⟨c0, c1⟩ ⟨c2, c3⟩ ⟨c4, c5⟩
  rw [← z_gmt] at A
  have A := show At l (shG l) _ from A.need
  obtain ⟨z, A⟩ := A.zone ho
  have e9 : endB l (shE l) = true := by unfold shE; rw [u, if_neg (by decide)]; exact A.end
  have eT : shT l = s / 1000 * 1000 := by
    unfold shT
    rw [hMid, d, e, f, g]
    exact time_back s
  unfold parseShown
  rw [e9, if_neg (by decide), a, eT, show shO l = o by unfold shO; rw [u, if_neg (by decide)]; exact z]
  unfold wdT
  rw [show s / 1000 * 1000 / 86400000 = s / 86400000 by omega, if_pos rfl]
  congr 1
  omega
noncomputable abbrev Tr (t : Int) : Prop := -8640000000000000 ≤ t ∧ t < 8640000000000000
noncomputable abbrev Off (o : Int) : Prop := -330 ≤ o ∧ o ≤ 719
theorem Tr.tm {t : Int} (h : Tr t) : Tm t := ⟨by have := h.1; omega, by have := h.2; omega⟩
theorem Tr.whole {t o : Int} (h : Tr t) (k : Off o) : Tm (t + o * 60000) ∧ -1439 ≤ o ∧ o ≤ 1439 := by
  obtain ⟨a, b⟩ := h; obtain ⟨c, d⟩ := k
  exact ⟨⟨by omega, by omega⟩, by omega, by omega⟩
theorem Tr.shown {t o : Int} (h : Tr t) (k : Off o) : Tr t ∧ -1439 ≤ o ∧ o ≤ 1439 ∧ Tm (t + o * 60000) := ⟨h, (h.whole k).2.1, (h.whole k).2.2, (h.whole k).1⟩
theorem iso_nil : isoBad [] := ⟨by decide +kernel, by decide +kernel, by decide +kernel⟩
theorem iso_cons {c : Nat} {r : List Nat} (h : 58 ≤ c) : isoBad (c :: r) := by
  refine ⟨?_, ?_, ?_⟩
  · rw [z_plus]; unfold hasP
    simp only [Bool.not_false, Bool.true_and, List.drop_zero, List.length_singleton, List.take_succ_cons, List.take_zero, beq_eq_false_iff_ne, ne_eq, List.cons.injEq, and_true]; omega
  · rw [z_minus]; unfold hasP
    simp only [Bool.not_false, Bool.true_and, List.drop_zero, List.length_singleton, List.take_succ_cons, List.take_zero, beq_eq_false_iff_ne, ne_eq, List.cons.injEq, and_true]; omega
  · unfold numP
    split
    · rfl
    · have e : figN (((c :: r).drop 0).take (Int.toNat 4)) = none := by
        show figN (c :: r.take 3) = none
        rw [figN, if_neg (by simp), List.map_cons, List.foldl_cons]
        have z : figStep (some 0) (c : Int) = none := by simp only [figStep, Option.bind_some]; rw [if_neg (by omega)]
        rw [z, foldl_none (fun _ => rfl)]
      rw [e]; rfl
theorem wkL_hd {i : Int} (h0 : 0 ≤ i) (h1 : i ≤ 6) : ∃ c r, (65 ≤ c ∧ c ≤ 90) ∧ wkL i = c :: r := by
  obtain ⟨n, rfl⟩ := Int.eq_ofNat_of_zero_le h0
  have h := (by decide : ∀ n : Nat, n < 7 → 65 ≤ (wkL (n : Int)).headD 0 ∧ (wkL (n : Int)).headD 0 ≤ 90 ∧ wkL (n : Int) ≠ []) n (by omega)
  cases e : wkL (n : Int) with
  | nil => exact absurd e h.2.2
  | cons c r => rw [e] at h; exact ⟨c, r, ⟨h.1, h.2.1⟩, rfl⟩
theorem wkL_head (i : Int) (h0 : 0 ≤ i) (h1 : i ≤ 6) : ∃ c r, 65 ≤ c ∧ wkL i = c :: r := by
  obtain ⟨c, r, h, e⟩ := wkL_hd h0 h1
  exact ⟨c, r, h.1, e⟩
theorem iso_G {i t : Int} {tl : List Nat} (h0 : 0 ≤ i) (h1 : i ≤ 6) : isoBad (utcG i t tl) := by
  obtain ⟨c, r, hc, e⟩ := wkL_head i h0 h1
  unfold utcG; rw [e]
  exact iso_cons (by omega)
theorem clip_whole {t : Int} (h : Tr t) : clipI (t / 1000 * 1000) = some (t / 1000 * 1000) := by
  obtain ⟨a, b⟩ := h
  unfold clipI; rw [if_pos (by omega)]
noncomputable def BadP (l : List Nat) : Prop := l.length ≤ 1000 ∧ isoBad l ∧ parseShown l = none
theorem bad_week {i t : Int} (ht : Tm t) (h0 : 0 ≤ i) (h1 : i ≤ 6) (hne : wdT t ≠ i) : BadP (utcG i t [32, 71, 77, 84]) := by
  refine ⟨?_, iso_G h0 h1, ?_⟩
  · have e : (utcG i t [32, 71, 77, 84]).length = (utcL t).length := by
      rw [utcL_G]; unfold utcG; simp only [List.length_append]
      have a := (wk_in i.toNat (by omega)).2.2
      have b := (wk_in (wdT t).toNat (by have := wd_range t; omega)).2.2
      have a' : (wkL i).length = 3 := a
      have b' : (wkL (wdT t)).length = 3 := b
      rw [a', b']
    rw [e]; exact Nat.le_trans (utcL_len ht) (by decide)
  · rw [utcG_val rfl ht h0 h1, if_neg hne]
theorem G_len (i t : Int) (a : List Nat) : (utcG i t a).length = (utcG i t []).length + a.length := by
  unfold utcG; simp only [List.length_append, List.length_cons, List.length_nil]; omega
theorem bad_long {t : Int} (ht : Tm t) : BadP (utcL t ++ [32]) := by
  have e : utcL t ++ [32] = utcG (wdT t) t [32, 71, 77, 84, 32] := by
    rw [utcL_G]; unfold utcG; simp only [List.append_assoc, List.cons_append, List.nil_append]
  refine ⟨?_, by rw [e]; exact iso_G (wd_range t).1 (wd_range t).2, by rw [e]; exact utcG_long rfl ht (wd_range t).1 (wd_range t).2⟩
  have := utcL_len ht
  rw [List.length_append, List.length_singleton]; omega
theorem drop_last {t : Int} : (utcL t).take ((utcL t).length - 1) = utcG (wdT t) t [32, 71, 77] := by
  have e : utcL t = utcG (wdT t) t [32, 71, 77] ++ [84] := by
    rw [utcL_G]; unfold utcG; simp only [List.append_assoc, List.cons_append, List.nil_append]
  rw [e, List.length_append, List.length_singleton, Nat.add_sub_cancel, List.take_left]
theorem bad_short {t : Int} (ht : Tm t) : BadP ((utcL t).take ((utcL t).length - 1)) := by
  refine ⟨?_, by rw [drop_last]; exact iso_G (wd_range t).1 (wd_range t).2, by rw [drop_last]; exact utcG_short rfl ht (wd_range t).1 (wd_range t).2⟩
  have := utcL_len ht
  rw [List.length_take]; omega
theorem bad_nil : BadP [] := ⟨by decide, iso_nil, bad_A (by decide +kernel)⟩
theorem wk_up : ∀ x ∈ wkT, x.headD 0 < 97 := by decide
theorem bad_low {l : List Nat} {c : Nat} {r : List Nat} (e : l = c :: r) (hc : 97 ≤ c) (hl : l.length ≤ 1000) : BadP l := by
  subst e
  refine ⟨hl, iso_cons (by omega), bad_A ((At.start _).am_no fun h => ?_)⟩
  have := wk_up _ h
  simp at this; omega
theorem utcL_tail {t i : Int} (h0 : 0 ≤ i) (h1 : i ≤ 6) : wkL i ++ (utcL t).drop 3 = utcG i t [32, 71, 77, 84] := by
  have b := (wk_in (wdT t).toNat (by have := wd_range t; omega)).2.2
  have b' : (wkL (wdT t)).length = 3 := b
  rw [utcL_G]; unfold utcG
  rw [List.drop_left' b']
/-- up to the clock -/
theorem utcH_walk {l tail : List Nat} {i t : Int} (hl : l = wkL i ++ ([44, 32] ++ (padK (dtT t).toNat 2 ++ ([32] ++ (monL (moT t) ++ ([32] ++ (yearL (yrT t) ++ 32 :: tail))))))) (ht : Tm t) (h0 : 0 ≤ i) (h1 : i ≤ 6) : At l (shCk l) tail := by
  have A := At.start l
  obtain ⟨m0, m1⟩ := moT_range t
  obtain ⟨d0, d1⟩ := dt_range t
  have hy := yr_range ht
  rw [show At l p0 l = At l p0 (wkL i ++ ([44, 32] ++ (padK (dtT t).toNat 2 ++ ([32] ++ (monL (moT t) ++ ([32] ++ (yearL (yrT t) ++ 32 :: tail))))))) by rw [← hl]] at A
  obtain ⟨a, A⟩ := A.wk h0 h1
  rw [← z_comma, ← z_sp] at A
  have u := A.hasB
  obtain ⟨b, A⟩ := A.hasS.num2 (lo := 1) (hi := 31) (by omega) (by omega) (by omega)
  obtain ⟨c, A⟩ := A.need.mon m0 m1
  have hMid : shMid l = (amS monT l (needS l zSp (numS l (hasS l zComma (amS wkT l p0)) n2 1 31)), dtT t, moT t) := by
    unfold shMid; rw [if_pos u, b, c]
  have A : At l (shY l) (yearL (yrT t) ++ 32 :: tail) := by
    unfold shY; rw [hMid]; exact A.need
  obtain ⟨d, A⟩ := A.ly hy
  rw [show (32 :: tail : List Nat) = [32] ++ tail from rfl, ← z_sp] at A
  exact A.need
theorem bad_dot {l rest : List Nat} {t h : Int} (hl : l = wkL (wdT t) ++ ([44, 32] ++ (padK (dtT t).toNat 2 ++ ([32] ++ (monL (moT t) ++ ([32] ++ (yearL (yrT t) ++ 32 :: (padK h.toNat 2 ++ (46 :: rest))))))))) (ht : Tm t) (h0 : 0 ≤ h) (h1 : h ≤ 23) (hlen : l.length ≤ 1000) : BadP l := by
  have w := wd_range t
  refine ⟨hlen, ?_, ?_⟩
  · obtain ⟨c, r, hc, e⟩ := wkL_head (wdT t) w.1 w.2
    rw [hl, e]; exact iso_cons (by omega)
  · have A := utcH_walk hl ht w.1 w.2
    obtain ⟨_, A⟩ := A.num2 (lo := 0) (hi := 23) h0 (by omega) ⟨h0, h1⟩
    refine bad_E (bad_need (bad_num (bad_ckB ?_)))
    exact A.need_no (by rw [z_colon]; simp)
noncomputable def dotC (c : Nat) : Nat := if c = 58 then 46 else c
theorem dot_free {l : List Nat} (h : 58 ∉ l) : l.map dotC = l := by
  induction l with
  | nil => rfl
  | cons c l ih =>
    rw [List.map_cons, ih (fun q => h (.tail _ q))]
    congr 1
    unfold dotC; rw [if_neg]; rintro rfl; exact h (.head _)
theorem dot_join : ∀ ps : List PySem.Str, (∀ p ∈ ps, 58 ∉ p.cps.toList) → (PySem.Str.join ⟨#[58]⟩ ps).cps.toList.map dotC = (PySem.Str.join ⟨#[46]⟩ ps).cps.toList
  | [], _ => rfl
  | [p], h => dot_free (h p (.head _))
  | p :: q :: r, h => by
    rw [join_cons_cons, join_cons_cons, app_cps, app_cps, app_cps, app_cps, List.map_append, List.map_append, dot_join (q :: r) (fun x hx => h x (.tail _ hx)), dot_free (h p (.head _))]; rfl
theorem replace_dot (l : List Nat) : Txt.replace (S l) (PySem.Str.ofString ":") (PySem.Str.ofString ".") = S (l.map dotC) := by
  rw [show PySem.Str.ofString ":" = ⟨#[58]⟩ by decide +kernel, show PySem.Str.ofString "." = ⟨#[46]⟩ by decide +kernel, StrLaws.replace_one]
  have a := dot_join (Txt.split (S l) ⟨#[58]⟩) (StrLaws.split_free (S l) 58)
  rw [StrLaws.join_split, S_cps] at a
  rw [a, S_of]
theorem low_head {l : List Nat} {c : Nat} (hc : 65 ≤ c ∧ c ≤ 90) : ∃ r, Txt.lower (S (c :: l)) = S ((c + 32) :: r) := by
  have e : Unicode.lowerAt (S (c :: l)).cps 0 = [c + 32] := by
    have q : (S (c :: l)).cps[0]? = some c := rfl
    unfold Unicode.lowerAt
    rw [q]
    show (if (c == 0x3A3 && _) = true then _ else _) = _
    rw [show (c == 0x3A3) = false by simp; omega, Bool.false_and, if_neg (by decide)]
    exact (by decide +kernel : ∀ c, c < 91 → 65 ≤ c → Unicode.lowerOf c = [c + 32]) c (by omega) hc.1
  have h : (Txt.lower (S (c :: l))).cps.toList = (c + 32) :: ((l.mapIdx fun i _ => Unicode.lowerAt (S (c :: l)).cps (i + 1)).flatten) := by
    have q : (Txt.lower (S (c :: l))).cps.toList = ((c :: l).mapIdx fun i _ => Unicode.lowerAt (S (c :: l)).cps i).flatten := by
      show (placed (S (c :: l)) fun i _ => Unicode.lowerAt (S (c :: l)).cps i).toList = _
      generalize Unicode.lowerAt (S (c :: l)).cps = g
      simp [placed, S]
      congr 1
      apply List.ext_getElem
      · simp
      · intro i h1 h2; simp
    rw [q, List.mapIdx_cons, List.flatten_cons, e]; rfl
  exact ⟨_, by rw [← h, S_of]⟩
theorem dot_pad (k w : Nat) : (padK k w).map dotC = padK k w := dot_free fun h => by
  have := padK_dig _ k w (Nat.le_refl _) 58 h; revert this; decide
theorem dot_year (y : Int) : (yearL y).map dotC = yearL y := by
  unfold yearL; rw [List.map_append, dot_pad]; congr 1; split <;> rfl
theorem dot_wk {i : Int} (h0 : 0 ≤ i) (h1 : i ≤ 6) : (wkL i).map dotC = wkL i := by
  obtain ⟨n, rfl⟩ := Int.eq_ofNat_of_zero_le h0
  exact (by decide : ∀ n : Nat, n < 7 → (wkL (n : Int)).map dotC = wkL (n : Int)) n (by omega)
theorem dot_mon {i : Int} (h0 : 0 ≤ i) (h1 : i ≤ 11) : (monL i).map dotC = monL i := by
  obtain ⟨n, rfl⟩ := Int.eq_ofNat_of_zero_le h0
  exact (by decide : ∀ n : Nat, n < 12 → (monL (n : Int)).map dotC = monL (n : Int)) n (by omega)
theorem ww_sl {k : Int} (h : 0 ≤ k ∧ k ≤ 12) : (((zWk ++ zWk).drop (3 * k).toNat).take (3 * k + 3 - 3 * k).toNat) = wkL (k % 7) := by
  obtain ⟨n, rfl⟩ := Int.eq_ofNat_of_zero_le h.1
  exact (by decide +kernel : ∀ n : Nat, n < 13 → (((zWk ++ zWk).drop (3 * (n : Int)).toNat).take (3 * (n : Int) + 3 - 3 * (n : Int)).toNat) = wkL ((n : Int) % 7)) n (by omega)
theorem utcL_3 (t : Int) : 3 ≤ (utcL t).length := by
  have b := (wk_in (wdT t).toNat (by have := wd_range t; omega)).2.2
  have b' : (wkL (wdT t)).length = 3 := b
  unfold utcL; simp only [List.length_append, b']; omega
theorem six_0 {t r : Int} (ht : Tm t) (h0 : 0 ≤ r) (h1 : r < 6) : BadP ((((zWk ++ zWk).drop (3 * (wdT t + 1 + r)).toNat).take (3 * (wdT t + 1 + r) + 3 - 3 * (wdT t + 1 + r)).toNat) ++ (utcL t).drop 3) := by
  have w := wd_range t
  rw [ww_sl (by omega), utcL_tail (t := t) (i := (wdT t + 1 + r) % 7) (by omega) (by omega)]
  exact bad_week ht (by omega) (by omega) (by omega)
theorem six_3 {t : Int} (ht : Tm t) : BadP (lowL (utcL t)) := by
  obtain ⟨c, r, hc, e⟩ := wkL_hd (wd_range t).1 (wd_range t).2
  obtain ⟨r', e'⟩ : ∃ r', utcL t = c :: r' := by
    unfold utcL; rw [e]; simp only [List.cons_append]; exact ⟨_, rfl⟩
  have k := len_lower (S (utcL t))
  rw [S_len] at k
  have := utcL_len ht
  rw [e'] at k ⊢
  obtain ⟨q, hq⟩ := low_head (l := r') hc
  rw [hq, S_len] at k
  have z : lowL (c :: r') = (c + 32) :: q := by unfold lowL; rw [hq, S_cps]
  rw [z]
  exact bad_low rfl (by omega) (by rw [e'] at this; omega)
theorem six_4 {t : Int} (ht : Tm t) : BadP ((utcL t).map dotC) := by
  have w := wd_range t
  have c := tm_range t
  have m := moT_range t
  refine bad_dot (rest := padK (t % 86400000 / 60000 % 60).toNat 2 ++ [46] ++ padK (t % 86400000 / 1000 % 60).toNat 2 ++ [32, 71, 77, 84]) (h := t % 86400000 / 3600000) ?_ ht c.1 c.2.1 (by rw [List.length_map]; exact Nat.le_trans (utcL_len ht) (by decide))
  unfold utcL tmL clockL
  simp only [List.map_append, List.map_cons, List.map_nil, show dotC 44 = 44 by decide, show dotC 32 = 32 by decide, show dotC 58 = 46 by decide, show dotC 71 = 71 by decide, show dotC 77 = 77 by decide, show dotC 84 = 84 by decide, dot_pad, dot_year, dot_wk w.1 w.2, dot_mon m.1 m.2, List.append_assoc, List.cons_append, List.nil_append]
theorem hexv_C {n : Nat} (h : n < 16) : hexv (hexC n) = n := (by decide : ∀ n, n < 16 → hexv (hexC n) = n) n h
theorem hexC_no {n : Nat} (h : n < 16) : hexC n ≠ 117 := (by decide : ∀ n, n < 16 → hexC n ≠ 117) n h
theorem hexSt {n : Nat} {f : Int} (h : n < 16) : hexStep (some f) ((hexC n : Nat) : Int) = some (f * 16 + n) := by
  simp only [hexStep, Option.bind_some, Int.toNat_natCast, hexv_C h]
  rw [if_neg (by omega)]
theorem kept_37 : 37 ∉ keptL := by decide
theorem uStep_esc {c : Nat} (h : c < 65536) (r : List Nat) : uStep (escC c ++ r) = (c, (escC c).length) := by
  unfold escC
  split
  · rename_i hk
    have h37 : c ≠ 37 := by rintro rfl; exact kept_37 hk
    have a : ¬ (([c] ++ r).take 2 = [37, 117] ∧ 6 ≤ ([c] ++ r).length) := fun q => by
      have := q.1
      rw [List.singleton_append, List.take_succ_cons, List.cons.injEq] at this
      exact h37 this.1
    have b : ¬ (([c] ++ r).headD 0 = 37 ∧ 3 ≤ ([c] ++ r).length) := fun q => h37 q.1
    unfold uStep; rw [if_neg a, if_neg b]; rfl
  · split
    · have x : c / 16 < 16 := by omega
      have y : c % 16 < 16 := by omega
      have a : ¬ ((octL c ++ r).take 2 = [37, 117] ∧ 6 ≤ (octL c ++ r).length) := fun q => by
        have := q.1
        unfold octL at this
        rw [List.cons_append, List.cons_append, List.take_succ_cons, List.take_succ_cons, List.cons.injEq, List.cons.injEq] at this
        exact hexC_no x this.2.1
      have b : (octL c ++ r).headD 0 = 37 ∧ 3 ≤ (octL c ++ r).length := ⟨rfl, by unfold octL; simp only [List.length_append, List.length_cons, List.length_nil]; omega⟩
      have e : hexN (((octL c ++ r).drop 1).take 2) = some (c : Int) := by
        show hexN [hexC (c / 16), hexC (c % 16)] = _
        simp only [hexN, List.map_cons, List.map_nil, List.foldl_cons, List.foldl_nil, hexSt x, hexSt y]
        congr 1; omega
      unfold uStep; rw [if_neg a, if_pos b, e]; rfl
    · have x : c / 4096 < 16 := by omega
      have y : c / 256 % 16 < 16 := by omega
      have z : c / 16 % 16 < 16 := by omega
      have v : c % 16 < 16 := by omega
      have b : (([37, 117, hexC (c / 4096), hexC (c / 256 % 16), hexC (c / 16 % 16), hexC (c % 16)] ++ r).take 2 = [37, 117] ∧ 6 ≤ ([37, 117, hexC (c / 4096), hexC (c / 256 % 16), hexC (c / 16 % 16), hexC (c % 16)] ++ r).length) := ⟨rfl, by simp only [List.length_append, List.length_cons, List.length_nil]; omega⟩
      have e : hexN ((([37, 117, hexC (c / 4096), hexC (c / 256 % 16), hexC (c / 16 % 16), hexC (c % 16)] ++ r).drop 2).take 4) = some (c : Int) := by
        show hexN [hexC (c / 4096), hexC (c / 256 % 16), hexC (c / 16 % 16), hexC (c % 16)] = _
        simp only [hexN, List.map_cons, List.map_nil, List.foldl_cons, List.foldl_nil, hexSt x, hexSt y, hexSt z, hexSt v]
        congr 1; omega
      unfold uStep; rw [if_pos b, e]; rfl
theorem escC_ne (c : Nat) : escC c ≠ [] := by
  unfold escC octL; split
  · simp
  · split <;> simp
theorem unesc_esc : ∀ {l : List Nat}, (∀ c ∈ l, c < 65536) → unescL (escL l) = l
  | [], _ => rfl
  | c :: l, h => by
    have e : escL (c :: l) = escC c ++ escL l := by unfold escL; rw [List.flatMap_cons]
    rw [e, unescL_step (by intro q; exact escC_ne c (List.append_eq_nil_iff.mp q).1), uStep_esc (h c (.head _)), List.drop_left, unesc_esc fun x hx => h x (.tail _ hx)]
theorem escL_len : ∀ (l : List Nat), (escL l).length ≤ 6 * l.length
  | [] => Nat.le_refl _
  | c :: l => by
    have e : escL (c :: l) = escC c ++ escL l := by unfold escL; rw [List.flatMap_cons]
    have k : (escC c).length ≤ 6 := by
      unfold escC octL; split
      · simp
      · split <;> simp
    have := escL_len l
    rw [e, List.length_append, List.length_cons]; omega
section
variable {w : World} {prog p : Program} {loose : List PySem.Str} {mean : ExcName → Option Value} {mg mb : PySem.Str → Option Value}
    {dp un : Nat} {gd : Option (List Code)} {cn : PySem.Str} {cs : PySem.Scope} {a : Addr} {ccd : Value} {cl : List (PySem.Str × Addr)} {outer : List Env} {A₀ : Around} {base h₀ : Heap} {L : Addr} {m : PySem.Str → Option Value} {h : Heap} {gs : Array GenState} {dr : Drawn} {tk : Nat} {os : OsState} {Q : Flow → Shared → Prop} {E : Value → Shared → Prop}
/-- into the law's frame -/
theorem law_in {body : List PySem.Stmt} {led : Led} (B : Below A₀ base outer h₀) (F : Fr h₀ L h m) (X : (Mine.hd.heap_1 w.params).In h₀) (N : News h₀ L h led) (T : Top p loose mean mg mb h₀) (hk : cs.kind = .function)
    (V : ∀ C : Cx w cs, C.cl = cl → C.dp = dp → C.un = un → C.L = L → Fr C.h₀ C.L h m → News C.h₀ C.L h led → C.wp (execs body C.env) (fun f s => f = .ret (.bool true) ∧ ∃ h' tk' m', s = C.st h' tk' ∧ Fr C.h₀ C.L h' m') h tk)
    (fin : ∀ h' tk' m', Fr h₀ L h' m' → Q (.ret (.bool true)) ⟨h', gs, dr, tk', os⟩) : wpAny (model prog w) (ktrTop dp un gd cn cs L a ccd cl outer) (execs body (envX cn cs L a ccd cl)) Q E ⟨h, gs, dr, tk, os⟩ :=
  wpAny_mono (V (Cx.mk prog p loose mean mg mb dp un gd cn L a ccd cl outer A₀ base h₀ gs dr os B X T hk) rfl rfl rfl rfl F N) (fun f s hp => by obtain ⟨rfl, h', tk', m', rfl, F⟩ := hp; exact fin h' tk' m' F) fun _ _ h => h.elim
end
noncomputable def s241 (w : World) : FnSpec w := mk1P 241 9 Tm (fun t => .str (utcL t) 150) (by k_is) (c_utc_text w)
noncomputable def s234n (w : World) : FnSpec w where
  f := 234
  n := 9
  sp xs k := onc xs fun x xs => on1 xs fun y => guard (isNone x) (onI y fun _ => k (.str noD 12))
  keep := by k_is
  sound {R rest pvs vs k} rv h news hn := oncE h rv fun x xs v vs' h rx rs e => on1E h rs fun y u h ry e' => by
    subst e e'
    have g := guardE h
    cases x <;> first | (cases g.1; done) | skip
    cases rx
    exact onIE (P := fun u => Snd w 234 9 news R k [.none, u]) g.2 ry fun i t hk => sound_V trivial (c_whole_text_none w i t news) hk
noncomputable def s241n (w : World) : FnSpec w where
  f := 241
  n := 9
  sp xs k := on1 xs fun x => guard (isNone x) (k (.str noD 12))
  keep := by k_is
  sound {R rest pvs vs k} rv h news hn := on1E h rv fun x v h rx e => by
    subst e
    have g := guardE h
    cases x <;> first | (cases g.1; done) | skip
    cases rx
    exact sound_V trivial (c_utc_text_none w news) g.2
theorem sum_fm {x : Int} : 0 ≤ x.fmod 2147483647 ∧ x.fmod 2147483647 < 2147483647 := draw_a
theorem scr_24 {ys : List Value} {ns : List Int} (h : IntsAre ys (List.map (fun k' : Int => k') (List.take 24 ns))) : Scr ys := ⟨_, h, by rw [List.length_map, List.length_take]; omega⟩
/-- where the law's body goes on once the pool is made: the pool, the script's ints, the two cells; the rest is let go -/
theorem rdy0 {h₀ h : Heap} {L : Addr} {P sc n : Nat} {ys : List Value} {ns : List Int} {o1 o2 : Obj} {rest : Led} {x : Int} {kk : Nat} {ta tc : Tok} {G : Prop} (N : News h₀ L h ((P, poolO 0 (x.fmod 2147483647) ta sc 0 tc) :: (sc, W.listOf ys.toArray kk) :: rest))
    (hi : IntsAre ys (List.map (fun k' : Int => k') (List.take 24 ns)))
    (h1 : (n + 1 + 1, o1) ∈ rest) (h2 : (n + 1, o2) ∈ rest) (l1 : @LT.lt Nat _ sc P) (l2 : n + 1 + 1 < P) (e1 : n + 1 + 1 ≠ sc) (e2 : n + 1 ≠ sc)
    (g : ∀ a, Scr ys → PO 0 a 0 → NE P sc [(n + 1 + 1, o1), (n + 1, o2)] → News h₀ L h [(P, poolO 0 a ta sc 0 tc), (sc, W.listOf ys.toArray kk), (n + 1 + 1, o1), (n + 1, o2)] → G) : G :=
  g (x.fmod 2147483647) (scr_24 hi) ⟨sum_fm.1, sum_fm.2, by decide, by decide⟩ ⟨Nat.ne_of_gt l1, List.forall_mem_cons.mpr ⟨Nat.ne_of_lt l2, List.forall_mem_cons.mpr ⟨Nat.ne_of_lt (Nat.lt_of_succ_lt l2), fun _ h => absurd h List.not_mem_nil⟩⟩, List.forall_mem_cons.mpr ⟨e1, List.forall_mem_cons.mpr ⟨e2, fun _ h => absurd h List.not_mem_nil⟩⟩⟩ (fun p hp => N p (by
    simp only [List.mem_cons, List.not_mem_nil, or_false] at hp ⊢
    rcases hp with rfl | rfl | rfl | rfl
    · exact .inl rfl
    · exact .inr (.inl rfl)
    · exact .inr (.inr h1)
    · exact .inr (.inr h2)))
section
variable {w : World} {cs : PySem.Scope} {C : Cx w cs} {P sc : Addr} {so : Obj} {rest : Led} {k : Nat} {lk : Lk} {m : PySem.Str → Option Value} {h : Heap} {tk : Nat}
theorem far_3 {v : Int} (h0 : 0 ≤ v) (h1 : v < 3) : 90000000 ≤ List.getD [8640000000000000, 4102444800000, 90000000] v.toNat (0 : Int) ∧ List.getD [8640000000000000, 4102444800000, 90000000] v.toNat (0 : Int) ≤ 8640000000000000 := by
  have : v = 0 ∨ v = 1 ∨ v = 2 := by omega
  rcases this with rfl | rfl | rfl <;> decide
theorem off_5 {v : Int} (h0 : 0 ≤ v) (h1 : v < 5) : Off (List.getD [0, 60, -330, 719, -90] v.toNat (0 : Int)) := by
  have : v = 0 ∨ v = 1 ∨ v = 2 ∨ v = 3 ∨ v = 4 := by omega
  rcases this with rfl | rfl | rfl | rfl | rfl <;> decide
theorem time_tr {e f : Int} (h0 : 90000000 ≤ f) (h1 : f ≤ 8640000000000000) : Tr (e.fmod (2 * f) - f) := by
  have a := Int.fmod_nonneg_of_pos e (b := 2 * f) (by omega)
  have b := Int.fmod_lt_of_pos e (b := 2 * f) (by omega)
  exact ⟨by omega, by omega⟩
end
theorem law_rdy {w : World} {cs : PySem.Scope} (C : Cx w cs) {P sc n : Nat} {ys : List Value} {ns : List Int} {o1 o2 : Obj} {rest : Led} {x : Int} {kk : Nat} {ta tc : Tok} {G : Prop} {m : PySem.Str → Option Value} {h : Heap} (F : Fr C.h₀ C.L h m) (N : News C.h₀ C.L h ((P, poolO 0 (x.fmod 2147483647) ta sc 0 tc) :: (sc, W.listOf ys.toArray kk) :: rest))
    (hi : IntsAre ys (List.map (fun k' : Int => k') (List.take 24 ns))) (h1 : (n + 1 + 1, o1) ∈ rest) (h2 : (n + 1, o2) ∈ rest) (l1 : @LT.lt Nat _ sc P) (l2 : n + 1 + 1 < P) (e1 : n + 1 + 1 ≠ sc) (e2 : n + 1 ≠ sc)
    (kd : cs.names.lookup sPool = some .cell) (kf : cs.names.lookup sDraw = some .globalImplicit) (hd : C.dp + 12 < recursionLimit) (hu : C.un + 8 * 12 < cLine) (hc : C.cl.lookup sPool = some (n + 1)) (d : o2.data = .cell (some (.ref P)))
    (g : FixD C P (W.listOf ys.toArray kk) → CellP C P [(n + 1 + 1, o1), (n + 1, o2)] → SttD C P sc (W.listOf ys.toArray kk) [(n + 1 + 1, o1), (n + 1, o2)] 0 [] m h → G) : G :=
  rdy0 N hi h1 h2 l1 l2 e1 e2 fun _ scr po ne N => g ⟨⟨_, _, rfl, scr⟩, kd, kf, hd, hu⟩ ⟨_, _, hc, .tail _ (.head _), d⟩ ⟨F, ⟨_, _, _, _, po, N⟩, ne, fun x q e => by cases e⟩
section
variable {prog : Program} {w : World} {A : Around} {h₀ : Heap} {L : Addr} {m : PySem.Str → Option Value} {env : Env} {elt : PySem.Expr} {x : PySem.Str} {scope : PySem.Scope} {cl : List (PySem.Str × Addr)} {s : Shared} {T : Led → Prop} {P : Nat → Value → Prop} {Fin : List Value → Led → Prop}
noncomputable def ElD (p : Nat → Prop) (nn : Nat) (Pl sc : Addr) (so : Obj) (rest : Led) (j : Nat) (y : Value) (news' : Led) : Prop :=
  ∃ (a' : Int) (ta' tc' : Tok) (c' : Int) (v : Nat) (t : Tok), PO (j + 1) a' c' ∧ p v ∧ y = .str (S [v]) t ∧ news' = (Pl, poolO nn a' ta' sc c' tc') :: (sc, so) :: rest
theorem draw_rest {n nn k0 : Nat} (p : Nat → Prop) {Pl sc : Addr} {so : Obj} {rest : Led} {a c0 : Int} {ta tc : Tok}
    (turn : ∀ v I oI C oC D m₂ ys h tk (E' : Value → Shared → Prop) (a : Int) (ta : Tok) (c : Int) (tc : Tok) (j : Nat), Nat.ble j 1000 = true → PO j a c → LCg.NsObj oC m₂ → m₂ x = some v → Fr h₀ L h m →
      News h₀ L h ((I, oI) :: (C, oC) :: (D, LCg.lst ys) :: (Pl, poolO nn a ta sc c tc) :: (sc, so) :: rest) → LCg.Off3 I C D ((Pl, poolO nn a ta sc c tc) :: (sc, so) :: rest) → NE Pl sc ((I, oI) :: (C, oC) :: (D, LCg.lst ys) :: rest) →
      wpAny (model prog w) A (eval elt (compEnvC scope cl C env)) (LCg.CompEnd h₀ L m { s with heap := h, toks := tk } I oI C oC D (LCg.lst ys) T (ElD p nn Pl sc so rest j)) E' { s with heap := h, toks := tk })
    (ne : NE Pl sc rest) (po : PO k0 a c0) (hk : Nat.ble (k0 + 50) 1000 = true) (hn : n ≤ 50)
    (fin : ∀ ys (l : List Nat) (a : Int) (ta : Tok) (c : Int) (tc : Tok), PO (k0 + 50) a c → StrsAre ys (l.map fun v => S [v]) → (∀ v ∈ l, p v) → l.length = n → Fin ys ((Pl, poolO nn a ta sc c tc) :: (sc, so) :: rest)) :
    LCg.CompRest prog w A h₀ L m env elt x scope cl s T P Fin n 0 [] ((Pl, poolO nn a ta sc c0 tc) :: (sc, so) :: rest) := by
  have hk' := Nat.le_of_ble_eq_true hk
  have key : ∀ (j i : Nat) (ys : List Value) (l : List Nat) (a : Int) (ta : Tok) (c : Int) (tc : Tok), i + j = n → PO (k0 + i) a c → StrsAre ys (l.map fun v => S [v]) → (∀ v ∈ l, p v) → l.length = i →
      LCg.CompRest prog w A h₀ L m env elt x scope cl s T P Fin j i ys ((Pl, poolO nn a ta sc c tc) :: (sc, so) :: rest) := by
    intro j
    induction j with
    | zero =>
      intro i ys l a ta c tc hi po hy hp hl
      exact LCg.CompRest.zero (fin ys l a ta _ tc ⟨po.1, po.2.1, po.2.2.1, by have := po.2.2.2; omega⟩ hy hp (by omega))
    | succ j ih =>
      intro i ys l a ta c tc hi po hy hp hl
      refine LCg.CompRest.succ ?_
      intro v I oI C oC D m₂ h tk E' hv hC hx F N off _
      have x := off.mem (Pl, poolO nn a ta sc c tc) (.head _)
      have y := off.mem (sc, so) (.tail _ (.head _))
      refine wpAny_mono (turn v I oI C oC D m₂ ys h tk E' a ta _ tc (k0 + i) (Nat.ble_eq_true_of_le (by omega)) po hC hx F N off (((ne.cons x.2.2 y.2.2).cons x.2.1 y.2.1).cons x.1 y.1)) (fun y s₂ hq => ?_) fun _ _ e => e
      obtain ⟨h', tk', nw, e, F', N', off', hS, a', ta', tc', c', u, t, po', hu, rfl, rfl⟩ := hq
      exact ⟨h', tk', _, e, F', N', off', hS, ih (i + 1) (ys ++ [.str (S [u]) t]) (l ++ [u]) a' ta' c' tc' (by omega) po' (by rw [List.map_append]; exact PySem.W.kct_snoc hy) (fun z hz => by
        rcases List.mem_append.mp hz with hz | hz
        · exact hp z hz
        · rw [List.mem_singleton.mp hz]; exact hu) (by rw [List.length_append, hl]; rfl)⟩
  exact key n 0 [] [] a ta c0 tc (by omega) po .nil (fun _ h => nomatch h) rfl
end
theorem comp_end {nn j : Nat} {p : Nat → Prop} {Pl sc I C D : Addr} {so oI oC oD : Obj} {rest : Led} {h₀ h' : Heap} {L : Addr} {m : PySem.Str → Option Value} {s₁ : Shared} {tk : Nat} {a a' c c' : Int} {ta ta' tc tc' t : Tok} {v : Nat}
    (F : Fr h₀ L h' m) (N : News h₀ L h' ((Pl, poolO nn a' ta' sc c' tc') :: (sc, so) :: (I, oI) :: (C, oC) :: (D, oD) :: rest)) (off : LCg.Off3 I C D ((Pl, poolO nn a ta sc c tc) :: (sc, so) :: rest))
    (po : PO (j + 1) a' c') (hv : p v) :
    LCg.CompEnd h₀ L m s₁ I oI C oC D oD (fun _ => True) (ElD p nn Pl sc so rest j) (.str (S [v]) t) { s₁ with heap := h', toks := tk } :=
  LCg.CompEnd.intro F N ((Pl, poolO nn a' ta' sc c' tc') :: (sc, so) :: rest) (fun q hq => by
    simp only [List.mem_cons] at hq ⊢
    rcases hq with h | h | h | h | h | h
    · exact .inr (.inr (.inl h))
    · exact .inr (.inr (.inr (.inl h)))
    · exact .inr (.inr (.inr (.inr (.inl h))))
    · exact .inl h
    · exact .inr (.inl h)
    · exact .inr (.inr (.inr (.inr (.inr h))))) off trivial ⟨a', ta', tc', c', v, t, po, hv, rfl, rfl⟩

noncomputable def IntP (p : Int → Prop) (v : Value) : Prop := ∃ i t, v = .int i t ∧ p i
theorem IntP.mk {p : Int → Prop} {i : Int} {t : Tok} (h : p i) : IntP p (.int i t) := ⟨i, t, rfl, h⟩
section
variable {prog : Program} {w : World} {A : Around} {E : Value → Shared → Prop} {s : Shared} {D : Addr} {value slice : PySem.Expr} {vs : List Value} {k : Int} {t u : Tok} {Q : Value → Shared → Prop} {p : Int → Prop}
theorem item_I (hl : s.heap.IsList D vs.toArray) (hv : ∀ v ∈ vs, IntP p v) (h0 : 0 ≤ k) (h1 : k < (vs.length : Int)) (hfit : k < 2 ^ 63) (h : ∀ i t, p i → Q (.int i t) s)
    (hs : subscripted slice false (.ref D) (.int k u) = operate [.ref D, .int k u] (getItem (.ref D) (.int k u)) := by with_unfolding_all rfl) :
    wpAny (model prog w) A (subscriptTail value slice (.ref D) (.int k u)) Q E s := by
  have hk : k.toNat < vs.length := by omega
  obtain ⟨i, t, e, hp⟩ := hv vs[k.toNat] (List.getElem_mem hk)
  have hx : vs[k.toNat]? = some (.int i t) := by rw [List.getElem?_eq_getElem hk, e]
  exact tail_any hl.typeIs slot_list_getitem.lookup (wpAny_getItem_list hl h0 hfit (by simpa using hx) (h i t hp)) hs
theorem loose_8 {k : Int} (h0 : 0 ≤ k) (h1 : k < 8) : ∃ v : Nat, v < 65536 ∧ Txt.item (PySem.Str.ofString "%uA0zc2F") k = S [v] := by
  rw [show PySem.Str.ofString "%uA0zc2F" = S [37, 117, 65, 48, 122, 99, 50, 70] by decide +kernel]
  refine ⟨_, ?_, itemS_S _ h0 (by simpa using h1)⟩
  exact (by decide : ∀ n, n < 8 → ([37, 117, 65, 48, 122, 99, 50, 70] : List Nat).getD n 0 < 65536) _ (by omega)
theorem item_loose (h0 : 0 ≤ k) (h1 : k < 8) (h : ∀ v : Nat, v < 65536 → Q (.str (S [v]) s.toks) { s with toks := s.toks + 1 })
    (hs : subscripted slice false (.str (PySem.Str.ofString "%uA0zc2F") t) (.int k u) = operate [.str (PySem.Str.ofString "%uA0zc2F") t, .int k u] (getItem (.str (PySem.Str.ofString "%uA0zc2F") t) (.int k u)) := by with_unfolding_all rfl)
    (ht : ∀ r, letTemporaryGo value (.str (PySem.Str.ofString "%uA0zc2F") t) r = pure () := by intro _; with_unfolding_all rfl) :
    wpAny (model prog w) A (subscriptTail value slice (.str (PySem.Str.ofString "%uA0zc2F") t) (.int k u)) Q E s := by
  refine KXi.item (n := 8) (by decide +kernel) (by omega) (by omega) (by decide) (fun _ => ?_) hs ht
  obtain ⟨v, hv, e⟩ := loose_8 h0 h1
  rw [e]
  exact h v hv
theorem chr_I {i : Int} (h0 : 0 ≤ i) (h1 : i < 65536) (h : ∀ v : Nat, v < 65536 → ∀ t k, Q (.str (S [v]) t) { s with toks := k }) :
    wpAny (model prog w) A (call (.builtin "chr") [.int i t]) Q E s := by
  refine chr_of_range h0 (by omega) ?_
  exact h i.toNat (by omega) _ _
end

theorem rng {v : Int} (h0 : 0 ≤ v) (h1 : v < 100) : Builtin.Range.small 0 v 1 = true := small_one (by decide) (by decide) (by omega) (by omega)
theorem rngn {v : Int} : Builtin.Range.rangeSize 0 v 1 = ((v.toNat : Nat) : Int) := by rw [rangeSize_nat, Int.sub_zero]
theorem rngs {v : Int} (h1 : v < 100) : v.toNat ≤ sizeLine := by rw [sizeLine_eq]; omega
theorem rng50 {v : Int} (h1 : v < 15) : v.toNat ≤ 50 := by omega
theorem lt_915 {v : Int} (h : v < 9) : v < 15 := by omega
theorem lt_1415 {v : Int} (h : v < 14) : v < 15 := by omega
theorem txt_len {l : List Nat} {v : Int} (h : l.length = v.toNat) (h1 : v < 15) : l.length ≤ 14 := by omega
theorem lt_9 {v : Int} (h : v < 9) : v < 100 := by omega
theorem lt_14 {v : Int} (h : v < 14) : v < 100 := by omega
noncomputable def zeroL : List Nat := [84, 104, 117, 32, 74, 97, 110, 32, 48, 49, 32, 49, 57, 55, 48, 32, 48, 48, 58, 48, 48, 58, 48, 48, 32, 71, 77, 84, 43, 48, 49, 48, 48]
theorem zero_parse : parseShown zeroL = some (-3600000) := by decide +kernel
theorem all6 {P : Value → Prop} {a b c d e f : Value} (h1 : P a) (h2 : P b) (h3 : P c) (h4 : P d) (h5 : P e) (h6 : P f) : ∀ v ∈ [a, b, c, d, e, f], P v := by
  intro v hv
  simp only [List.mem_cons, List.not_mem_nil, or_false] at hv
  rcases hv with rfl | rfl | rfl | rfl | rfl | rfl <;> assumption
noncomputable def Uni (i : Int) : Prop := 0 ≤ i ∧ i < 65536
theorem uni_units {v1 v2 v3 v4 : Int} {t1 t2 t3 t4 t5 t6 : Tok} (a0 : 0 ≤ v1) (a1 : v1 < 26) (b0 : 0 ≤ v2) (b1 : v2 < 256) (c0 : 0 ≤ v3) (c1 : v3 < 65536) (d0 : 0 ≤ v4) (d1 : v4 < 10) :
    ∀ v ∈ [Value.int (65 + v1) t1, Value.int v2 t2, Value.int v3 t3, Value.int 37 t4, Value.int 117 t5, Value.int (48 + v4) t6], IntP Uni v :=
  all6 (IntP.mk ⟨by omega, by omega⟩) (IntP.mk ⟨b0, by omega⟩) (IntP.mk ⟨c0, c1⟩) (IntP.mk ⟨by decide, by decide⟩) (IntP.mk ⟨by decide, by decide⟩) (IntP.mk ⟨by omega, by omega⟩)
section
variable {prog : Program} {w : World} {A : Around} {E : Value → Shared → Prop} {s : Shared} {h₀ : Heap} {L D : Addr} {m : PySem.Str → Option Value} {news : Led} {c : List Value} {t : Tok} {Q : Value → Shared → Prop}
theorem join_one {l : List Nat} (N : News h₀ L s.heap news) (hm : (D, LCg.lst c) ∈ news) (hi : StrsAre c (l.map fun v => S [v])) (hl : l.length ≤ 1000)
    (h : ∀ t' k, Q (.str (S l) t') { s with toks := k }) : wpAny (model prog w) A (call (.builtin "str.join") [.str (PySem.Str.ofString "") t, .ref D]) Q E s := by
  have e : (l.map fun v => S [v]) = (l.map fun v => [v]).map S := by rw [List.map_map]; rfl
  rw [e] at hi
  refine join_flat_at N hm hi (fun x hx => by obtain ⟨y, _, rfl⟩ := List.mem_map.mp hx; exact (by decide : 1 ≤ 6)) (by rw [List.length_map]; exact hl) fun t' k _ => ?_
  rw [flat_one]
  exact h t' k
end
section
variable {w : World} {cs : PySem.Scope} {C : Cx w cs} {P sc : Addr} {so : Obj} {rest : Led} {k : Nat} {lk : Lk} {m : PySem.Str → Option Value} {h : Heap} {tk : Nat}
/-- a name that is none of the flat ones -/
theorem SttD.putR {x : PySem.Str} {v : Value} {Q : Unit → Shared → Prop} (s : SttD C P sc so rest k lk m h) (hn : lk.lookup x = none) (hx : cs.names.lookup x = some .local) (f : ∀ m h' tk', SttD C P sc so rest k lk m h' → m x = some v → Q () (C.st h' tk')) : C.wp (storeName C.env x v) Q h tk := by
  obtain ⟨a, ta, c, tc, po, N⟩ := s.N
  refine storeX_L s.F N (fun h' F' N' => f _ _ _ ⟨F', ⟨a, ta, c, tc, po, N'⟩, s.ne, fun y q e => ?_⟩ (if_pos rfl)) C.hk hx
  refine (s.H y q e).elim fun v' e' => ⟨v', ?_, e'.2⟩
  have : y ≠ x := fun q => by rw [q, hn] at e; cases e
  rw [if_neg this]; exact e'.1
/-- the cell at the ledger's second place behind the newest object takes a value -/
theorem SttD.putC {x : PySem.Str} {v : Value} {v₀ : Option Value} {c : Addr} {o : Obj} {D : Addr × Obj} {Q : Unit → Shared → Prop} (s : SttD C P sc so (D :: (c, o) :: rest) k lk m h) (hc : C.cl.lookup x = some c) (hx : cs.names.lookup x = some .cell) (hd : o.data = .cell v₀) (hD : D.1 ≠ c) (hr : ∀ q ∈ rest, q.1 ≠ c)
    (f : ∀ h' tk' o', o'.data = .cell (some v) → SttD C P sc so (D :: (c, o') :: rest) k lk m h' → Q () (C.st h' tk')) : C.wp (storeName C.env x v) Q h tk := by
  obtain ⟨a, ta, b, tc, po, N⟩ := s.N
  have n1 := s.ne.2.1 (c, o) (.tail _ (.head _))
  have n2 := s.ne.2.2 (c, o) (.tail _ (.head _))
  refine store_head (C := c) (o := o) (rest := D :: (P, poolO 0 a ta sc b tc) :: (sc, so) :: rest) s.F (fun q hq => N q ?_) ?_ hd (fun h' o' F' N' hd' => f _ _ o' hd' ⟨F', ⟨a, ta, b, tc, po, fun q hq => N' q ?_⟩, ?_, s.H⟩) hc C.hk hx
  · simp only [List.mem_cons] at hq ⊢
    rcases hq with h | h | h | h | h
    · exact .inr (.inr (.inr (.inl h)))
    · exact .inr (.inr (.inl h))
    · exact .inl h
    · exact .inr (.inl h)
    · exact .inr (.inr (.inr (.inr h)))
  · intro q hq
    simp only [List.mem_cons] at hq
    rcases hq with rfl | rfl | rfl | h
    · exact hD
    · exact Ne.symm n1
    · exact Ne.symm n2
    · exact hr q h
  · simp only [List.mem_cons] at hq ⊢
    rcases hq with h | h | h | h | h
    · exact .inr (.inr (.inl h))
    · exact .inr (.inr (.inr (.inl h)))
    · exact .inr (.inl h)
    · exact .inl h
    · exact .inr (.inr (.inr (.inr h)))
  · exact ⟨s.ne.1, fun p hp => (List.mem_cons.mp hp).elim (fun e => e ▸ s.ne.2.1 D (.head _)) fun hp => (List.mem_cons.mp hp).elim (fun e => e ▸ n1) fun hp => s.ne.2.1 p (.tail _ (.tail _ hp)), fun p hp => (List.mem_cons.mp hp).elim (fun e => e ▸ s.ne.2.2 D (.head _)) fun hp => (List.mem_cons.mp hp).elim (fun e => e ▸ n2) fun hp => s.ne.2.2 p (.tail _ (.tail _ hp))⟩
/-- a test that draws nothing and comes out false -/
theorem pure_test {fs : List (FnSpec w)} {N : Nat} (G : Glo w glT) (hd : C.dp + N < recursionLimit) (hu : C.un + 8 * N < cLine) {t : PySem.Expr} {Q : Bool → Shared → Prop} (s : SttD C P sc so rest k lk m h) (he : evE none cs fs [] N lk 40 (0, false) t fun v _ => onB v fun c => c = false) (f : ∀ h tk, SttD C P sc so rest k lk m h → Q false (C.st h tk)) : C.wp (isTrue t C.env (eval t C.env)) Q h tk := by
  obtain ⟨a', ta, c, tc, po, S⟩ := s.stt
  exact (ev_sound (C := C) (R := none) (lk := lk) (m := m) (fs := fs) (ms := []) G hd hu 40).2 _ _ (fun c _ => c = false) he _ _ _ _ _ S fun b p h' tk' tA' rest' g s' hr => by subst g; exact f _ _ (s.back po s' hr)
theorem pure_tests {fs : List (FnSpec w)} {N : Nat} (G : Glo w glT) (hd : C.dp + N < recursionLimit) (hu : C.un + 8 * N < cLine) {op : PySem.BoolOp} {xs : List PySem.Expr} {pos : Pos} {whole : Sem Value} {Q : Bool → Shared → Prop} (s : SttD C P sc so rest k lk m h) (he : evBs (evE none cs fs [] N lk 40) op xs (0, false) fun v _ => onB v fun c => c = false) (f : ∀ h tk, SttD C P sc so rest k lk m h → Q false (C.st h tk)) : C.wp (isTrue (.BoolOp op xs pos) C.env whole) Q h tk := by
  obtain ⟨a', ta, c, tc, po, S⟩ := s.stt
  exact trs_sound (ev_sound (C := C) (R := none) (lk := lk) (m := m) (fs := fs) (ms := []) G hd hu 40).2 xs _ (fun c _ => c = false) he _ _ _ _ _ S fun b p h' tk' tA' rest' g s' hr => by subst g; exact f _ _ (s.back po s' hr)
theorem cellP2 {D q : Addr × Obj} {c : Addr} {o : Obj} (_s : SttD C P sc so (D :: q :: (c, o) :: rest) k lk m h) (hc : C.cl.lookup sPool = some c) (d : o.data = .cell (some (.ref P))) : CellP C P (D :: q :: (c, o) :: rest) := ⟨c, o, hc, .tail _ (.tail _ (.head _)), d⟩
/-- x.lower(), with the token that follows -/
theorem low_sound {nm x : PySem.Str} {q1 q2 pos : Pos} {l : List Nat} {b : Nat} {Q : Value → Shared → Prop} (s : SttD C P sc so rest k lk m h) (hx : cs.names.lookup x = some .local) (hv : lk.lookup x = some (.str l b)) (hb : b ≤ 1000) (hg : (nm == PySem.Str.ofString "lower" && (Nat.beq q2.endLine pos.line && !(x == PySem.Str.ofString "__debug__"))) = true)
    (f : ∀ t, Q (.str (S (lowL l)) t) (C.st h (tk + 1))) : C.wp (eval (.Call (.Attribute (.Name x q1) nm q2) [] [] pos) C.env) Q h tk := by
  obtain ⟨g1, g2⟩ := Bool.and_eq_true_iff.mp hg
  obtain ⟨g2, g3⟩ := Bool.and_eq_true_iff.mp g2
  obtain rfl := eq_of_beq g1
  obtain ⟨v, hm, hl, t, rfl⟩ := s.H _ _ hv
  refine MethodCall_ (nameX_L s.F hm ?_ C.hk hx (nb g3)) (meth_eq rfl (by rw [g2]; rfl))
  refine GM.lower (callWith_method0 (SCL.lower (by rw [S_len]; omega) fun _ => ?_))
  have e : S (lowL l) = Txt.lower (S l) := S_of _
  rw [← e]; exact f _
/-- x.replace(':', '.') -/
theorem rep_sound {nm x : PySem.Str} {q1 q2 q3 q4 pos : Pos} {k1 k2 : Nat} {l : List Nat} {b : Nat} {Q : Value → Shared → Prop} (s : SttD C P sc so rest k lk m h) (hx : cs.names.lookup x = some .local) (hv : lk.lookup x = some (.str l b)) (hb : b ≤ 1000) (hg : (nm == PySem.Str.ofString "replace" && (Nat.beq q2.endLine pos.line && !(x == PySem.Str.ofString "__debug__"))) = true) (ht : tk ≠ 0)
    (f : ∀ t tk', Q (.str (S (l.map dotC)) t) (C.st h tk')) : C.wp (eval (.Call (.Attribute (.Name x q1) nm q2) [.Constant (.str (PySem.Str.ofString ":")) k1 q3, .Constant (.str (PySem.Str.ofString ".")) k2 q4] [] pos) C.env) Q h tk := by
  obtain ⟨g1, g2⟩ := Bool.and_eq_true_iff.mp hg
  obtain ⟨g2, g3⟩ := Bool.and_eq_true_iff.mp g2
  obtain rfl := eq_of_beq g1
  obtain ⟨v, hm, hl, t, rfl⟩ := s.H _ _ hv
  refine MethodCall_ (nameX_L s.F hm ?_ C.hk hx (nb g3)) (meth_eq (args_plain (es := [.Constant (.str (PySem.Str.ofString ":")) k1 q3, .Constant (.str (PySem.Str.ofString ".")) k2 q4]) rfl) (by rw [g2]; rfl))
  refine PySem.GM.replace (callWith_method1 (args_cons (PySem.wpAny_Constant_str (args_cons (PySem.wpAny_Constant_str (args_nil ?_)) rfl)) rfl) rfl rfl)
  have e1 : (PySem.Str.ofString ".").length = 1 := by decide +kernel
  refine SC.replace ht (Nat.succ_ne_zero _) (Nat.ne_of_lt (Nat.lt_succ_self _)) (by decide +kernel) (by rw [S_len, e1]; omega) fun t' k' => ?_
  rw [replace_dot]; exact f _ _
/-- an item of the bad texts -/
theorem item_B {prog : Program} {A : Around} {E : Value → Shared → Prop} {s : Shared} {D : Addr} {value slice : PySem.Expr} {vs : List Value} {k : Int} {u : Tok} {Q : Value → Shared → Prop} (hl : s.heap.IsList D vs.toArray) (hv : ∀ v ∈ vs, ∃ l t, v = .str (S l) t ∧ BadP l) (h0 : 0 ≤ k) (h1 : k < (vs.length : Int)) (hfit : k < 2 ^ 63) (h : ∀ l t, BadP l → Q (.str (S l) t) s)
    (hs : subscripted slice false (.ref D) (.int k u) = operate [.ref D, .int k u] (getItem (.ref D) (.int k u))) : wpAny (model prog w) A (subscriptTail value slice (.ref D) (.int k u)) Q E s := by
  have hk : k.toNat < vs.length := by omega
  obtain ⟨l, t, e, hp⟩ := hv vs[k.toNat] (List.getElem_mem hk)
  have hx : vs[k.toNat]? = some (.str (S l) t) := by rw [List.getElem?_eq_getElem hk, e]
  exact tail_any hl.typeIs slot_list_getitem.lookup (wpAny_getItem_list hl h0 hfit (by simpa using hx) (h l t hp)) hs
end
section
variable {w : World} {cs : PySem.Scope} {C : Cx w cs} {P sc : Addr} {so : Obj} {rest : Led} {m : PySem.Str → Option Value}
theorem ldBuiltK {M : Model} {A : Around} {E : Value → Shared → Prop} {s : Shared} {scope : PySem.Scope} {cl : List (PySem.Str × Addr)} {D : Addr} {env : Env} {x : PySem.Str} {v : Value} {pos : Pos} {Q : Value → Shared → Prop}
    (F : Fr C.h₀ C.L s.heap m) (e : nsIn (Mine.hd.heap_1 w.params) mainGlobals x = some none) (hv : bootBuiltins x = some v) (hn : x ≠ PySem.Str.ofString "__name__") (h : Q v s) (hg : env.globals = mainGlobals := by rfl) (hb : env.builtins = builtinsNs := by rfl) (hk : (compEnvC scope cl D env).scope.kind = .function := by rfl) (hx : (compEnvC scope cl D env).kindOf x = some .globalImplicit := by rfl)
    (hd : (x == ("__debug__" : PySem.Str)) = false := by decide) : wpAny M A (eval (.Name x pos) (compEnvC scope cl D env)) Q E s :=
  PySem.Calls.Name_function_global hk hx (PySem.Calls.loadGlobal_builtin (env := compEnvC scope cl D env) (show s.heap.Ns env.globals _ from hg ▸ (topRead_of C.T).g.keeps F.keep) (mg_none_of C.X (topRead_of C.T).g e) (show s.heap.Ns env.builtins _ from hb ▸ (topRead_of C.T).b.keeps F.keep) (((topRead_of C.T).builtins x hn).trans hv) h) hd
/-- a draw inside a comprehension -/
theorem draw_in {scope : PySem.Scope} {cl : List (PySem.Str × Addr)} {I C' D cp : Addr} {oI oC oD op : Obj} {h : Heap} {tk : Nat} {a c : Int} {ta tc : Tok} {j : Nat} {many : Int} {k2 : Nat} {q1 q2 q3 q4 : Pos} {Q E : Value → Shared → Prop}
    (X : FixD C P so) (hj : Nat.ble j 1000 = true) (po : PO j a c) (F : Fr C.h₀ C.L h m) (N : News C.h₀ C.L h ((I, oI) :: (C', oC) :: (D, oD) :: (P, poolO 0 a ta sc c tc) :: (sc, so) :: rest)) (ne : NE P sc ((I, oI) :: (C', oC) :: (D, oD) :: rest)) (hm : decide (0 < many ∧ many ≤ 8589934592) = true)
    (hc : cl.lookup sPool = some cp) (hcp : (cp, op) ∈ rest) (hd : op.data = .cell (some (.ref P))) (hk : scope.kind = .function) (hx1 : (compEnvC scope cl C' C.env).kindOf sDraw = some .globalImplicit) (hx2 : (compEnvC scope cl C' C.env).kindOf sPool = some .cell)
    (f : ∀ r t a' ta' c' tc' h' tk', PO (j + 1) a' c' → 0 ≤ r → r < many → Fr C.h₀ C.L h' m → News C.h₀ C.L h' ((P, poolO 0 a' ta' sc c' tc') :: (sc, so) :: (I, oI) :: (C', oC) :: (D, oD) :: rest) → Q (.int r t) (C.st h' tk')) :
    wpAny (model C.prog w) C.A (eval (.Call (.Name sDraw q1) [.Name sPool q2, .Constant (.int many) k2 q3] [] q4) (compEnvC scope cl C' C.env)) Q E (C.st h tk) := by
  obtain ⟨vs, kk, rfl, scr⟩ := X.so
  refine Call_ (ldGlobK (C := C) (v := .ref 395) F (by k_is) ?_ rfl hk hx1) rfl
  refine callWith_K C.X (by k_is) (args_cons (ldCellK hc ⟨op, (N _ (.tail _ (.tail _ (.tail _ (.tail _ (.tail _ hcp)))))).1, hd⟩ (args_cons (wpAny_Constant_int (args_nil ⟨C.X.keeps F.keep, ?_⟩)) rfl) hk hx2) rfl) rfl rfl
  exact draw_use C.B F C.X (News.pull3 N) C.T scr po ne hj hm C.hk X.hd X.hu f
noncomputable abbrev Turn (C : Cx w cs) (P sc : Addr) (so : Obj) (rest : Led) (m : PySem.Str → Option Value) (elt : PySem.Expr) (x : PySem.Str) (scope : PySem.Scope) (cl : List (PySem.Str × Addr)) (s : Shared) : Prop :=
  ∀ v I oI C' oC D m₂ ys h tk (E' : Value → Shared → Prop) (a : Int) (ta : Tok) (c : Int) (tc : Tok) (j : Nat), Nat.ble j 1000 = true → PO j a c → LCg.NsObj oC m₂ → m₂ x = some v → Fr C.h₀ C.L h m →
      News C.h₀ C.L h ((I, oI) :: (C', oC) :: (D, LCg.lst ys) :: (P, poolO 0 a ta sc c tc) :: (sc, so) :: rest) → LCg.Off3 I C' D ((P, poolO 0 a ta sc c tc) :: (sc, so) :: rest) → NE P sc ((I, oI) :: (C', oC) :: (D, LCg.lst ys) :: rest) →
      wpAny (model C.prog w) C.A (eval elt (compEnvC scope cl C' C.env)) (LCg.CompEnd C.h₀ C.L m { s with heap := h, toks := tk } I oI C' oC D (LCg.lst ys) (fun _ => True) (ElD (fun v => v < 65536) 0 P sc so rest j)) E' { s with heap := h, toks := tk }
/-- chr(units[_law_draw(pool, 6)]) -/
theorem turn_chr {x : PySem.Str} {scope : PySem.Scope} {cl : List (PySem.Str × Addr)} {s : Shared} {cp cu U : Addr} {op ou oU : Obj} {vs : List Value} {k2 : Nat} {q1 q2 q3 q4 q5 q6 q7 q8 : Pos} (X : FixD C P so) (hs : ∀ g tk, { s with heap := g, toks := tk } = C.st g tk)
    (hc : cl.lookup sPool = some cp) (hcp : (cp, op) ∈ rest) (hd : op.data = .cell (some (.ref P))) (hcu : cl.lookup sUnits = some cu) (hu : (cu, ou) ∈ rest) (hdu : ou.data = .cell (some (.ref U))) (hU : (U, oU) ∈ rest) (hoU : oU = W.listOf vs.toArray 0) (hvs : ∀ v ∈ vs, IntP Uni v) (hl : vs.length = 6)
    (hk : scope.kind = .function) (hx1 : ∀ D, (compEnvC scope cl D C.env).kindOf sDraw = some .globalImplicit) (hx2 : ∀ D, (compEnvC scope cl D C.env).kindOf sPool = some .cell) (hx3 : ∀ D, (compEnvC scope cl D C.env).kindOf sUnits = some .cell) (hx4 : ∀ D, (compEnvC scope cl D C.env).kindOf (PySem.Str.ofString "chr") = some .globalImplicit) :
    Turn C P sc so rest m (.Call (.Name (PySem.Str.ofString "chr") q1) [.Subscript (.Name sUnits q2) (.Call (.Name sDraw q3) [.Name sPool q4, .Constant (.int 6) k2 q5] [] q6) q7] [] q8) x scope cl s := by
  intro v I oI C' oC D m₂ ys h tk E' a ta c tc j hj po hNs hv F N off ne
  rw [hs]
  refine Call_ (ldBuiltK (C := C) (v := .builtin "chr") F (by k_is) (by boot_fast) (by decide) ?_ rfl rfl hk (hx4 C')) rfl
  refine callWith_builtin1 (args_cons (Subscript_ (ldCellK hcu ⟨ou, (N _ (.tail _ (.tail _ (.tail _ (.tail _ (.tail _ hu)))))).1, hdu⟩ ?_ hk (hx3 C'))) rfl) rfl rfl
  refine draw_in X hj po F N ne (by decide) hc hcp hd hk (hx1 C') (hx2 C') fun r t a' ta' c' tc' h' tk' po' h0 h1 F' N' => ?_
  subst hoU
  refine item_I (N'.isList (.tail _ (.tail _ (.tail _ (.tail _ (.tail _ hU)))))) hvs h0 (by omega) (by omega) (fun i t2 hi => args_nil ?_) rfl
  refine chr_I hi.1 hi.2 fun v hv t3 k3 => ?_
  exact comp_end F' N' off po' hv
/-- '%uA0zc2F'[_law_draw(pool, 8)] -/
theorem turn_loose {x : PySem.Str} {scope : PySem.Scope} {cl : List (PySem.Str × Addr)} {s : Shared} {cp : Addr} {op : Obj} {k1 k2 : Nat} {q1 q3 q4 q5 q6 q7 : Pos} (X : FixD C P so) (hs : ∀ g tk, { s with heap := g, toks := tk } = C.st g tk)
    (hc : cl.lookup sPool = some cp) (hcp : (cp, op) ∈ rest) (hd : op.data = .cell (some (.ref P)))
    (hk : scope.kind = .function) (hx1 : ∀ D, (compEnvC scope cl D C.env).kindOf sDraw = some .globalImplicit) (hx2 : ∀ D, (compEnvC scope cl D C.env).kindOf sPool = some .cell) :
    Turn C P sc so rest m (.Subscript (.Constant (.str (PySem.Str.ofString "%uA0zc2F")) k1 q1) (.Call (.Name sDraw q3) [.Name sPool q4, .Constant (.int 8) k2 q5] [] q6) q7) x scope cl s := by
  intro v I oI C' oC D m₂ ys h tk E' a ta c tc j hj po hNs hv F N off ne
  rw [hs]
  refine Subscript_ (PySem.wpAny_Constant_str ?_)
  refine draw_in X hj po F N ne (by decide) hc hcp hd hk (hx1 C') (hx2 C') fun r t a' ta' c' tc' h' tk' po' h0 h1 F' N' => ?_
  refine item_loose h0 h1 (fun v hv => ?_) rfl (by exact let_go)
  exact comp_end F' N' off po' hv
/-- ''.join([.. for turn in range(_law_draw(pool, many))]) -/
theorem text_sound {elt : PySem.Expr} {x nm s0 : PySem.Str} {scope : PySem.Scope} {cl : List (PySem.Str × Addr)} {many : Int} {k : Nat} {lk : Lk} {h : Heap} {tk : Nat} {kk k2 : Nat} {q0 q1 q2 q3 q4 q5 q6 q7 pos p2 p3 : Pos} {Q : Value → Shared → Prop} (X : FixD C P so) (cp : CellP C P rest) (s : SttD C P sc so rest k lk m h) (hm : decide (0 < many ∧ many ≤ 14) = true) (hk : Nat.ble (k + 60) 1000 = true)
    (hg : (s0 == PySem.Str.ofString "" && (nm == PySem.Str.ofString "join" && Nat.beq q1.endLine pos.line)) = true) (hr : cs.names.lookup (PySem.Str.ofString "range") = some .globalImplicit)
    (hclos : closureFor scope C.env = pure cl) (hcell : ∀ y ∈ scope.names, y.2 ≠ .cell) (hkind : scope.kind = .function) (hnames : ∀ y ∈ scope.names, y.2 = .local → scope.names.lookup y.1 = some .local) (hx : scope.names.lookup x = some .local)
    (turn : ∀ s, (∀ g tk, { s with heap := g, toks := tk } = C.st g tk) → Turn C P sc so rest m elt x scope cl s)
    (f : ∀ l t h' tk', l.length ≤ 14 → (∀ v ∈ l, v < 65536) → SttD C P sc so rest (k + 51) lk m h' → Q (.str (S l) t) (C.st h' tk')) :
    C.wp (eval (.Call (.Attribute (.Constant (.str s0) kk q0) nm q1) [.ListComp elt [⟨.Name x p2, .Call (.Name (PySem.Str.ofString "range") q2) [.Call (.Name sDraw q3) [.Name sPool q4, .Constant (.int many) k2 q5] [] q6] [] q7, [], 0⟩] scope p3] [] pos) C.env) Q h tk := by
  obtain ⟨g1, g2⟩ := Bool.and_eq_true_iff.mp hg
  obtain ⟨g2, g3⟩ := Bool.and_eq_true_iff.mp g2
  obtain rfl := eq_of_beq g1
  have hm' := of_decide_eq_true hm
  have hk' := Nat.le_of_ble_eq_true hk
  with_reducible refine join_call ?g fun t0 tk0 => ?_
  case g => rw [g2, g3]; rfl
  refine LCg.ListComp_U s.F hclos hcell hkind hnames hx ?_ (by intro _; rfl)
  refine Call_ (nameX_B s.F C.X (topRead_of C.T) (v := .type "range") (by k_is) (by boot_fast) (by decide) ?_ C.hk hr (by decide)) rfl
  refine PySem.Pv.callWith_type1 (args_cons (draw_sound X cp s (by exact decide_eq_true ⟨hm'.1, by omega⟩) (Nat.ble_eq_true_of_le (by omega)) fun r t h1 tk1 h0 h1 s1 => args_nil ?_) rfl) rfl rfl
  obtain ⟨a, ta, c, tc, po, N⟩ := s1.N
  refine range1_rows s1.F N fun h2 tk2 t₁ u₁ v₁ hr F2 N2 keep => ?_
  refine LCg.CompSrc.range (by rfl) F2 N2 hr (rng h0 (by omega)) rngn (rngs (by omega)) (fun g => ?_)
  refine draw_rest (fun v => v < 65536) (turn _ fun _ _ => rfl) s1.ne po (Nat.ble_eq_true_of_le (by omega)) (by omega) fun ys l a ta c tc po hy hp hl => ?_
  unfold LCg.FinE
  intro D h3 tk3 F3 N3 o1
  refine join_one N3 (.head _) hy (by omega) fun t' k' => ?_
  exact f l t' h3 k' (by omega) hp ⟨F3, ⟨a, ta, c, tc, ⟨po.1, po.2.1, po.2.2.1, by have := po.2.2.2; omega⟩, fun q hq => N3 q (.tail _ hq)⟩, s.ne, s.H⟩
end
theorem lawT : PySem.Challenge.rw_nt0366_01.Holds := by
  refine Mine.hd ?_
  k_fill
  intro w s₀ s₁ mg mb G Y fa o pm cd doc dV kV ho hd hcd hD hmg hg args vals as hpre hlay hrd hwl hlo
  have KX := kIn_of Y
  have X := (Ground.X G).1
  have V := (Ground.X G).2
  refine Ground.open G ?_
  intro T B D TE TW
  try (refine guard_noD D (by decide +kernel) ?_; clear D)
  obtain ⟨_, _, M⟩ := bmod_of_top T
  have TA := at_of_top T
  try (obtain ⟨_, _, he, B0⟩ := based_of_top T rfl hmg ho hd; have he' : cd = _ := he; subst he'; clear he)
  clear hmg
  wrow_args hpre hlay hrd hwl hlo
  all_goals (
    first | refine callC_kw (enter_call ?_) | refine enter_call ?_ | refine callC_kw (enter_callW ?_) | refine enter_callW ?_ | w_how
    w_top on
    try refine codeAny_mono ?_ (fun _ _ g => GoodW.toG g)
    have K0 := below_caller (Top.heap T)
    w_call any ho hd hcd hD T F
    clear hd TA
    k_drop
    skip)
  all_goals try k_fold
  repeat' ((fail_if_success (with_reducible show wpAny _ _ (execs [_, _, _, _, _, _, _, _, _, _, _, _, _, _, _, _, _] _) _ _ _)); first | (k_unfold; (try dsimp only)) | (k_end; wrow_close) | walk1 | (dsimp only; walk1) | (leave1; walk_say "STEP leave1"; try dsimp only) | fail "no step")
  rename Fr _ _ _ _ => F8
  rename News _ _ _ _ => N8
  rename _ = Data.cell (some (Value.ref _)) => d8
  rename IntsAre _ (List.map _ _) => I8
  refine law_in (gd := some []) (outer := []) (PyProof.Rows.below_caller _) F8 (by assumption) N8 (by assumption) rfl ?V ?fin
  case fin =>
    intro h9 tk9 m9 F9
    k_steps
  case V =>
    intro C hcl hdp hun hL F N
    refine law_rdy C F N I8 (.tail _ (.head _)) (.tail _ (.tail _ (.head _))) (by omega) (by omega) (by omega) (by omega) rfl rfl (by rw [hdp]; decide) (by rw [hun]; decide) (by rw [hcl]; rfl) d8 (fun X cp s => ?_)
    refine wpAny_execs_cons (wpAny_Assign_Name (menu_sound (ns := [8640000000000000, 4102444800000, 90000000]) X cp s (by decide) rfl rfl (by decide) (fun tk Q K => args_cons (wpAny_Constant_int (args_cons (wpAny_Constant_int (args_cons (wpAny_Constant_int (args_nil (K _ _ (.cons _ _ (.cons _ _ (.cons _ _ .nil)))))) rfl)) rfl)) rfl) fun r t h1 tk1 h0 h1 s => ?_) rfl)
    have hf := far_3 h0 h1
    revert hf
    generalize List.getD [8640000000000000, 4102444800000, 90000000] r.toNat (0 : Int) = far
    intro hf
    refine s.put (z := .int far) ⟨_, rfl⟩ rfl fun m2 h2 tk2 s => ?_
    refine wpAny_execs_cons (wpAny_Assign_Name ?_ rfl)
    refine wpAny_BinOp (wpAny_BinOp (wpAny_BinOp (wpAny_BinOp ?_)))
    refine draw_sound X cp s (by decide) rfl fun r1 t1 h3 tk3 a0 a1 s => ?_
    refine wpAny_Constant_int (mul_int ?_ (.of_right (by decide)))
    refine draw_sound X cp s (by decide) rfl fun r2 t2 h4 tk4 b0 b1 s => ?_
    refine add_int ?_
    refine pure_sound (fs := []) (N := 12) (K := fun z => z = .int (2 * far)) (glT_ok _) X.hd X.hu s (by exact rfl) fun z v h5 tk5 rest5 hz s rv => ?_
    subst hz
    obtain ⟨t5, rfl⟩ := rv
    refine mod_int (by omega) ?_
    refine pure_sound (fs := []) (N := 12) (K := fun z => z = .int far) (glT_ok _) X.hd X.hu s (by exact rfl) fun z v h6 tk6 rest6 hz s rv => ?_
    subst hz
    obtain ⟨t6, rfl⟩ := rv
    refine sub_int ?_
    have tr := time_tr (e := r1 * 4294967311 + r2) hf.1 hf.2
    revert tr
    generalize (r1 * 4294967311 + r2).fmod (2 * far) - far = time
    intro tr
    refine s.put (z := .int time) ⟨_, rfl⟩ rfl fun m7 h7 tk7 s => ?_
    refine wpAny_execs_cons (wpAny_Assign_Name ?_ rfl)
    refine menu_sound (ns := [0, 60, -330, 719, -90]) X cp s (by decide) rfl rfl (by decide) (fun tk Q K => ?_) fun r t h1 tk1 h0 h1 s => ?_
    · refine args_cons (wpAny_Constant_int (args_cons (wpAny_Constant_int (args_cons (UnaryOp_ (wpAny_Constant_int (PyProof.Rows.neg_int ?_))) rfl)) rfl)) rfl
      refine args_cons (wpAny_Constant_int (args_cons (UnaryOp_ (wpAny_Constant_int (PyProof.Rows.neg_int ?_))) rfl)) rfl
      exact args_nil (K _ _ (.cons _ _ (.cons _ _ (.cons _ _ (.cons _ _ (.cons _ _ .nil))))))
    have ho := off_5 h0 h1
    revert ho
    generalize List.getD [0, 60, -330, 719, -90] r.toNat (0 : Int) = offset
    intro ho
    refine s.put (z := .int offset) ⟨_, rfl⟩ rfl fun m8 h8 tk8 s => ?_
    refine st_asg (fs := []) (N := 12) (glT_ok _) X.hd X.hu s (.int (time / 1000 * 1000)) rfl rfl rfl (by show PV.int (time.fdiv 1000 * 1000) = _; rw [Int.fdiv_eq_ediv_of_nonneg _ (by decide)]) fun m9 h9 tk9 s => ?_
    have tm := tr.tm
    have tw := tr.whole ho
    have ps : ∀ {j : Int}, parseShown (shownL time offset) = some j → j = time / 1000 * 1000 := fun h => by rw [parse_shownL tw.1 tw.2, clip_whole tr] at h; exact (Option.some.inj h).symm
    have pn : ∀ {G : Prop}, parseShown (shownL time offset) = none → G := fun h => by rw [parse_shownL tw.1 tw.2, clip_whole tr] at h; cases h
    have pu : ∀ {j : Int}, parseShown (utcL time) = some j → j = time / 1000 * 1000 := fun h => by rw [parse_utcL tm, clip_whole tr] at h; exact (Option.some.inj h).symm
    have pv : ∀ {G : Prop}, parseShown (utcL time) = none → G := fun h => by rw [parse_utcL tm, clip_whole tr] at h; cases h
    have iso : isoBad (utcL time) := by rw [utcL_G]; exact iso_G (wd_range time).1 (wd_range time).2
    have nel : ∀ {l : List Nat} {G : Prop}, (l != l) = true → G := fun h => by rw [bne_self_eq_false] at h; cases h
    have nei : ∀ {j i : Int}, j = i → (j != i) = false := fun h => by rw [h]; exact bne_self_eq_false _
    have far2 : ∀ {G : Prop}, decide ((if time / 1000 * 1000 < 0 then -(time / 1000 * 1000) else time / 1000 * 1000) ≤ (8640000000000000 : Int)) = false → G := fun h => by
      have := of_decide_eq_false h
      have a := tr.1; have b := tr.2
      exfalso; apply this; split <;> omega
    refine st_if (fs := [s234 _, s421 _, s241 _, s428 _]) (N := 12) (glT_ok _) X.hd X.hu s ⟨tw, tw, fun q => nel q, fun _ => ⟨tm, tm, bne_self_eq_false _⟩⟩ fun h10 tk10 s => ?_
    refine st_if (fs := [s421 _, s353 _]) (N := 12) (glT_ok _) X.hd X.hu s ⟨tw, trivial, fun h => pn h, fun j hj => ⟨fun _ => nei (ps hj), fun c => far2 c⟩⟩ fun h11 tk11 s => ?_
    refine st_asg (fs := [s428 _]) (N := 12) (glT_ok _) X.hd X.hu s (.str (utcL time) 150) rfl rfl rfl ⟨tm, rfl⟩ fun m12 h12 tk12 s => ?_
    refine st_if (fs := [s360 _]) (N := 12) (glT_ok _) X.hd X.hu s ⟨iso, fun h => pv h, fun j hj => ⟨fun _ => nei (pu hj), fun c => far2 c⟩⟩ fun h13 tk13 s => ?_
    -- week
    refine wpAny_execs_cons (wpAny_Assign_Name ?_ rfl)
    refine wpAny_BinOp (wpAny_Constant_int (wpAny_BinOp ?_))
    refine pure_sound (fs := [s99 _]) (N := 12) (K := fun z => z = .int (wdT time + 1)) (glT_ok _) X.hd X.hu s (by exact rfl) fun z v h14 tk14 rest14 hz s rv => ?_
    subst hz
    obtain ⟨t14, rfl⟩ := rv
    refine draw_sound X cp s (by decide) rfl fun r3 t3 h15 tk15 c0 c1 s => ?_
    refine add_int (mul_int ?_ (.of_left (by decide)))
    refine s.put (z := .int (3 * (wdT time + 1 + r3))) ⟨_, rfl⟩ rfl fun m15 h16 tk16 s => ?_
    -- bad
    have b0 := six_0 tm c0 c1
    have b1 := bad_long tm
    have b2 := bad_short tm
    have b3 := six_3 tm
    have b4 := six_4 tm
    have u3 := utcL_3 time
    have wr := wd_range time
    refine wpAny_execs_cons (wpAny_Assign_Name (List_ ?_) rfl)
    refine args_cons (pure_sound (fs := []) (N := 12) (K := fun z => z = .str ((((zWk ++ zWk).drop (3 * (wdT time + 1 + r3)).toNat).take (3 * (wdT time + 1 + r3) + 3 - 3 * (wdT time + 1 + r3)).toNat) ++ (utcL time).drop 3) 192) (glT_ok _) X.hd X.hu s (by exact ⟨⟨by omega, by omega⟩, ⟨rfl, u3⟩, rfl⟩) fun z v h17 tk17 rest17 hz s rv => ?_) rfl
    subst hz
    obtain ⟨_, y0, rfl⟩ := rv
    refine args_cons (pure_sound (fs := []) (N := 12) (K := fun z => z = .str (utcL time ++ [32]) 151) (glT_ok _) X.hd X.hu s (by show PV.str (utcL time ++ (PySem.Str.ofString " ").cps.toList) 151 = _; rw [sl " " _ s_sp]) fun z v h18 tk18 rest18 hz s rv => ?_) rfl
    subst hz
    obtain ⟨_, y1, rfl⟩ := rv
    refine args_cons (pure_sound (fs := []) (N := 12) (K := fun z => z = .str ((utcL time).take ((utcL time).length - 1)) 150) (glT_ok _) X.hd X.hu s (by exact ⟨⟨rfl, by omega⟩, rfl⟩) fun z v h19 tk19 rest19 hz s rv => ?_) rfl
    subst hz
    obtain ⟨_, y2, rfl⟩ := rv
    refine args_cons ?_ rfl
    show C.wp (eval _ C.env) _ h19 tk19
    with_reducible refine low_sound (l := utcL time) (b := 150) s ?g1 ?g2 ?g3 ?g4 fun y3 => ?_
    case g1 => rfl
    case g2 => rfl
    case g3 => decide
    case g4 => rfl
    refine args_cons ?_ rfl
    show C.wp (eval _ C.env) _ h19 (tk19 + 1)
    with_reducible refine rep_sound (l := utcL time) (b := 150) s ?g5 ?g6 ?g7 ?g8 ?g9 fun y4 tk20 => ?_
    case g5 => rfl
    case g6 => rfl
    case g7 => decide
    case g8 => rfl
    case g9 => exact Nat.succ_ne_zero _
    refine args_cons (PySem.wpAny_Constant_str (args_nil ?_)) rfl
    obtain ⟨a20, ta20, c20, tc20, po20, N20⟩ := s.N
    refine newList_K s.F N20 (fun D h21 F21 N21 l21 => ?_) (by rw [sizeLine_eq]; exact Nat.le_of_ble_eq_true rfl)
    have s2 := s.more po20 F21 N21 l21
    refine s2.putR rfl rfl fun m22 h22 tk22 s hbad => ?_
    refine wpAny_execs_cons (wpAny_If (isTrue_or ?_))
    refine wpAny_isTrue_Compare1 ?_ rfl
    refine Call_ (nameX_K s.F C.X (topRead_of C.T) (v := .ref 360) (by k_is) ?_ C.hk rfl (by decide)) rfl
    refine callWith_K C.X (by k_is) (args_cons (Subscript_ (nameX_L s.F hbad ?_ C.hk rfl rfl)) rfl) rfl rfl
    refine draw_sound X (cp.mono fun _ h => .tail _ h) s (by decide) rfl fun r5 t5 h23 tk23 d0 d1 s => ?_
    obtain ⟨a23, ta23, c23, tc23, po23, N23⟩ := s.N
    refine item_B (N23.isList (.tail _ (.tail _ (.head _)))) ?hv d0 d1 (by omega) (fun l t hb => args_nil ⟨C.X.keeps s.F.keep, ?_⟩) rfl
    case hv => exact all6 ⟨_, _, rfl, b0⟩ ⟨_, _, rfl, b1⟩ ⟨_, _, rfl, b2⟩ ⟨_, _, rfl, b3⟩ ⟨_, _, rfl, b4⟩ ⟨[], _, by rw [s_e], bad_nil⟩
    refine (c_parse_date _ l t _).use C.B s.F C.X N23 C.T ⟨hb.1, hb.2.1⟩ C.hk (by have := X.hd; omega) (by have := X.hu; omega) fun r news' h24 tk24 F24 N24 ok => ?_
    obtain ⟨hn, ok⟩ := ok
    rw [hb.2.2] at ok
    have ok : r = .none := ok
    subst ok
    have s := (SttD.mk F24 ⟨_, _, _, _, po23, fun q hq => N24 q (hn q hq)⟩ s.ne s.H : SttD C _ _ _ _ _ _ _ _)
    refine PySem.wpAny_Constant_none (isNot_none (wpAny_truthy_bool ?_))
    show C.wp (isTrue (.BoolOp _ _ _) C.env _) _ h24 tk24
    refine pure_tests (fs := [s234n _, s241n _]) (N := 12) (glT_ok _) X.hd X.hu s (by show (noD != noD) = false; exact bne_self_eq_false _) fun h25 tk25 s => ?_
    refine wpAny_execs_nil ?_
    have s := s.drop
    -- units
    refine wpAny_execs_cons (wpAny_Assign_Name (List_ ?_) rfl)
    refine args_cons (wpAny_BinOp (wpAny_Constant_int ?_)) rfl
    refine draw_sound X cp s (by decide) rfl fun r6 t6 h26 tk26 e0 e1 s => ?_
    refine add_int ?_
    refine args_cons ?_ rfl
    refine draw_sound X cp s (by decide) rfl fun r7 t7 h27 tk27 f0 f1 s => ?_
    refine args_cons ?_ rfl
    refine draw_sound X cp s (by decide) rfl fun r8 t8 h28 tk28 g0 g1 s => ?_
    refine args_cons (wpAny_Constant_int (args_cons (wpAny_Constant_int ?_) rfl)) rfl
    refine args_cons (wpAny_BinOp (wpAny_Constant_int ?_)) rfl
    refine draw_sound X cp s (by decide) rfl fun r9 t9 h29 tk29 i0 i1 s => ?_
    refine add_int (args_nil ?_)
    obtain ⟨a29, ta29, c29, tc29, po29, N29⟩ := s.N
    refine newList_K s.F N29 (fun U h30 F30 N30 l30 => ?_) (by rw [sizeLine_eq]; exact Nat.le_of_ble_eq_true rfl)
    have s3 := s.more po29 F30 N30 l30
    refine s3.putC (by rw [hcl]; rfl) rfl (by assumption) (Nat.ne_of_gt (l30 _ (.tail _ (.tail _ (.head _))))) (List.forall_mem_cons.mpr ⟨Nat.ne_of_lt (Nat.lt_succ_self _), fun _ h => absurd h List.not_mem_nil⟩) fun h31 tk31 o31 hd31 s => ?_
    have cp2 := cellP2 s (by rw [hcl]; rfl) d8
    -- text
    refine wpAny_execs_cons (wpAny_Assign_Name ?_ rfl)
    show C.wp (eval _ C.env) _ h31 tk31
    with_reducible refine text_sound (cl := ?cl1) X cp2 s ?h1 ?h2 ?h3 ?h4 ?h5 ?h6 ?h7 ?h8 ?h9 ?turn ?go
    case h1 => decide
    case h2 => rfl
    case h3 => rfl
    case h4 => rfl
    case h5 => show closureFor _ (envX _ _ _ _ _ C.cl) = _; rw [hcl]; exact rfl
    case h6 => decide
    case h7 => rfl
    case h8 => decide
    case h9 => rfl
    case turn => exact fun s hs => turn_chr X hs rfl (.tail _ (.tail _ (.head _))) d8 rfl (.tail _ (.head _)) hd31 (.head _) rfl (uni_units e0 e1 f0 f1 g0 g1 i0 i1) rfl rfl (fun _ => rfl) (fun _ => rfl) (fun _ => rfl) (fun _ => rfl)
    intro tx tt h32 tk32 hl hv s
    refine s.put (z := .str tx 14) ⟨hl, tt, rfl⟩ rfl fun m32 h33 tk33 s => ?_
    have l100 : tx.length ≤ 100 := by omega
    have e100 : (escL tx).length ≤ 100 := by have := escL_len tx; omega
    refine st_if (fs := [s381 _, s433 _, s388 _]) (N := 12) (glT_ok _) X.hd X.hu s ⟨⟨l100, hv⟩, ⟨l100, hv⟩, fun q => nel q, fun _ => ⟨⟨l100, hv⟩, e100, by show (unescL (escL tx) != tx) = false; rw [unesc_esc hv]; exact bne_self_eq_false _⟩⟩ fun h34 tk34 s => ?_
    -- loose
    refine wpAny_execs_cons (wpAny_Assign_Name ?_ rfl)
    show C.wp (eval _ C.env) _ h34 tk34
    with_reducible refine text_sound (cl := ?cl2) X cp2 s ?j1 ?j2 ?j3 ?j4 ?j5 ?j6 ?j7 ?j8 ?j9 ?turn2 ?go2
    case j1 => decide
    case j2 => rfl
    case j3 => rfl
    case j4 => rfl
    case j5 => show closureFor _ (envX _ _ _ _ _ C.cl) = _; rw [hcl]; exact rfl
    case j6 => decide
    case j7 => rfl
    case j8 => decide
    case j9 => rfl
    case turn2 => exact fun s hs => turn_loose X hs rfl (.tail _ (.tail _ (.head _))) d8 rfl (fun _ => rfl) (fun _ => rfl)
    intro lo tl h35 tk35 hll hlv s
    refine s.put (z := .str lo 14) ⟨hll, tl, rfl⟩ rfl fun m35 h36 tk36 s => ?_
    have lo100 : lo.length ≤ 100 := by omega
    refine st_if (fs := [s388 _, s447 _]) (N := 12) (glT_ok _) X.hd X.hu s ⟨lo100, lo100, fun q => nel q, fun _ => ⟨l100, l100, bne_self_eq_false _⟩⟩ fun h37 tk37 s => ?_
    have ez : (PySem.Str.ofString "Thu Jan 01 1970 00:00:00 GMT+0100").cps.toList = zeroL := by decide +kernel
    refine wpAny_execs_cons (wpAny_Return_some ?_)
    refine pure_sound (fs := [s353 _]) (N := 12) (K := fun z => z = .bool true) (glT_ok _) X.hd X.hu s (by
      refine ⟨trivial, fun h => ?_, fun j hj => ?_⟩
      · rw [ez, zero_parse] at h; cases h
      · rw [ez, zero_parse] at hj; cases hj; exact rfl) fun z v h38 tk38 rest38 hz s rv => ?_
    subst hz
    obtain rfl : v = .bool true := rv
    exact ⟨rfl, h38, tk38, _, rfl, s.F⟩
end Mine
theorem PySem.Challenge.cw_nt0366_01_holds : PySem.Challenge.rw_nt0366_01.Holds := by
  exact Mine.lawT
